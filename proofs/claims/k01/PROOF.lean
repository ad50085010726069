import PyProof.Rows.All
import Wide.All
import OpenK.AllK
import Wide.FinOn
import HandS.ForMost
import HandS.ForExc
import HandS.ExcInit
import HandS.ExcSuper
import HandS.Wide
import HandS.Deep
import HandS.Flow
import HandS.Conv
import HandS.TryMany
import HandS.CallSlots
import HandS.HeadHook2
import HandS.HeadEnd
import HandS.Head2
import HandS.DictComp
import HandS.SortInts
import HandS.SortRule
import HandS.Zip
import HandS.DictTup
import HandS.DictEq
import HandS.TupAny
import HandS.Style
import HandS.TupMul
import KE.GoesEnum
import HandS.Star
import HandS.ExcField
import HandS.Small
import KE.KSuper
import HandS.Nested
import HandS.Codes
import HandS.HeadHook1
import PySem.Challenge.RW_samplesonce_k01_main_moves_put_together
set_option Elab.async false
set_option linter.all false
set_option maxRecDepth 100000
set_option maxHeartbeats 4000000
/-! Fe, part A: data on the abstract heap, away from what is owned. -/
namespace Fe
open PySem PySem.Spec PyProof.Rows L2

abbrev PD := PyData

/-- what an evaluation comes to: a value, an own error with its number, or nothing that is told -/
inductive R (α : Type) where
  | ok (a : α)
  | exc (c : Str) (i : Int)
  | bad
def R.bind {α β : Type} (r : R α) (f : α → R β) : R β := match r with
  | .ok a => f a
  | .exc c i => .exc c i
  | .bad => .bad
theorem R.bind_ok {α β : Type} (a : α) (f : α → R β) : (R.ok a).bind f = f a := rfl

/-- a key as data -/
def kP : Key → PD
  | .inl i => .int i
  | .inr x => .str x
/-- the pairs that a dict holds at a, keys as data -/
def DPs (H : Hp) (a : Addr) (ps : List (PD × V)) : Prop :=
  (∃ kvs : List (Key × V), Rd H a (.dK kvs) ∧ ps = kvs.map fun p => (kP p.1, p.2)) ∨
  (∃ kvs : List (List Key × V), Rd H a (.dT kvs) ∧ ps = kvs.map fun p => (PyData.tuple (p.1.map kP), p.2))
mutual
/-- the value v is the data d on the heap H; none of its lists and dicts is owned -/
inductive RX (K : PySem.W.Frag) (O : Addr → Prop) (H : Hp) : V → PD → Prop
  | non : RX K O H .non .none
  | bl (b : Bool) : RX K O H (.bl b) (.bool b)
  | int (i : Int) : RX K O H (.int i) (.int i)
  | str (x : Str) (h : PyData.strOk x = true) : RX K O H (.str x) (.str x)
  | lst {a : Addr} {xs : List V} {ds : List PD} (ho : ¬ O a) (h : Rd H a (.lst xs)) (r : RXs K O H xs ds) : RX K O H (.ref a) (.list ds)
  | tup {a : Addr} {xs : List V} {ds : List PD} (h : SqT K H a xs) (r : RXs K O H xs ds) : RX K O H (.ref a) (.tuple ds)
  | dct {a : Addr} {ps : List (PD × V)} {ds : List (PD × PD)} (ho : ¬ O a) (h : DPs H a ps) (r : RXp K O H ps ds) : RX K O H (.ref a) (.dict ds)
inductive RXs (K : PySem.W.Frag) (O : Addr → Prop) (H : Hp) : List V → List PD → Prop
  | nil : RXs K O H [] []
  | cons {v : V} {d : PD} {vs : List V} {ds : List PD} (h : RX K O H v d) (r : RXs K O H vs ds) : RXs K O H (v :: vs) (d :: ds)
inductive RXp (K : PySem.W.Frag) (O : Addr → Prop) (H : Hp) : List (PD × V) → List (PD × PD) → Prop
  | nil : RXp K O H [] []
  | cons {k : PD} {v : V} {d : PD} {vs : List (PD × V)} {ds : List (PD × PD)} (h : RX K O H v d) (r : RXp K O H vs ds) : RXp K O H ((k, v) :: vs) ((k, d) :: ds)
end

theorem Rd.same {H H' : Hp} {a : Addr} {u : HO} (s : Same H H') (h : Rd H a u) : Rd H' a u := by
  rcases h with h | ⟨o, h⟩
  · exact .inl (s _ _ h)
  · exact .inr ⟨o, s _ _ h⟩
theorem SqT.same {K : PySem.W.Frag} {H H' : Hp} {a : Addr} {xs : List V} (s : Same H H') (h : SqT K H a xs) : SqT K H' a xs := by
  rcases h with h | h
  · exact .inl (Rd.same s h)
  · exact .inr h
theorem DPs.same {H H' : Hp} {a : Addr} {ps : List (PD × V)} (s : Same H H') (h : DPs H a ps) : DPs H' a ps := by
  rcases h with ⟨k, h, e⟩ | ⟨k, h, e⟩
  · exact .inl ⟨k, Rd.same s h, e⟩
  · exact .inr ⟨k, Rd.same s h, e⟩

/-- two heaps, two owned sets: what reads of the one reads of the other -/
structure Lift (O : Addr → Prop) (H : Hp) (O' : Addr → Prop) (H' : Hp) : Prop where
  rd : ∀ a u, ¬ O a → Rd H a u → Rd H' a u
  tp : ∀ a xs, Rd H a (.tup xs) → Rd H' a (.tup xs)
  ow : ∀ a u, ¬ O a → Rd H a u → ¬ O' a

mutual
theorem RX.lift {K : PySem.W.Frag} {O O' : Addr → Prop} {H H' : Hp} (L : Lift O H O' H') : ∀ {v : V} {d : PD}, RX K O H v d → RX K O' H' v d
  | _, _, .non => .non
  | _, _, .bl b => .bl b
  | _, _, .int i => .int i
  | _, _, .str x h => .str x h
  | _, _, .lst ho h r => .lst (L.ow _ _ ho h) (L.rd _ _ ho h) (RXs.lift L r)
  | _, _, .tup h r => .tup (by
      rcases h with h | h
      · exact .inl (L.tp _ _ h)
      · exact .inr h) (RXs.lift L r)
  | _, _, .dct ho h r => .dct (by
      rcases h with ⟨k, h, e⟩ | ⟨k, h, e⟩
      · exact L.ow _ _ ho h
      · exact L.ow _ _ ho h) (by
      rcases h with ⟨k, h, e⟩ | ⟨k, h, e⟩
      · exact .inl ⟨k, L.rd _ _ ho h, e⟩
      · exact .inr ⟨k, L.rd _ _ ho h, e⟩) (RXp.lift L r)
theorem RXs.lift {K : PySem.W.Frag} {O O' : Addr → Prop} {H H' : Hp} (L : Lift O H O' H') : ∀ {v : List V} {d : List PD}, RXs K O H v d → RXs K O' H' v d
  | _, _, .nil => .nil
  | _, _, .cons h r => .cons (RX.lift L h) (RXs.lift L r)
theorem RXp.lift {K : PySem.W.Frag} {O O' : Addr → Prop} {H H' : Hp} (L : Lift O H O' H') : ∀ {v : List (PD × V)} {d : List (PD × PD)}, RXp K O H v d → RXp K O' H' v d
  | _, _, .nil => .nil
  | _, _, .cons h r => .cons (RX.lift L h) (RXp.lift L r)
end

section
variable {K : PySem.W.Frag} {O O' : Addr → Prop} {H H' : Hp} {v : V} {d : PD} {a : Addr} {o : HO}
theorem Lift.same (s : Same H H') : Lift O H O H' := ⟨fun _ _ _ h => Rd.same s h, fun _ _ h => Rd.same s h, fun _ _ h _ => h⟩
theorem Lift.less (l : ∀ a, O' a → O a) : Lift O H O' H := ⟨fun _ _ _ h => h, fun _ _ h => h, fun _ _ h _ z => h (l _ z)⟩
/-- an owned thing is written -/
theorem Lift.upd {u : HO} (ho : O a) (hu : H a = some u) (hm : Mut (some u)) : Lift O H O (upd H a o) := by
  refine ⟨fun b w hb h => ?_, fun b xs h => ?_, fun _ _ h _ => h⟩
  · have ne : b ≠ a := fun e => hb (e ▸ ho)
    rcases h with h | ⟨ob, h⟩
    · exact .inl (by rw [upd_ne ne]; exact h)
    · exact .inr ⟨ob, by rw [upd_ne ne]; exact h⟩
  · have ne : b ≠ a := fun e => by
      subst e
      rcases h with h | ⟨ob, h⟩
      · rw [hu] at h; cases h; exact hm
      · rw [hu] at h; cases h; exact hm
    rcases h with h | ⟨ob, h⟩
    · exact .inl (by rw [upd_ne ne]; exact h)
    · exact .inr ⟨ob, by rw [upd_ne ne]; exact h⟩
/-- a new thing is owned from now on -/
theorem Lift.own (hn : H a = none) : Lift O H (fun b => O b ∨ b = a) H :=
  ⟨fun _ _ _ h => h, fun _ _ h => h, fun b u hb h z => by
    rcases z with z | z
    · exact hb z
    · subst z
      rcases h with h | ⟨ob, h⟩
      · rw [hn] at h; cases h
      · rw [hn] at h; cases h⟩
theorem Lift.trans {O1 O2 O3 : Addr → Prop} {H1 H2 H3 : Hp} (x : Lift O1 H1 O2 H2) (y : Lift O2 H2 O3 H3) : Lift O1 H1 O3 H3 :=
  ⟨fun a u h r => y.rd a u (x.ow a u h r) (x.rd a u h r), fun a xs r => y.tp a xs (x.tp a xs r), fun a u h r => y.ow a u (x.ow a u h r) (x.rd a u h r)⟩
theorem RX.same (s : Same H H') (h : RX K O H v d) : RX K O H' v d := h.lift (Lift.same s)
theorem RXs.same {vs : List V} {ds : List PD} (s : Same H H') (h : RXs K O H vs ds) : RXs K O H' vs ds := h.lift (Lift.same s)
theorem RXp.same {vs : List (PD × V)} {ds : List (PD × PD)} (s : Same H H') (h : RXp K O H vs ds) : RXp K O H' vs ds := h.lift (Lift.same s)
theorem RX.less (l : ∀ a, O' a → O a) (h : RX K O H v d) : RX K O' H v d := h.lift (Lift.less l)
theorem RXs.less {vs : List V} {ds : List PD} (l : ∀ a, O' a → O a) (h : RXs K O H vs ds) : RXs K O' H vs ds := h.lift (Lift.less l)
theorem RXp.less {vs : List (PD × V)} {ds : List (PD × PD)} (l : ∀ a, O' a → O a) (h : RXp K O H vs ds) : RXp K O' H vs ds := h.lift (Lift.less l)
theorem same_new (h : H a = none) : Same H (upd H a o) := fun b x e => by
  rw [upd_ne (ne_of_none e h)]
  exact e
end

theorem RXs.length {K : PySem.W.Frag} {O : Addr → Prop} {H : Hp} : ∀ {vs : List V} {ds : List PD}, RXs K O H vs ds → vs.length = ds.length
  | _, _, .nil => rfl
  | _, _, .cons _ r => by simp [RXs.length r]
theorem RXs.get {K : PySem.W.Frag} {O : Addr → Prop} {H : Hp} : ∀ {vs : List V} {ds : List PD} {i : Nat} {d : PD}, RXs K O H vs ds → ds[i]? = some d → ∃ v, vs[i]? = some v ∧ RX K O H v d
  | _, _, _, _, .nil, h => by simp at h
  | _, _, 0, _, .cons h _, e => ⟨_, rfl, by simp at e; subst e; exact h⟩
  | _, _, i + 1, _, .cons _ r, e => by
    obtain ⟨v, e1, h1⟩ := RXs.get (i := i) r (by simpa using e)
    exact ⟨v, by simpa using e1, h1⟩
theorem RXs.get' {K : PySem.W.Frag} {O : Addr → Prop} {H : Hp} : ∀ {vs : List V} {ds : List PD} {i : Nat} {v : V}, RXs K O H vs ds → vs[i]? = some v → ∃ d, ds[i]? = some d ∧ RX K O H v d
  | _, _, _, _, .nil, h => by simp at h
  | _, _, 0, _, .cons h _, e => ⟨_, rfl, by simp at e; subst e; exact h⟩
  | _, _, i + 1, _, .cons _ r, e => by
    obtain ⟨v, e1, h1⟩ := RXs.get' (i := i) r (by simpa using e)
    exact ⟨v, by simpa using e1, h1⟩
theorem RXs.append {K : PySem.W.Frag} {O : Addr → Prop} {H : Hp} : ∀ {vs us : List V} {ds es : List PD}, RXs K O H vs ds → RXs K O H us es → RXs K O H (vs ++ us) (ds ++ es)
  | _, _, _, _, .nil, h => h
  | _, _, _, _, .cons h r, h2 => .cons h (RXs.append r h2)
theorem RXs.take {K : PySem.W.Frag} {O : Addr → Prop} {H : Hp} : ∀ (n : Nat) {vs : List V} {ds : List PD}, RXs K O H vs ds → RXs K O H (vs.take n) (ds.take n)
  | 0, _, _, _ => by simp; exact .nil
  | n + 1, _, _, .nil => by simp; exact .nil
  | n + 1, _, _, .cons h r => by simp; exact .cons h (RXs.take n r)
theorem RXs.drop {K : PySem.W.Frag} {O : Addr → Prop} {H : Hp} : ∀ (n : Nat) {vs : List V} {ds : List PD}, RXs K O H vs ds → RXs K O H (vs.drop n) (ds.drop n)
  | 0, _, _, h => by simpa using h
  | n + 1, _, _, .nil => by simp; exact .nil
  | n + 1, _, _, .cons h r => by simp; exact RXs.drop n r
theorem RXs.set {K : PySem.W.Frag} {O : Addr → Prop} {H : Hp} {v : V} {d : PD} (h : RX K O H v d) : ∀ (n : Nat) {vs : List V} {ds : List PD}, RXs K O H vs ds → RXs K O H (vs.set n v) (ds.set n d)
  | _, _, _, .nil => .nil
  | 0, _, _, .cons _ r => .cons h r
  | n + 1, _, _, .cons g r => .cons g (RXs.set h n r)
theorem RXs.ints {K : PySem.W.Frag} {O : Addr → Prop} {H : Hp} : ∀ {vs : List V} {ns : List Int}, RXs K O H vs (ns.map PyData.int) → vs = ns.map V.int
  | _, [], h => by cases h; rfl
  | _, n :: ns, h => by
    cases h with
    | cons h r =>
      cases h
      rw [RXs.ints r]; rfl
theorem RXs.bools {K : PySem.W.Frag} {O : Addr → Prop} {H : Hp} : ∀ {vs : List V} {ns : List Bool}, RXs K O H vs (ns.map PyData.bool) → vs = ns.map V.bl
  | _, [], h => by cases h; rfl
  | _, n :: ns, h => by
    cases h with
    | cons h r =>
      cases h
      rw [RXs.bools r]; rfl

/-! ### data without dicts -/
mutual
def noD : PD → Bool
  | .none | .bool _ | .int _ | .str _ => true
  | .list xs | .tuple xs => noDs xs
  | .dict _ => false
def noDs : List PD → Bool
  | [] => true
  | x :: xs => noD x && noDs xs
end
mutual
theorem RX.dp {K : PySem.W.Frag} {O : Addr → Prop} {H : Hp} : ∀ {v : V} {d : PD}, RX K O H v d → noD d = true → Dp K H v d ∧ d.canLay0 = true
  | _, _, .non, _ => ⟨.non, by simp [PyData.canLay0]⟩
  | _, _, .bl b, _ => ⟨.bl b, by simp [PyData.canLay0]⟩
  | _, _, .int i, _ => ⟨.int i, by simp [PyData.canLay0]⟩
  | _, _, .str x h, _ => ⟨.str x, by simpa [PyData.canLay0] using h⟩
  | _, _, .lst _ h r, e => by
    obtain ⟨r1, r2⟩ := RXs.dp r (by simpa [noD] using e)
    exact ⟨.lst (.inl h) r1, by simpa [PyData.canLay0] using r2⟩
  | _, _, .tup h r, e => by
    obtain ⟨r1, r2⟩ := RXs.dp r (by simpa [noD] using e)
    exact ⟨.tup h r1, by simpa [PyData.canLay0] using r2⟩
  | _, _, .dct .., e => by simp [noD] at e
theorem RXs.dp {K : PySem.W.Frag} {O : Addr → Prop} {H : Hp} : ∀ {v : List V} {d : List PD}, RXs K O H v d → noDs d = true → DpAll K H v d ∧ PyData.canLayAll0 d = true
  | _, _, .nil, _ => ⟨.nil, by simp [PyData.canLayAll0]⟩
  | _, _, .cons h r, e => by
    have e' := Bool.and_eq_true_iff.mp (by simpa [noDs] using e)
    obtain ⟨h1, h2⟩ := RX.dp h e'.1
    obtain ⟨r1, r2⟩ := RXs.dp r e'.2
    exact ⟨.cons h1 r1, by simp [PyData.canLayAll0, h2, r2]⟩
end
end Fe
set_option Elab.async false
set_option linter.all false
set_option maxRecDepth 100000
set_option maxHeartbeats 4000000
/-! Fe, part B: the language, its evaluator, and the check that it is the given text. -/
namespace Fe
open PySem PySem.Spec PyProof.Rows L2

inductive Op where | add | sub | mul | fdiv | mod | pow
  deriving DecidableEq
inductive Cp where | lt | le | gt | ge | eq | ne | isin | notin
  deriving DecidableEq
inductive Bi where | len | abs | min2 | max2 | minL | maxL | int | tuple | list | sum | any | all | sorted
  deriving DecidableEq

inductive Tg where
  | nm (i : Nat)
  | tp (ts : List Tg)

mutual
inductive E where
  | var (i : Nat)
  | int (i : Int)
  | bl (b : Bool)
  | non
  | str (s : Str)
  | glob (x : Str)
  | tup (es : Es)
  | lst (es : Es)
  | bin (o : Op) (a b : E)
  | neg (a : E)
  | cmp (c : Cp) (a b : E)
  | chn (c d : Cp) (x y z : E)
  | isN (a : E)
  | noN (a : E)
  | isB (b : Bool) (a : E)
  | noB (b : Bool) (a : E)
  | ands (es : Es)
  | ors (es : Es)
  | nt (a : E)
  | ite (c a b : E)
  | ix (a b : E)
  | sl (a : E) (lo hi : Eo)
  | call (f : Nat) (es : Es)
  | bi (b : Bi) (es : Es)
  | comp (elt : E) (tg : Tg) (it : It) (cs : Eo) (own : List Nat)
  | disp (l : Bool) (d : Ed)
  | dct (d : Kv)
inductive Kv where
  | nil
  | cons (k v : E) (r : Kv)
inductive Ed where
  | nil
  | one (e : E) (r : Ed)
  | star (e : E) (r : Ed)
inductive Es where
  | nil
  | cons (e : E) (r : Es)
inductive Eo where
  | none
  | some (e : E)
inductive It where
  | e (a : E)
  | r1 (a : E)
  | r2 (a b : E)
  | r3 (a b c : E)
  | zip (a b : E)
  | enum (a : E)
end

abbrev Env := List (Option PD)

/-! ### values -/
def isNoneD : PD → Bool
  | .none => true
  | _ => false
def sLine : Nat := 16777216
def okLen (n : Nat) : Bool := decide (n ≤ sLine)
def binV : Op → PD → PD → R PD
  | .add, .int i, .int j => .ok (.int (i + j))
  | .add, .list a, .list b => if okLen (a.length + b.length) then .ok (.list (a ++ b)) else .bad
  | .add, .tuple a, .tuple b => if okLen (a.length + b.length) then .ok (.tuple (a ++ b)) else .bad
  | .sub, .int i, .int j => .ok (.int (i - j))
  | .mul, .list ds, .int k => if decide (-(2 ^ 63) ≤ k ∧ k < 2 ^ 63 ∧ ds.length * k.toNat ≤ sLine) then .ok (.list (List.replicate k.toNat ds).flatten) else .bad
  | .mul, .tuple ds, .int k => if decide (ds.length ≠ 0 ∧ 2 ≤ k ∧ k ≤ 1000 ∧ ds.length ≤ 1000) then .ok (.tuple (List.replicate k.toNat ds).flatten) else .bad
  | .mul, .int i, .int j => if decide (i.natAbs.log2 + j.natAbs.log2 < 1000000) then .ok (.int (i * j)) else .bad
  | .fdiv, .int i, .int j => if decide (j ≠ 0 ∧ j.natAbs.log2 < 9000) then .ok (.int (i.fdiv j)) else .bad
  | .mod, .int i, .int j => if decide (j ≠ 0) then .ok (.int (i.fmod j)) else .bad
  | .pow, .int i, .int j => if decide (0 ≤ j ∧ j ≤ 1000 ∧ i.natAbs < 2 ^ 64) then .ok (.int (i ^ j.toNat)) else .bad
  | _, _, _ => .bad
def eqOk (d e : PD) : Bool := noD d && noD e && decide (d.depth ≤ 64) && decide (e.depth ≤ 64)
def flatD : PD → Bool
  | .none | .bool _ | .int _ | .str _ => true
  | _ => false
def inV (x : PD) (ds : List PD) : Bool := ds.any fun z => PyData.eqv z x
def cmpV : Cp → PD → PD → R PD
  | .lt, .int i, .int j => .ok (.bool (decide (i < j)))
  | .le, .int i, .int j => .ok (.bool (decide (i ≤ j)))
  | .gt, .int i, .int j => .ok (.bool (decide (j < i)))
  | .ge, .int i, .int j => .ok (.bool (decide (j ≤ i)))
  | .eq, d, e => if eqOk d e then .ok (.bool (PyData.eqv d e)) else .bad
  | .ne, d, e => if eqOk d e then .ok (.bool (!PyData.eqv d e)) else .bad
  | .isin, d, .list ds => if eqOk d (.list ds) then .ok (.bool (inV d ds)) else .bad
  | .notin, d, .list ds => if eqOk d (.list ds) then .ok (.bool (!inV d ds)) else .bad
  | .isin, d, .tuple ds => if flatD d && ds.all flatD then .ok (.bool (inV d ds)) else .bad
  | .notin, d, .tuple ds => if flatD d && ds.all flatD then .ok (.bool (!inV d ds)) else .bad
  | _, _, _ => .bad
def ints? : List PD → Option (List Int)
  | [] => some []
  | .int i :: r => (ints? r).map (i :: ·)
  | _ :: _ => none
def bools? : List PD → Option (List Bool)
  | [] => some []
  | .bool i :: r => (bools? r).map (i :: ·)
  | _ :: _ => none
def leastI : Int → List Int → Int
  | m, [] => m
  | m, x :: r => leastI (if x < m then x else m) r
def mostI : Int → List Int → Int
  | m, [] => m
  | m, x :: r => mostI (if m < x then x else m) r
/-- insertion of an int into a rising list -/
def insI (x : Int) : List Int → List Int
  | [] => [x]
  | y :: r => if x ≤ y then x :: y :: r else y :: insI x r
def sortI : List Int → List Int
  | [] => []
  | x :: r => insI x (sortI r)
def biV : Bi → List PD → R PD
  | .len, [.list ds] => .ok (.int ds.length)
  | .len, [.tuple ds] => .ok (.int ds.length)
  | .abs, [.int i] => .ok (.int i.natAbs)
  | .min2, [.int i, .int j] => .ok (.int (if j < i then j else i))
  | .max2, [.int i, .int j] => .ok (.int (if i < j then j else i))
  | .minL, [.list ds] => (match ints? ds with | some (x :: r) => .ok (.int (leastI x r)) | _ => .bad)
  | .maxL, [.list ds] => (match ints? ds with | some (x :: r) => .ok (.int (mostI x r)) | _ => .bad)
  | .int, [.int i] => .ok (.int i)
  | .int, [.bool b] => .ok (.int (if b then 1 else 0))
  | .tuple, [.list ds] => .ok (.tuple ds)
  | .tuple, [.tuple ds] => .ok (.tuple ds)
  | .list, [.list ds] => .ok (.list ds)
  | .list, [.tuple ds] => .ok (.list ds)
  | .sum, [.list ds] => (match ints? ds with | some ns => .ok (.int ns.sum) | _ => .bad)
  | .any, [.list ds] => (match bools? ds with | some bs => .ok (.bool (bs.any id)) | _ => .bad)
  | .all, [.list ds] => (match bools? ds with | some bs => .ok (.bool (bs.all id)) | _ => .bad)
  | .sorted, [.list ds] => (match ints? ds with | some ns => .ok (.list ((sortI ns).map .int)) | _ => .bad)
  | _, _ => .bad
/-- keys of dicts: ints and texts -/
def keyEq : PD → PD → Bool
  | .int i, .int j => decide (i = j)
  | .str x, .str y => decide (x = y)
  | _, _ => false
def keyOf : PD → Option Key
  | .int i => some (.inl i)
  | .str x => some (.inr x)
  | _ => none
def getP (kvs : List (PD × PD)) (k : PD) : Option PD := (kvs.find? fun p => keyEq p.1 k).map (·.2)
def putP (kvs : List (PD × PD)) (k v : PD) : List (PD × PD) := if (kvs.any fun p => keyEq p.1 k) = true then kvs.map (fun p => if keyEq p.1 k then (p.1, v) else p) else kvs ++ [(k, v)]
def mergeP (kvs more : List (PD × PD)) : List (PD × PD) := more.foldl (fun acc p => putP acc p.1 p.2) kvs
def ixV : PD → PD → R PD
  | .dict kvs, k => (match getP kvs k with | some d => .ok d | none => .bad)
  | .list ds, .int i => (match atI ds i with | some d => .ok d | none => .bad)
  | .tuple ds, .int i => (match atI ds i with | some d => .ok d | none => .bad)
  | _, _ => .bad
def cutD (xs : List PD) (lo hi : Option Int) : List PD := (xs.drop (HT.sIx xs.length 0 lo)).take (HT.sIx xs.length xs.length hi - HT.sIx xs.length 0 lo)
def slV : PD → Option Int → Option Int → R PD
  | .list ds, lo, hi => .ok (.list (cutD ds lo hi))
  | .tuple ds, lo, hi => .ok (.tuple (cutD ds lo hi))
  | _, _, _ => .bad
def intOf : PD → R Int
  | .int i => .ok i
  | _ => .bad
def boolOf : PD → R Bool
  | .bool b => .ok b
  | _ => .bad
def itemsOf : PD → R (List PD)
  | .list ds => .ok ds
  | .tuple ds => .ok ds
  | _ => .bad
def inRg (i : Int) : Bool := decide (-(2 ^ 62) ≤ i ∧ i < 2 ^ 62)
def rngV (lo : Int) (n : Nat) : List PD := (List.range n).map fun k => .int (lo + (k : Nat))
def rngC (lo c : Int) (n : Nat) : List PD := (List.range n).map fun k => .int (lo + (k : Nat) * c)
def zipV (xs ys : List PD) : List PD := List.zipWith (fun x y => .tuple [x, y]) xs ys
def enumV : Nat → List PD → List PD
  | _, [] => []
  | n, x :: r => .tuple [.int n, x] :: enumV (n + 1) r
def zip2V : PD → PD → R (List PD)
  | .list a, .list b => .ok (zipV a b)
  | .tuple a, .tuple b => .ok (zipV a b)
  | _, _ => .bad
def enum1V : PD → R (List PD)
  | .list a => .ok (enumV 0 a)
  | .tuple a => .ok (enumV 0 a)
  | _ => .bad
def rng3V (i j c : Int) : R (List PD) :=
  if decide (inRg i = true ∧ inRg j = true ∧ c ≠ 0 ∧ c.natAbs < 1073741824 ∧ 0 ≤ Builtin.Range.rangeSize i j c) && Builtin.Range.small i j c then .ok (rngC i c (Builtin.Range.rangeSize i j c).toNat) else .bad

/-! ### targets -/
mutual
def tgSet : Tg → PD → Env → Option Env
  | .nm i, d, ρ => some (ρ.set i (some d))
  | .tp ts, .tuple ds, ρ => tgSets ts ds ρ
  | .tp ts, .list ds, ρ => tgSets ts ds ρ
  | .tp _, _, _ => none
def tgSets : List Tg → List PD → Env → Option Env
  | [], [], ρ => some ρ
  | t :: ts, d :: ds, ρ => (match tgSet t d ρ with | some ρ' => tgSets ts ds ρ' | none => none)
  | _, _, _ => none
end
def wipeE (ρ : Env) : List Nat → Env
  | [] => ρ
  | v :: vs => (wipeE ρ vs).set v none

/-! ### the evaluator of expressions -/
structure Sig where
  C : Nat → List PD → R PD
  G : List (Str × PD)
  X : Str → Str → Option Bool
/-- a comprehension's turns; an error within is not told -/
def compGo (f : PD → R (Option PD)) : List PD → R (List PD)
  | [] => .ok []
  | d :: ds => match f d with
    | .ok o => (match compGo f ds with
      | .ok r => .ok (match o with | some x => x :: r | none => r)
      | _ => .bad)
    | _ => .bad
mutual
def evE (S : Sig) : E → Env → R PD
  | .var i, ρ => (match ρ[i]? with | some (some d) => .ok d | _ => .bad)
  | .int i, _ => .ok (.int i)
  | .bl b, _ => .ok (.bool b)
  | .non, _ => .ok .none
  | .str s, _ => .ok (.str s)
  | .glob x, _ => (match S.G.lookup x with | some d => .ok d | none => .bad)
  | .tup es, ρ => (evEs S es ρ).bind fun ds => .ok (.tuple ds)
  | .lst es, ρ => (evEs S es ρ).bind fun ds => .ok (.list ds)
  | .bin o a b, ρ => (evE S a ρ).bind fun x => (evE S b ρ).bind fun y => binV o x y
  | .neg a, ρ => (evE S a ρ).bind fun x => (intOf x).bind fun i => .ok (.int (-i))
  | .cmp c a b, ρ => (evE S a ρ).bind fun x => (evE S b ρ).bind fun y => cmpV c x y
  | .chn c d a b z, ρ => (evE S a ρ).bind fun x => (evE S b ρ).bind fun y => (cmpV c x y).bind fun r => (boolOf r).bind fun k =>
      if k then (evE S z ρ).bind fun w => cmpV d y w else .ok (.bool false)
  | .isN a, ρ => (evE S a ρ).bind fun x => .ok (.bool (isNoneD x))
  | .noN a, ρ => (evE S a ρ).bind fun x => .ok (.bool (!isNoneD x))
  | .isB b a, ρ => (evE S a ρ).bind fun x => (boolOf x).bind fun k => .ok (.bool (k == b))
  | .noB b a, ρ => (evE S a ρ).bind fun x => (boolOf x).bind fun k => .ok (.bool (!(k == b)))
  | .ands es, ρ => evAnds S es ρ
  | .ors es, ρ => evOrs S es ρ
  | .nt a, ρ => (evE S a ρ).bind fun x => (boolOf x).bind fun k => .ok (.bool (!k))
  | .ite c a b, ρ => (evE S c ρ).bind fun x => (boolOf x).bind fun k => if k then evE S a ρ else evE S b ρ
  | .ix a b, ρ => (evE S a ρ).bind fun x => (evE S b ρ).bind fun y => ixV x y
  | .sl a lo hi, ρ => (evE S a ρ).bind fun x => (evEo S lo ρ).bind fun l => (evEo S hi ρ).bind fun h => slV x l h
  | .call f es, ρ => (evEs S es ρ).bind fun ds => S.C f ds
  | .bi b es, ρ => (evEs S es ρ).bind fun ds => biV b ds
  | .comp elt tg it cs own, ρ => (evIt S it ρ).bind fun items => (compGo (fun d => match tgSet tg d (wipeE ρ own) with
      | some ρ1 => (evC S cs ρ1).bind fun k => if k then (evE S elt ρ1).bind fun x => .ok (some x) else .ok none
      | none => .bad) items).bind fun ds => if okLen (items.length) then .ok (.list ds) else .bad
  | .disp l d, ρ => (evEd S d ρ).bind fun ds => if okLen ds.length then .ok (if l then .list ds else .tuple ds) else .bad
  | .dct p, ρ => (evKv S p ρ).bind fun ps => if decide (ps.length ≤ 15) && (!ps.isEmpty && ps.all fun p => (keyOf p.1).isSome) then .ok (.dict (mergeP [] ps)) else .bad
def evKv (S : Sig)  : Kv → Env → R (List (PD × PD))
  | .nil, _ => .ok []
  | .cons k v r, ρ => (evE S k ρ).bind fun x => (evE S v ρ).bind fun y => (evKv S r ρ).bind fun ps => .ok ((x, y) :: ps)
def evEd (S : Sig) : Ed → Env → R (List PD)
  | .nil, _ => .ok []
  | .one e r, ρ => (evE S e ρ).bind fun d => (evEd S r ρ).bind fun ds => .ok (d :: ds)
  | .star e r, ρ => (evE S e ρ).bind fun x => (itemsOf x).bind fun xs => (evEd S r ρ).bind fun ds => .ok (xs ++ ds)
def evEs (S : Sig) : Es → Env → R (List PD)
  | .nil, _ => .ok []
  | .cons e r, ρ => (evE S e ρ).bind fun d => (evEs S r ρ).bind fun ds => .ok (d :: ds)
/-- a slice's part -/
def evEo (S : Sig) : Eo → Env → R (Option Int)
  | .none, _ => .ok none
  | .some e, ρ => (evE S e ρ).bind fun x => (intOf x).bind fun i => .ok (some i)
/-- a clause's test -/
def evC (S : Sig) : Eo → Env → R Bool
  | .none, _ => .ok true
  | .some e, ρ => (evE S e ρ).bind fun x => boolOf x
def evAnds (S : Sig) : Es → Env → R PD
  | .nil, _ => .bad
  | .cons e .nil, ρ => evE S e ρ
  | .cons e r, ρ => (evE S e ρ).bind fun x => (boolOf x).bind fun k => if k then evAnds S r ρ else .ok (.bool false)
def evOrs (S : Sig) : Es → Env → R PD
  | .nil, _ => .bad
  | .cons e .nil, ρ => evE S e ρ
  | .cons e r, ρ => (evE S e ρ).bind fun x => (boolOf x).bind fun k => if k then .ok (.bool true) else evOrs S r ρ
def evIt (S : Sig) : It → Env → R (List PD)
  | .e a, ρ => (evE S a ρ).bind fun x => itemsOf x
  | .r1 a, ρ => (evE S a ρ).bind fun x => (intOf x).bind fun i => if inRg i then .ok (rngV 0 i.toNat) else .bad
  | .r2 a b, ρ => (evE S a ρ).bind fun x => (evE S b ρ).bind fun y => (intOf x).bind fun i => (intOf y).bind fun j => if inRg i && inRg j then .ok (rngV i (j - i).toNat) else .bad
  | .r3 a b c, ρ => (evE S a ρ).bind fun x => (evE S b ρ).bind fun y => (evE S c ρ).bind fun z => (intOf x).bind fun i => (intOf y).bind fun j => (intOf z).bind fun k => rng3V i j k
  | .zip a b, ρ => (evE S a ρ).bind fun x => (evE S b ρ).bind fun y => zip2V x y
  | .enum a, ρ => (evE S a ρ).bind fun x => enum1V x
end

/-! ### which slots' own things an expression hands on -/
mutual
def esc : E → List Nat
  | .var i => [i]
  | .int _ | .bl _ | .non | .str _ | .glob _ => []
  | .tup es | .lst es | .ands es | .ors es | .call _ es => escs es
  | .bin _ a b | .cmp _ a b | .ix a b => pk a ++ pk b
  | .neg a | .isN a | .noN a | .isB _ a | .noB _ a | .nt a => pk a
  | .chn _ _ a b c => pk a ++ (pk b ++ pk c)
  | .ite c a b => pk c ++ (esc a ++ esc b)
  | .sl a lo hi => pk a ++ (esco lo ++ esco hi)
  | .bi _ es => pks es
  | .comp elt _ it cs _ => escIt it ++ (esco cs ++ esc elt)
  | .disp _ d => escd d
  | .dct p => escp p
/-- .. where it is only looked at -/
def pk : E → List Nat
  | .var _ => []
  | .int _ | .bl _ | .non | .str _ | .glob _ => []
  | .tup es | .lst es | .ands es | .ors es | .call _ es => escs es
  | .bin _ a b | .cmp _ a b | .ix a b => pk a ++ pk b
  | .neg a | .isN a | .noN a | .isB _ a | .noB _ a | .nt a => pk a
  | .chn _ _ a b c => pk a ++ (pk b ++ pk c)
  | .ite c a b => pk c ++ (esc a ++ esc b)
  | .sl a lo hi => pk a ++ (esco lo ++ esco hi)
  | .bi _ es => pks es
  | .comp elt _ it cs _ => escIt it ++ (esco cs ++ esc elt)
  | .disp _ d => escd d
  | .dct p => escp p
def escp : Kv → List Nat
  | .nil => []
  | .cons k v r => pk k ++ (esc v ++ escp r)
def escd : Ed → List Nat
  | .nil => []
  | .one e r => esc e ++ escd r
  | .star e r => pk e ++ escd r
def escs : Es → List Nat
  | .nil => []
  | .cons e r => esc e ++ escs r
def pks : Es → List Nat
  | .nil => []
  | .cons e r => pk e ++ pks r
def esco : Eo → List Nat
  | .none => []
  | .some e => esc e
def escIt : It → List Nat
  | .e a | .r1 a | .enum a => pk a
  | .r2 a b | .zip a b => pk a ++ pk b
  | .r3 a b c => pk a ++ (pk b ++ pk c)
end
end Fe
set_option Elab.async false
set_option linter.all false
set_option maxRecDepth 100000
set_option maxHeartbeats 4000000
/-! Fe, part C: slots and data; operations by values. -/
namespace Fe
open PySem PySem.Spec PyProof.Rows L2

/-- the pairs of a dict that may be written -/
def DOwn (H : Hp) (a : Addr) (ps : List (PD × V)) : Prop :=
  (∃ kvs : List (Key × V), H a = some (.dK kvs) ∧ ps = kvs.map fun p => (kP p.1, p.2)) ∨
  (∃ kvs : List (List Key × V), H a = some (.dT kvs) ∧ ps = kvs.map fun p => (PyData.tuple (p.1.map kP), p.2))
theorem DOwn.rd {H : Hp} {a : Addr} {ps : List (PD × V)} (h : DOwn H a ps) : DPs H a ps := by
  rcases h with ⟨k, h, e⟩ | ⟨k, h, e⟩
  · exact .inl ⟨k, .inl h, e⟩
  · exact .inr ⟨k, .inl h, e⟩
theorem DOwn.same {H H' : Hp} {a : Addr} {ps : List (PD × V)} (s : Same H H') (h : DOwn H a ps) : DOwn H' a ps := by
  rcases h with ⟨k, h, e⟩ | ⟨k, h, e⟩
  · exact .inl ⟨k, s _ _ h, e⟩
  · exact .inr ⟨k, s _ _ h, e⟩
theorem keyEq_iff {k : Key} {d : PD} : keyEq (kP k) d = true ↔ d = kP k := by
  rcases k with i | x <;> cases d <;> simp [kP, keyEq, eq_comm]
theorem keyOf_kP {d : PD} {k : Key} (h : keyOf d = some k) : d = kP k := by
  cases d <;> simp [keyOf] at h <;> (subst h; rfl)
theorem getP_rx {K : PySem.W.Frag} {O : Addr → Prop} {H : Hp} : ∀ {kvs : List (Key × V)} {ds : List (PD × PD)} {d e : PD}, RXp K O H (kvs.map fun p => (kP p.1, p.2)) ds → getP ds d = some e → ∃ k v, d = kP k ∧ valV kvs k = some v ∧ RX K O H v e
  | [], ds, d, e, r, h => by
    cases r
    cases h
  | p :: kvs, ds, d, e, r, h => by
    obtain ⟨k, v⟩ := p
    cases r with
    | cons r1 r2 =>
      rename_i e1 ds1
      by_cases c : keyEq (kP k) d = true
      · have h' : some e1 = some e := by simpa [getP, List.find?_cons, c] using h
        cases h'
        exact ⟨k, v, keyEq_iff.mp c, by rw [valV_pos rfl], r1⟩
      · have c' : keyEq (kP k) d = false := by simpa using c
        have h' : getP ds1 d = some e := by simpa [getP, List.find?_cons, c'] using h
        obtain ⟨k2, v2, g1, g2, g3⟩ := getP_rx r2 h'
        refine ⟨k2, v2, g1, ?_, g3⟩
        rw [valV_neg (fun z => c (by
          have z : k = k2 := z
          rw [z, g1]
          exact keyEq_iff.mpr rfl))]
        exact g2
theorem any_rx {K : PySem.W.Frag} {O : Addr → Prop} {H : Hp} {k : Key} : ∀ {kvs : List (Key × V)} {ds : List (PD × PD)}, RXp K O H (kvs.map fun p => (kP p.1, p.2)) ds → (ds.any fun p => keyEq p.1 (kP k)) = kvs.any fun p => decide (p.1 = k)
  | [], ds, r => by cases r; rfl
  | p :: kvs, ds, r => by
    obtain ⟨j, v⟩ := p
    cases r with
    | cons r1 r2 =>
      rw [List.any_cons, List.any_cons, any_rx r2]
      congr 1
      rw [Bool.eq_iff_iff, keyEq_iff]
      rcases j with i | x <;> rcases k with i2 | x2 <;> simp [kP, eq_comm]
theorem put_rx {K : PySem.W.Frag} {O : Addr → Prop} {H : Hp} {k : Key} {v : V} {d : PD} (rv : RX K O H v d) {kvs : List (Key × V)} {ds : List (PD × PD)} (r : RXp K O H (kvs.map fun p => (kP p.1, p.2)) ds) : RXp K O H ((putK kvs k v).map fun p => (kP p.1, p.2)) (putP ds (kP k) d) := by
  unfold putK putP
  rw [any_rx r]
  split
  · have gen : ∀ {kvs : List (Key × V)} {ds : List (PD × PD)}, RXp K O H (kvs.map fun p => (kP p.1, p.2)) ds → RXp K O H ((kvs.map fun kv => if kv.1 = k then (kv.1, v) else kv).map fun p => (kP p.1, p.2)) (ds.map fun p => if keyEq p.1 (kP k) then (p.1, d) else p) := by
      intro kvs
      induction kvs with
      | nil => intro ds r; cases r; exact .nil
      | cons p kvs ih =>
        intro ds r
        obtain ⟨j, u⟩ := p
        cases r with
        | cons r1 r2 =>
          rw [List.map_cons, List.map_cons, List.map_cons]
          by_cases c : j = k
          · have c2 : keyEq (kP j) (kP k) = true := keyEq_iff.mpr (by rw [c])
            rw [if_pos c, if_pos c2]
            exact .cons rv (ih r2)
          · have c2 : ¬ keyEq (kP j) (kP k) = true := fun z => c (by
              have z := keyEq_iff.mp z
              rcases j with i | x <;> rcases k with i2 | x2 <;> simp [kP] at z <;> simp [z])
            rw [if_neg c, if_neg c2]
            exact .cons r1 (ih r2)
    exact gen r
  · have gen : ∀ {kvs : List (Key × V)} {ds : List (PD × PD)}, RXp K O H (kvs.map fun p => (kP p.1, p.2)) ds → RXp K O H ((kvs ++ [(k, v)]).map fun p => (kP p.1, p.2)) (ds ++ [(kP k, d)]) := by
      intro kvs
      induction kvs with
      | nil => intro ds r; cases r; exact .cons rv .nil
      | cons p kvs ih =>
        intro ds r
        obtain ⟨j, u⟩ := p
        cases r with
        | cons r1 r2 => exact .cons r1 (ih r2)
    exact gen r
theorem merge_rx {K : PySem.W.Frag} {O : Addr → Prop} {H : Hp} : ∀ {more : List (Key × V)} {ds : List (PD × PD)} {kvs : List (Key × V)} {es : List (PD × PD)}, RXp K O H (more.map fun p => (kP p.1, p.2)) ds → RXp K O H (kvs.map fun p => (kP p.1, p.2)) es → RXp K O H ((mergeK kvs more).map fun p => (kP p.1, p.2)) (mergeP es ds)
  | [], ds, kvs, es, r, r2 => by cases r; exact r2
  | p :: more, ds, kvs, es, r, r2 => by
    obtain ⟨k, v⟩ := p
    cases r with
    | cons r1 r3 =>
      rename_i d1 ds1
      show RXp K O H ((mergeK (putK kvs k v) more).map fun p => (kP p.1, p.2)) (mergeP (putP es (kP k) d1) ds1)
      exact merge_rx r3 (put_rx r1 r2)
/-- what stands in an owned slot -/
def Own (K : PySem.W.Frag) (O : Addr → Prop) (H : Hp) (a : Addr) : PD → Prop
  | .list ds => ∃ xs, H a = some (.lst xs) ∧ RXs K O H xs ds
  | .dict kvs => ∃ ps, DOwn H a ps ∧ RXp K O H ps kvs
  | _ => False
def isL : PD → Bool
  | .list _ | .dict _ => true
  | _ => false
theorem Own.isL {K : PySem.W.Frag} {O : Addr → Prop} {H : Hp} {a : Addr} {d : PD} (h : Own K O H a d) : isL d = true := by
  cases d <;> first | rfl | exact h.elim
theorem Own.same {K : PySem.W.Frag} {O : Addr → Prop} {H H' : Hp} {a : Addr} {d : PD} (s : Same H H') (h : Own K O H a d) : Own K O H' a d := by
  cases d <;> first | exact h.elim | skip
  · obtain ⟨xs, e, r⟩ := h
    exact ⟨xs, s _ _ e, r.same s⟩
  · obtain ⟨xs, e, r⟩ := h
    exact ⟨xs, e.same s, r.same s⟩
theorem Own.rx {K : PySem.W.Frag} {O : Addr → Prop} {H : Hp} {a : Addr} {d : PD} (no : ¬ O a) (h : Own K O H a d) : RX K O H (.ref a) d := by
  cases d <;> first | exact h.elim | skip
  · obtain ⟨xs, e, r⟩ := h
    exact .lst no (.inl e) r
  · obtain ⟨xs, e, r⟩ := h
    exact .dct no e.rd r
theorem Own.lift {K : PySem.W.Frag} {O O' : Addr → Prop} {H H' : Hp} {a : Addr} {d : PD} (L : Lift O H O' H') (e : H' a = H a) (h : Own K O H a d) : Own K O' H' a d := by
  cases d <;> first | exact h.elim | skip
  · obtain ⟨xs, e', r⟩ := h
    exact ⟨xs, e.trans e', r.lift L⟩
  · obtain ⟨xs, e', r⟩ := h
    refine ⟨xs, ?_, r.lift L⟩
    rcases e' with ⟨k, h, z⟩ | ⟨k, h, z⟩
    · exact .inl ⟨k, e.trans h, z⟩
    · exact .inr ⟨k, e.trans h, z⟩
theorem Own.mut {K : PySem.W.Frag} {O : Addr → Prop} {H : Hp} {a : Addr} {d : PD} (h : Own K O H a d) : ∃ u, H a = some u ∧ Mut (some u) := by
  cases d <;> first | exact h.elim | skip
  · obtain ⟨xs, e, r⟩ := h
    exact ⟨_, e, True.intro⟩
  · obtain ⟨xs, e, r⟩ := h
    rcases e with ⟨k, h, z⟩ | ⟨k, h, z⟩
    · exact ⟨_, h, True.intro⟩
    · exact ⟨_, h, True.intro⟩
/-- a value that is looked at: not owned, or an owned thing itself -/
def RS (K : PySem.W.Frag) (O : Addr → Prop) (H : Hp) (v : V) (d : PD) : Prop := RX K O H v d ∨ ∃ a, v = .ref a ∧ Own K O H a d
theorem RX.rs {K : PySem.W.Frag} {O : Addr → Prop} {H : Hp} {v : V} {d : PD} (h : RX K O H v d) : RS K O H v d := .inl h
theorem RS.same {K : PySem.W.Frag} {O : Addr → Prop} {H H' : Hp} {v : V} {d : PD} (s : Same H H') (h : RS K O H v d) : RS K O H' v d := by
  rcases h with h | ⟨a, e, h⟩
  · exact .inl (h.same s)
  · exact .inr ⟨a, e, h.same s⟩
section
variable {K : PySem.W.Frag} {O : Addr → Prop} {H : Hp} {v : V}
theorem RS.int {i : Int} (h : RS K O H v (.int i)) : v = .int i := by
  rcases h with h | ⟨a, e, h⟩
  · cases h; rfl
  · exact h.elim
theorem RS.bool {b : Bool} (h : RS K O H v (.bool b)) : v = .bl b := by
  rcases h with h | ⟨a, e, h⟩
  · cases h; rfl
  · exact h.elim
theorem RS.none (h : RS K O H v .none) : v = .non := by
  rcases h with h | ⟨a, e, h⟩
  · cases h; rfl
  · exact h.elim
theorem RS.str {x : Str} (h : RS K O H v (.str x)) : v = .str x ∧ PyData.strOk x = true := by
  rcases h with h | ⟨a, e, h⟩
  · cases h with | str _ h => exact ⟨rfl, h⟩
  · exact h.elim
theorem RS.list {ds : List PD} (h : RS K O H v (.list ds)) : ∃ a xs, v = .ref a ∧ Rd H a (.lst xs) ∧ RXs K O H xs ds := by
  rcases h with h | ⟨a, e, h⟩
  · cases h with | lst _ h r => exact ⟨_, _, rfl, h, r⟩
  · obtain ⟨xs, e', r⟩ := h
    exact ⟨a, xs, e, .inl e', r⟩
theorem RS.tup {ds : List PD} (h : RS K O H v (.tuple ds)) : ∃ a xs, v = .ref a ∧ SqT K H a xs ∧ RXs K O H xs ds := by
  rcases h with h | ⟨a, e, h⟩
  · cases h with | tup h r => exact ⟨_, _, rfl, h, r⟩
  · exact h.elim
theorem RS.dict {ds : List (PD × PD)} (h : RS K O H v (.dict ds)) : ∃ a ps, v = .ref a ∧ DPs H a ps ∧ RXp K O H ps ds := by
  rcases h with h | ⟨a, e, h⟩
  · cases h with | dct ho h r => exact ⟨_, _, rfl, h, r⟩
  · obtain ⟨ps, e', r⟩ := h
    exact ⟨a, ps, e, e'.rd, r⟩
/-- whether it is None -/
theorem RS.isNone {d : PD} (h : RS K O H v d) : decide (v = .non) = isNoneD d := by
  cases d with
  | none => cases h.none; rfl
  | bool b => cases h.bool; rfl
  | int i => cases h.int; rfl
  | str x => cases h.str.1; rfl
  | list ds => obtain ⟨a, xs, rfl, _⟩ := h.list; rfl
  | tuple ds => obtain ⟨a, xs, rfl, _⟩ := h.tup; rfl
  | dict ds => obtain ⟨a, xs, rfl, _⟩ := h.dict; rfl
theorem RS.dp {d : PD} (h : RS K O H v d) (n : noD d = true) : Dp K H v d ∧ d.canLay0 = true := by
  rcases h with h | ⟨a, e, h⟩
  · exact h.dp n
  · cases d <;> first | exact h.elim | skip
    · obtain ⟨xs, e', r⟩ := h
      subst e
      obtain ⟨r1, r2⟩ := r.dp (by simpa [noD] using n)
      exact ⟨.lst (.inl (.inl e')) r1, by simpa [PyData.canLay0] using r2⟩
    · simp [noD] at n
end
abbrev RSs (K : PySem.W.Frag) (O : Addr → Prop) (H : Hp) : List V → List PD → Prop := Paired (RS K O H)
theorem RXs.rss {K : PySem.W.Frag} {O : Addr → Prop} {H : Hp} : ∀ {vs : List V} {ds : List PD}, RXs K O H vs ds → RSs K O H vs ds
  | _, _, .nil => .nil
  | _, _, .cons h r => .cons h.rs (RXs.rss r)

/-! ### what is asked behind an evaluation -/
def Dom (O : Addr → Prop) (H : Hp) : Prop := ∀ a, O a → H a ≠ none
theorem Dom.same {O : Addr → Prop} {H H' : Hp} (d : Dom O H) (s : Same H H') : Dom O H' := fun a h z => by
  cases e : H a with
  | none => exact d a h e
  | some u =>
    rw [s _ _ e] at z
    cases z
def PostX (K : PySem.W.Frag) (O : Addr → Prop) (H : Hp) (Q : VK) (d : PD) : Prop := ∀ v H', Same H H' → RX K O H' v d → Q v H'
def PostF (K : PySem.W.Frag) (O : Addr → Prop) (H : Hp) (Q : VK) (d : PD) : Prop := ∀ p H', H p = none → Same H H' → Own K (fun b => O b ∨ b = p) H' p d → Q (.ref p) H'
/-- .. of an operation on values: a list is new -/
def PostB (K : PySem.W.Frag) (O : Addr → Prop) (H : Hp) (Q : VK) (d : PD) : Prop := if isL d = true then PostF K O H Q d else PostX K O H Q d
section
variable {K : PySem.W.Frag} {O : Addr → Prop} {H H' : Hp} {Q : VK} {d : PD}
theorem PostX.toF (dom : Dom O H) (h : PostX K O H Q d) : PostF K O H Q d := fun p H' n s o => h _ _ s ((o.lift (Lift.less fun _ z => .inl z) rfl).rx fun z => dom p z n)
theorem PostX.toB (dom : Dom O H) (h : PostX K O H Q d) : PostB K O H Q d := by
  unfold PostB
  split
  · exact h.toF dom
  · exact h
theorem PostF.toB (h : PostF K O H Q d) (l : isL d = true) : PostB K O H Q d := by
  unfold PostB
  rw [if_pos l]
  exact h
theorem PostX.same (s : Same H H') (h : PostX K O H Q d) : PostX K O H' Q d := fun v H2 s2 r => h v H2 (s.trans s2) r
theorem PostF.same (s : Same H H') (h : PostF K O H Q d) : PostF K O H' Q d := fun p H2 n s2 r => h p H2 (Same.free s n) (s.trans s2) r
theorem PostB.same (s : Same H H') (h : PostB K O H Q d) : PostB K O H' Q d := by
  unfold PostB at *
  split
  · rw [if_pos ‹_›] at h; exact h.same s
  · rw [if_neg ‹_›] at h; exact h.same s
theorem PostB.x (h : PostB K O H Q d) (l : isL d = false) : PostX K O H Q d := by
  unfold PostB at h
  rw [if_neg (by rw [l]; decide)] at h
  exact h
theorem PostB.f (h : PostB K O H Q d) (l : isL d = true) : PostF K O H Q d := by
  unfold PostB at h
  rw [if_pos l] at h
  exact h
theorem PostB.int {i : Int} (h : PostB K O H Q (.int i)) : Q (.int i) H := h.x rfl _ _ (Same.refl H) (.int i)
theorem PostB.bool {b : Bool} (h : PostB K O H Q (.bool b)) : Q (.bl b) H := h.x rfl _ _ (Same.refl H) (.bl b)
theorem PostB.lst {ds : List PD} (h : PostB K O H Q (.list ds)) {p : Addr} {xs : List V} (n : H p = none) (r : RXs K O H xs ds) : Q (.ref p) (upd H p (.lst xs)) :=
  h.f rfl p _ n (same_new n) ⟨xs, upd_same, (r.lift (Lift.own n)).same (same_new n)⟩
theorem PostB.tup {ds : List PD} (h : PostB K O H Q (.tuple ds)) {p : Addr} {xs : List V} (n : H p = none) (r : RXs K O H xs ds) : Q (.ref p) (upd H p (.tup xs)) :=
  h.x rfl _ _ (same_new n) (.tup (.inl (.inl upd_same)) (r.same (same_new n)))
end
/-- an operation's answer -/
def RetB (K : PySem.W.Frag) (O : Addr → Prop) (H : Hp) (Q : VK) (r : R PD) : Prop := match r with
  | .ok d => PostB K O H Q d
  | _ => False

/-! ### lists that may be read -/
section
variable {X : Cx} {H : Hp} {l : Addr} {xs : List V}
theorem lstR_ok {P : Program} {w : World} {h : Heap} (r : Rd H l (.lst xs)) (ok : HOk P w H h) : xs.length ≤ sizeLine ∧ ∃ (its : List Value) (n : Nat), Vals xs its ∧ xs.length = its.length ∧ h.get? l = some { cls := .type "list", data := .seq its.toArray n } := by
  obtain ⟨z, its, n, rv, e⟩ := r.ok ok
  exact ⟨z, its, n, rv, rv.length, e⟩
end
section
variable {X : Cx}
theorem op_catR : OpR X (binaryOp .Add) (fun x y H Q => ∃ l b xs zs, x = .ref l ∧ y = .ref b ∧ Rd H l (.lst xs) ∧ Rd H b (.lst zs) ∧ xs.length + zs.length ≤ sizeLine ∧ ∀ p, H p = none → Q (.ref p) (upd H p (.lst (xs ++ zs)))) := by
  intro pins s σ H x y v u Q I rx ry h
  obtain ⟨l, b, xs, zs, rfl, rfl, hH, hB, hz, q⟩ := h
  cases rx
  cases ry
  obtain ⟨z, its, n, r, hl, e⟩ := lstR_ok hH I.hok
  obtain ⟨z2, its2, n2, r2, hl2, e2⟩ := lstR_ok hB I.hok
  refine PySem.P.add_list e e2 ?_ (by rw [List.size_toArray, List.size_toArray]; omega)
  have ea : its.toArray ++ its2.toArray = (its ++ its2).toArray := by simp
  rw [ea]
  exact ⟨.ref _, _, I.lnew (t' := s.toks) (r.append r2) (by rw [List.length_append]; omega), rfl, q _ I.fresh⟩
theorem op_fdivF : OpR X (binaryOp .FloorDiv) (rI (fun _ j => j ≠ 0 ∧ j.natAbs.log2 < 9000) fun i j => .int (i.fdiv j)) := opI fun i j _ _ _ _ _ hc q =>
  floordiv_int hc.1 q (.inl (PyProof.noPylong_of_log2 hc.2))
end

theorem RXs.rep {K : PySem.W.Frag} {O : Addr → Prop} {H : Hp} {vs : List V} {ds : List PD} (h : RXs K O H vs ds) : ∀ k : Nat, RXs K O H (List.replicate k vs).flatten (List.replicate k ds).flatten
  | 0 => .nil
  | k + 1 => by
    rw [List.replicate_succ, List.replicate_succ, List.flatten_cons, List.flatten_cons]
    exact h.append (RXs.rep h k)
section
variable {X : Cx}
theorem op_repR : OpR X (binaryOp .Mult) (fun x y H Q => ∃ l k xs, x = .ref l ∧ y = .int k ∧ Rd H l (.lst xs) ∧ -(2 ^ 63) ≤ k ∧ k < 2 ^ 63 ∧ xs.length * k.toNat ≤ sizeLine ∧ ∀ p, H p = none → Q (.ref p) (upd H p (.lst (List.replicate k.toNat xs).flatten))) := by
  intro pins s σ H x y v u Q I rx ry h
  obtain ⟨l, k, xs, rfl, rfl, hH, h1, h2, hz, q⟩ := h
  cases rx
  obtain ⟨t, rfl⟩ := ry
  obtain ⟨z, its, n, r, hl, e⟩ := lstR_ok hH I.hok
  have few : its.toArray.size * k.toNat ≤ sizeLine := by rw [List.size_toArray, ← hl]; exact hz
  have cap : ¬ its.toArray.size * k.toNat > (2 ^ 63 - 1) / 8 := by
    have c : (sizeLine : Nat) ≤ (2 ^ 63 - 1) / 8 := by decide
    omega
  have fit : ¬ (!Builtin.List.listFitsIndex k) = true := by
    rw [fitsIndex_both h1 h2]; decide
  have lng : ¬ Builtin.List.listTooLong (its.toArray.size * k.toNat) = true := by
    rw [notLongL few]; decide
  have new : List.foldl (fun a b => a ++ b) #[] (List.replicate (if its.toArray.isEmpty = true then 0 else k.toNat) its.toArray) = (List.replicate k.toNat its).flatten.toArray := by
    have f0 : ∀ m : Nat, List.foldl (fun a b => a ++ b) #[] (List.replicate m its.toArray) = (List.replicate m its).flatten.toArray := fun m => by
      have w := foldl_rep its m []
      rwa [List.nil_append] at w
    rw [f0]
    cases its with
    | nil => simp
    | cons a r' => rw [if_neg (by simp)]
  have T1 : s.TypeIs (.ref l) "list" := ⟨_, e, rfl⟩
  have T2 : ∀ s' : Shared, s'.TypeIs (.int k t) "int" := fun s' => typeIs_int s' k t
  refine wpAny_binaryOp_repeat_ref (T := "list") (U := "int") (by decide) T1 T2 noFill_list_mul F.fills_int_mul F.slot_int_rmul repeat_list F.slot_int_index.lookup ?_
  refine call_meets F.slot_int_rmul (T2 s) F.entry_int_rmul (F.args_int_rmul_2 _ _) (int___rmul___int_list k t l its.toArray n) ⟨e, rfl, T1, ?_⟩
  refine call_meets F.slot_list_mul T1 F.entry_list_mul (F.args_list_mul_2 _ _) (AutoListH.list___mul___list_int_3 l its.toArray n k t fit cap lng) ⟨e, ?_⟩
  rw [new]
  exact ⟨.ref _, _, I.lnew (t' := s.toks) (r.rep k.toNat) (by rw [PyProof.Rows.lm_len_rep_flat, Nat.mul_comm]; exact hz), rfl, q _ I.fresh⟩
end

def opPy : Op → Operator
  | .add => .Add | .sub => .Sub | .mul => .Mult | .fdiv => .FloorDiv | .mod => .Mod | .pow => .Pow
def cpPy : Cp → CmpOp
  | .lt => .Lt | .le => .LtE | .gt => .Gt | .ge => .GtE | .eq => .Eq | .ne => .NotEq | .isin => .In | .notin => .NotIn
theorem sLine_eq : sLine = sizeLine := by rw [sizeLine_eq] <;> rfl
theorem okLen_le {n : Nat} (h : okLen n = true) : n ≤ sizeLine := by
  rw [← sLine_eq]
  exact of_decide_eq_true h

theorem cmulW_of {i j : Int} (h : decide (i.natAbs.log2 + j.natAbs.log2 < 1000000) = true) : CMulW i j := by
  have h2 := of_decide_eq_true h
  exact h2
/-- two values by what they are, and the operation's answer -/
def rV (K : PySem.W.Frag) (f : PD → PD → R PD) : R2 := fun x y H Q => ∃ O d e, Dom O H ∧ RS K O H x d ∧ RS K O H y e ∧ RetB K O H Q (f d e)
section
variable {X : Cx}
theorem op_binV (o : Op) : OpR X (binaryOp (opPy o)) (rV X.K (binV o)) := by
  intro pins s σ H x y v u Q I rx ry h
  obtain ⟨O, d, e, dom, hd, he, q⟩ := h
  cases o
  · -- add
    cases d <;> cases e <;> first | exact q.elim | skip
    · cases hd.int
      cases he.int
      exact op_add pins s σ H _ _ v u Q I rx ry ⟨_, _, rfl, rfl, q.int⟩
    · obtain ⟨a, xs, rfl, h1, r1⟩ := hd.list
      obtain ⟨b, ys, rfl, h2, r2⟩ := he.list
      simp only [binV] at q
      split at q
      · rename_i hl
        have hl' := okLen_le hl
        rw [← r1.length, ← r2.length] at hl'
        exact op_catR pins s σ H _ _ v u Q I rx ry ⟨_, _, _, _, rfl, rfl, h1, h2, hl', fun p n => PostB.lst q n (r1.append r2)⟩
      · exact q.elim
    · obtain ⟨a, xs, rfl, h1, r1⟩ := hd.tup
      obtain ⟨b, ys, rfl, h2, r2⟩ := he.tup
      simp only [binV] at q
      split at q
      · rename_i hl
        have hl' := okLen_le hl
        rw [← r1.length, ← r2.length] at hl'
        refine op_catA pins s σ H _ _ v u Q I rx ry ⟨_, _, _, _, rfl, rfl, h1, h2, hl', fun e => ?_, fun _ e => ?_, fun _ _ p n => PostB.tup q n (r1.append r2)⟩
        · subst e
          cases r1
          exact q.x rfl _ _ (Same.refl _) (.tup h2 (by simpa using r2))
        · subst e
          cases r2
          exact q.x rfl _ _ (Same.refl _) (.tup h1 (by simpa using r1))
      · exact q.elim
  · -- sub
    cases d <;> cases e <;> first | exact q.elim | skip
    cases hd.int
    cases he.int
    exact op_sub pins s σ H _ _ v u Q I rx ry ⟨_, _, rfl, rfl, q.int⟩
  · -- mul
    cases d <;> cases e <;> first | exact q.elim | skip
    · cases hd.int
      cases he.int
      simp only [binV] at q
      split at q
      · rename_i hl
        exact op_mulW pins s σ H _ _ v u Q I rx ry ⟨_, _, rfl, rfl, cmulW_of hl, q.int⟩
      · exact q.elim
    · obtain ⟨a, xs, rfl, h1, r1⟩ := hd.list
      cases he.int
      simp only [binV] at q
      split at q
      · rename_i hl
        have hl := of_decide_eq_true hl
        rw [sLine_eq, ← r1.length] at hl
        exact op_repR pins s σ H _ _ v u Q I rx ry ⟨_, _, _, rfl, rfl, h1, hl.1, hl.2.1, hl.2.2, fun p n => PostB.lst q n (r1.rep _)⟩
      · exact q.elim
    · obtain ⟨a, xs, rfl, h1, r1⟩ := hd.tup
      cases he.int
      simp only [binV] at q
      split at q
      · rename_i hl
        have hl := of_decide_eq_true hl
        rw [← r1.length] at hl
        exact op_repT pins s σ H _ _ v u Q I rx ry ⟨_, _, _, rfl, rfl, h1, fun z => hl.1 (by rw [z]; rfl), hl.2.1, hl.2.2.1, hl.2.2.2, fun p n => PostB.tup q n (r1.rep _)⟩
      · exact q.elim
  · -- fdiv
    cases d <;> cases e <;> first | exact q.elim | skip
    cases hd.int
    cases he.int
    simp only [binV] at q
    split at q
    · rename_i hl
      exact op_fdivF pins s σ H _ _ v u Q I rx ry ⟨_, _, rfl, rfl, of_decide_eq_true hl, q.int⟩
    · exact q.elim
  · -- mod
    cases d <;> cases e <;> first | exact q.elim | skip
    cases hd.int
    cases he.int
    simp only [binV] at q
    split at q
    · rename_i hl
      exact op_modN pins s σ H _ _ v u Q I rx ry ⟨_, _, rfl, rfl, of_decide_eq_true hl, q.int⟩
    · exact q.elim
  · -- pow
    cases d <;> cases e <;> first | exact q.elim | skip
    cases hd.int
    cases he.int
    simp only [binV] at q
    split at q
    · rename_i hl
      have hl' := of_decide_eq_true hl
      exact op_pow pins s σ H _ _ v u Q I rx ry ⟨_, _, rfl, rfl, ⟨hl'.1, by omega, hl'.2.2⟩, q.int⟩
    · exact q.elim

end
/-! ### comparisons -/
theorem eqOk_parts {d e : PD} (h : eqOk d e = true) : noD d = true ∧ noD e = true ∧ d.depth ≤ 64 ∧ e.depth ≤ 64 := by
  simp only [eqOk, Bool.and_eq_true, decide_eq_true_eq] at h
  exact ⟨h.1.1.1, h.1.1.2, h.1.2, h.2⟩
theorem shaped_of {d : PD} (h : d.canLay0 = true) (h2 : d.depth ≤ 64) : SeqAt.shaped d = true := by
  unfold SeqAt.shaped
  rw [h, Bool.true_and]
  exact decide_eq_true h2
theorem flatV_of {K : PySem.W.Frag} {O : Addr → Prop} {H : Hp} {v : V} {d : PD} (h : RS K O H v d) (f : flatD d = true) : L2.flatV v = true := by
  cases d with
  | none => cases h.none; rfl
  | bool b => cases h.bool; rfl
  | int i => cases h.int; rfl
  | str x => cases h.str.1; rfl
  | list ds => cases f
  | tuple ds => cases f
  | dict ds => cases f
theorem eqV_of {K : PySem.W.Frag} {O : Addr → Prop} {H : Hp} {v w : V} {d e : PD} (h : RS K O H v d) (h2 : RS K O H w e) (f : flatD d = true) (f2 : flatD e = true) : L2.eqV v w = PyData.eqv d e := by
  cases d <;> first | (simp [flatD] at f; done) | skip
  all_goals cases e <;> first | (simp [flatD] at f2; done) | skip
  all_goals (first | (cases h.none) | (cases h.bool) | (cases h.int) | (cases h.str.1))
  all_goals (first | (cases h2.none) | (cases h2.bool) | (cases h2.int) | (cases h2.str.1))
  all_goals simp [L2.eqV, PyData.eqv]
theorem flats_of {K : PySem.W.Frag} {O : Addr → Prop} {H : Hp} : ∀ {vs : List V} {ds : List PD}, RXs K O H vs ds → ds.all flatD = true → vs.all L2.flatV = true
  | _, _, .nil, _ => rfl
  | _, _, .cons h r, f => by
    simp only [List.all_cons, Bool.and_eq_true] at f ⊢
    exact ⟨flatV_of h.rs f.1, flats_of r f.2⟩
theorem inV_of {K : PySem.W.Frag} {O : Addr → Prop} {H : Hp} {w : V} {e : PD} (h : RS K O H w e) (f : flatD e = true) : ∀ {vs : List V} {ds : List PD}, RXs K O H vs ds → ds.all flatD = true → L2.inV w vs = inV e ds
  | _, _, .nil, _ => rfl
  | _, _, .cons g r, fs => by
    simp only [List.all_cons, Bool.and_eq_true] at fs
    have ih := inV_of h f r fs.2
    simp only [L2.inV, inV, List.any_cons] at ih ⊢
    rw [eqV_of g.rs h fs.1 f, ih]
section
variable {X : Cx}
theorem op_cmpV (c : Cp) (hu : X.A.units + 65 < cLine) : OpR X (compareOp (cpPy c)) (rV X.K (cmpV c)) := by
  intro pins s σ H x y v u Q I rx ry h
  obtain ⟨O, d, e, dom, hd, he, q⟩ := h
  have deep : ∀ (b : PD → PD → Bool), eqOk d e = true → (Dp X.K H x d ∧ SeqAt.shaped d = true) ∧ (Dp X.K H y e ∧ SeqAt.shaped e = true) := fun b h => by
    obtain ⟨n1, n2, d1, d2⟩ := eqOk_parts h
    obtain ⟨p1, l1⟩ := hd.dp n1
    obtain ⟨p2, l2⟩ := he.dp n2
    exact ⟨⟨p1, shaped_of l1 d1⟩, ⟨p2, shaped_of l2 d2⟩⟩
  cases c
  · cases d <;> cases e <;> first | exact q.elim | skip
    cases hd.int
    cases he.int
    exact op_lt pins s σ H _ _ v u Q I rx ry ⟨_, _, rfl, rfl, q.bool⟩
  · cases d <;> cases e <;> first | exact q.elim | skip
    cases hd.int
    cases he.int
    exact op_le pins s σ H _ _ v u Q I rx ry ⟨_, _, rfl, rfl, q.bool⟩
  · cases d <;> cases e <;> first | exact q.elim | skip
    cases hd.int
    cases he.int
    exact op_gt pins s σ H _ _ v u Q I rx ry ⟨_, _, rfl, rfl, q.bool⟩
  · cases d <;> cases e <;> first | exact q.elim | skip
    cases hd.int
    cases he.int
    exact op_ge pins s σ H _ _ v u Q I rx ry ⟨_, _, rfl, rfl, q.bool⟩
  · simp only [cmpV] at q
    split at q
    · rename_i hl
      obtain ⟨⟨p1, s1⟩, p2, s2⟩ := deep (fun _ _ => true) hl
      exact op_eqD (by omega) pins s σ H _ _ v u Q I rx ry ⟨d, e, p1, p2, s1, s2, q.bool⟩
    · exact q.elim
  · simp only [cmpV] at q
    split at q
    · rename_i hl
      obtain ⟨⟨p1, s1⟩, p2, s2⟩ := deep (fun _ _ => true) hl
      exact op_neD (by omega) pins s σ H _ _ v u Q I rx ry ⟨d, e, p1, p2, s1, s2, q.bool⟩
    · exact q.elim
  · cases e <;> first | (simp [cmpV, RetB] at q; done) | skip
    · rename_i ds
      simp only [cmpV] at q
      split at q
      · rename_i hl
        obtain ⟨⟨p1, s1⟩, p2, s2⟩ := deep (fun _ _ => true) hl
        exact op_inD hu pins s σ H _ _ v u Q I rx ry ⟨d, ds, p1, p2, s1, s2, q.bool⟩
      · exact q.elim
    · rename_i ds
      simp only [cmpV] at q
      split at q
      · rename_i hl
        have hl := Bool.and_eq_true_iff.mp hl
        obtain ⟨a, xs, rfl, ht, r⟩ := he.tup
        exact op_in_seq pins s σ H _ _ v u Q I rx ry ⟨a, xs, rfl, .inr ht, flatV_of hd hl.1, flats_of r hl.2, by
          rw [if_neg (by decide), inV_of hd hl.1 r hl.2]
          exact q.bool⟩
      · exact q.elim
  · cases e <;> first | (simp [cmpV, RetB] at q; done) | skip
    · rename_i ds
      simp only [cmpV] at q
      split at q
      · rename_i hl
        obtain ⟨⟨p1, s1⟩, p2, s2⟩ := deep (fun _ _ => true) hl
        exact op_notInD hu pins s σ H _ _ v u Q I rx ry ⟨d, ds, p1, p2, s1, s2, q.bool⟩
      · exact q.elim
    · rename_i ds
      simp only [cmpV] at q
      split at q
      · rename_i hl
        have hl := Bool.and_eq_true_iff.mp hl
        obtain ⟨a, xs, rfl, ht, r⟩ := he.tup
        exact op_notIn_seq pins s σ H _ _ v u Q I rx ry ⟨a, xs, rfl, .inr ht, flatV_of hd hl.1, flats_of r hl.2, by
          rw [if_pos rfl, inV_of hd hl.1 r hl.2]
          exact q.bool⟩
      · exact q.elim
end

/-! ### items and slices -/
theorem atI_rx {K : PySem.W.Frag} {O : Addr → Prop} {H : Hp} {xs : List V} {ds : List PD} {i : Int} {d : PD} (r : RXs K O H xs ds) (h : atI ds i = some d) : ∃ v, atI xs i = some v ∧ RX K O H v d := by
  unfold atI at h ⊢
  rw [r.length]
  cases e : ixN ds.length i with
  | none => rw [e] at h; cases h
  | some j =>
    rw [e] at h
    obtain ⟨v, e1, h1⟩ := r.get (i := j) h
    exact ⟨v, e1, h1⟩
theorem cut_rx {K : PySem.W.Frag} {O : Addr → Prop} {H : Hp} {xs : List V} {ds : List PD} (lo hi : Option Int) (r : RXs K O H xs ds) : RXs K O H (cutV xs lo hi) (cutD ds lo hi) := by
  unfold cutV cutD
  rw [r.length]
  exact (r.drop _).take _
/-- .. whose answer is one of what they hold -/
def RetX (K : PySem.W.Frag) (O : Addr → Prop) (H : Hp) (Q : VK) (r : R PD) : Prop := match r with
  | .ok d => PostX K O H Q d
  | _ => False
def rVX (K : PySem.W.Frag) (f : PD → PD → R PD) : R2 := fun x y H Q => ∃ O d e, RS K O H x d ∧ RS K O H y e ∧ RetX K O H Q (f d e)
section
variable {X : Cx}
def ixS : PD → PD → R PD
  | .list ds, .int i => (match atI ds i with | some d => .ok d | none => .bad)
  | .tuple ds, .int i => (match atI ds i with | some d => .ok d | none => .bad)
  | _, _ => .bad
theorem ix_V : IxR X (rVX X.K ixS) := by
  intro value slice pins s σ H x y v u Q I rx ry h hs
  obtain ⟨O, d, e, hd, he, q⟩ := h
  cases d <;> cases e <;> first | exact q.elim | skip
  · cases he.int
    obtain ⟨a, xs, rfl, h1, r⟩ := hd.list
    simp only [ixS] at q
    split at q
    · rename_i z ez
      obtain ⟨w, e1, h1'⟩ := atI_rx r ez
      exact ix_list value slice pins s σ H _ _ v u Q I rx ry ⟨a, xs, _, w, rfl, rfl, .inl h1, e1, q _ _ (Same.refl _) h1'⟩ hs
    · exact q.elim
  · cases he.int
    obtain ⟨a, xs, rfl, h1, r⟩ := hd.tup
    simp only [ixS] at q
    split at q
    · rename_i z ez
      obtain ⟨w, e1, h1'⟩ := atI_rx r ez
      exact ix_tup value slice pins s σ H _ _ v u Q I rx ry ⟨a, xs, _, w, rfl, rfl, h1, e1, q _ _ (Same.refl _) h1'⟩ hs
    · exact q.elim
/-- a slice -/
theorem sl_V : SlR X (fun x lo hi H Q => ∃ O d, Dom O H ∧ RS X.K O H x d ∧ RetB X.K O H Q (slV d lo hi)) := by
  intro pins s σ H x v vl vu lo hi sl Q I rx hs pl pu h
  obtain ⟨O, d, dom, hd, q⟩ := h
  cases d <;> first | exact q.elim | skip
  · obtain ⟨a, xs, rfl, h1, r⟩ := hd.list
    exact sl_list pins s σ H _ v vl vu lo hi sl Q I rx hs pl pu ⟨a, xs, rfl, .inl h1, fun p n => PostB.lst q n (cut_rx lo hi r)⟩
  · obtain ⟨a, xs, rfl, h1, r⟩ := hd.tup
    refine sl_tupA pins s σ H _ v vl vu lo hi sl Q I rx hs pl pu ⟨a, xs, rfl, h1, fun e => ?_, fun _ p n => PostB.tup q n (cut_rx lo hi r)⟩
    refine PostB.x q rfl _ _ (Same.refl _) (.tup h1 ?_)
    have e2 : cutV xs lo hi = xs := by
      unfold cutV
      rw [e.1, e.2]
      simp
    have r2 := cut_rx lo hi r
    rw [e2] at r2
    exact r2
end

/-! ### built-ins -/
theorem ints_some : ∀ {ds : List PD} {ns : List Int}, ints? ds = some ns → ds = ns.map PyData.int
  | [], ns, h => by
    cases h
    rfl
  | d :: ds, ns, h => by
    cases d <;> simp only [ints?, reduceCtorEq, Option.map_eq_some_iff] at h
    obtain ⟨r, h1, h2⟩ := h
    subst h2
    rw [ints_some h1] <;> rfl
theorem bools_some : ∀ {ds : List PD} {ns : List Bool}, bools? ds = some ns → ds = ns.map PyData.bool
  | [], ns, h => by
    cases h
    rfl
  | d :: ds, ns, h => by
    cases d <;> simp only [bools?, reduceCtorEq, Option.map_eq_some_iff] at h
    obtain ⟨r, h1, h2⟩ := h
    subst h2
    rw [bools_some h1] <;> rfl
theorem leastI_le : ∀ (r : List Int) (m : Int), leastI m r ≤ m ∧ (∀ y ∈ r, leastI m r ≤ y) ∧ (leastI m r = m ∨ leastI m r ∈ r)
  | [], m => ⟨Int.le_refl _, (fun _ h => nomatch h), .inl rfl⟩
  | x :: r, m => by
    have h := leastI_le r (if x < m then x else m)
    simp only [leastI]
    generalize ek : (if x < m then x else m) = k at h ⊢
    have k1 : k ≤ m ∧ k ≤ x ∧ (k = m ∨ k = x) := by
      rw [← ek]
      split <;> omega
    obtain ⟨h1, h2, h3⟩ := h
    refine ⟨by omega, fun y hy => ?_, ?_⟩
    · rcases List.mem_cons.mp hy with e | hy
      · omega
      · exact h2 y hy
    · rcases h3 with h3 | h3
      · rcases k1.2.2 with e | e
        · exact .inl (h3.trans e)
        · exact .inr (by rw [h3, e]; exact List.mem_cons_self)
      · exact .inr (List.mem_cons_of_mem _ h3)
theorem mostI_le : ∀ (r : List Int) (m : Int), m ≤ mostI m r ∧ (∀ y ∈ r, y ≤ mostI m r) ∧ (mostI m r = m ∨ mostI m r ∈ r)
  | [], m => ⟨Int.le_refl _, (fun _ h => nomatch h), .inl rfl⟩
  | x :: r, m => by
    have h := mostI_le r (if m < x then x else m)
    simp only [mostI]
    generalize ek : (if m < x then x else m) = k at h ⊢
    have k1 : m ≤ k ∧ x ≤ k ∧ (k = m ∨ k = x) := by
      rw [← ek]
      split <;> omega
    obtain ⟨h1, h2, h3⟩ := h
    refine ⟨by omega, fun y hy => ?_, ?_⟩
    · rcases List.mem_cons.mp hy with e | hy
      · omega
      · exact h2 y hy
    · rcases h3 with h3 | h3
      · rcases k1.2.2 with e | e
        · exact .inl (h3.trans e)
        · exact .inr (by rw [h3, e]; exact List.mem_cons_self)
      · exact .inr (List.mem_cons_of_mem _ h3)
theorem insI_perm (x : Int) : ∀ l : List Int, (insI x l).Perm (x :: l)
  | [] => List.Perm.refl _
  | y :: r => by
    simp only [insI]
    split
    · exact List.Perm.refl _
    · exact ((insI_perm x r).cons y).trans (List.Perm.swap x y r)
theorem sortI_perm : ∀ l : List Int, (sortI l).Perm l
  | [] => List.Perm.refl _
  | x :: r => (insI_perm x (sortI r)).trans ((sortI_perm r).cons x)
theorem insI_sorted (x : Int) : ∀ l : List Int, l.Pairwise (· ≤ ·) → (insI x l).Pairwise (· ≤ ·)
  | [], _ => by simp [insI]
  | y :: r, h => by
    have h' := List.pairwise_cons.mp h
    simp only [insI]
    split
    · rename_i c
      refine List.pairwise_cons.mpr ⟨fun z hz => ?_, h⟩
      rcases List.mem_cons.mp hz with e | hz
      · omega
      · have := h'.1 z hz
        omega
    · rename_i c
      refine List.pairwise_cons.mpr ⟨fun z hz => ?_, insI_sorted x r h'.2⟩
      rcases List.mem_cons.mp ((insI_perm x r).mem_iff.mp hz) with e | hz
      · omega
      · exact h'.1 z hz
theorem sortI_sorted : ∀ l : List Int, (sortI l).Pairwise (· ≤ ·)
  | [] => List.Pairwise.nil
  | x :: r => insI_sorted x _ (sortI_sorted r)
theorem sorted_one : ∀ {a b : List Int}, a.Perm b → a.Pairwise (· ≤ ·) → b.Pairwise (· ≤ ·) → a = b
  | [], b, p, _, _ => (List.Perm.nil_eq p)
  | x :: a, [], p, _, _ => absurd p.length_eq (by simp)
  | x :: a, y :: b, p, h1, h2 => by
    have h1' := List.pairwise_cons.mp h1
    have h2' := List.pairwise_cons.mp h2
    have e : x = y := by
      have m1 : x ∈ y :: b := p.mem_iff.mp List.mem_cons_self
      have m2 : y ∈ x :: a := p.mem_iff.mpr List.mem_cons_self
      have l1 : y ≤ x := by
        rcases List.mem_cons.mp m1 with e | m
        · omega
        · exact h2'.1 x m
      have l2 : x ≤ y := by
        rcases List.mem_cons.mp m2 with e | m
        · omega
        · exact h1'.1 y m
      omega
    subst e
    rw [sorted_one ((List.perm_cons x).mp p) h1'.2 h2'.2]
def biNm : Bi → Str
  | .len => "len" | .abs => "abs" | .min2 => "min" | .minL => "min" | .max2 => "max" | .maxL => "max" | .int => "int" | .tuple => "tuple" | .list => "list"
  | .sum => "sum" | .any => "any" | .all => "all" | .sorted => "sorted"
def biVal : Bi → Value
  | .len => .builtin "len" | .abs => .builtin "abs" | .min2 => .builtin "min" | .minL => .builtin "min" | .max2 => .builtin "max" | .maxL => .builtin "max"
  | .int => .type "int" | .tuple => .type "tuple" | .list => .type "list" | .sum => .builtin "sum" | .any => .builtin "any" | .all => .builtin "all" | .sorted => .builtin "sorted"
def rBi (K : PySem.W.Frag) (b : Bi) : List V → Hp → VK → Prop := fun vs H Q => ∃ O ds, Dom O H ∧ RSs K O H vs ds ∧ RetB K O H Q (biV b ds)
theorem rs1 {K : PySem.W.Frag} {O : Addr → Prop} {H : Hp} {vs : List V} {d : PD} (h : RSs K O H vs [d]) : ∃ v, vs = [v] ∧ RS K O H v d := by
  cases h with
  | cons h r =>
    cases r
    exact ⟨_, rfl, h⟩
theorem rs2 {K : PySem.W.Frag} {O : Addr → Prop} {H : Hp} {vs : List V} {d e : PD} (h : RSs K O H vs [d, e]) : ∃ v w, vs = [v, w] ∧ RS K O H v d ∧ RS K O H w e := by
  cases h with
  | cons h r =>
    obtain ⟨w, e, h2⟩ := rs1 r
    subst e
    exact ⟨_, _, rfl, h, h2⟩
section
variable {X : Cx}
theorem call_bi (hc : X.calm = true) (b : Bi) : CallR X (biVal b) (rBi X.K b) := by
  intro pins s σ H xs us Q I r h
  obtain ⟨O, ds, dom, hs, q⟩ := h
  rcases ds with _ | ⟨d, _ | ⟨e, _ | ⟨g, ds⟩⟩⟩
  · cases b <;> exact q.elim
  · obtain ⟨v, rfl, hd⟩ := rs1 hs
    cases b
    · -- len
      cases d <;> first | exact q.elim | skip
      · obtain ⟨a, ys, rfl, h1, r1⟩ := hd.list
        exact call_len pins s σ H _ us Q I r ⟨_, _, rfl, .inl ⟨ys, .inl h1, rfl⟩, by rw [r1.length]; exact q.int⟩
      · obtain ⟨a, ys, rfl, h1, r1⟩ := hd.tup
        exact call_len pins s σ H _ us Q I r ⟨_, _, rfl, .inr ⟨ys, h1, rfl⟩, by rw [r1.length]; exact q.int⟩
    · -- abs
      cases d <;> first | exact q.elim | skip
      cases hd.int
      rename_i i
      refine call_abs pins s σ H _ us Q I r ⟨i, rfl, ?_⟩
      rw [show (if i < 0 then -i else i) = (i.natAbs : Int) by split <;> omega]
      exact q.int
    · cases d <;> exact q.elim
    · cases d <;> exact q.elim
    · -- min of a list
      cases d <;> first | exact q.elim | skip
      rename_i l
      obtain ⟨a, ys, rfl, h1, r1⟩ := hd.list
      simp only [biV] at q
      split at q
      · rename_i x t ei
        have e := ints_some ei
        subst e
        have ey := r1.ints
        subst ey
        refine cr_min hc pins s σ H _ us Q I r ⟨a, x :: t, rfl, .inl h1, by simp, fun m hm hl => ?_⟩
        obtain ⟨k1, k2, k3⟩ := leastI_le t x
        have e2 : m = leastI x t := by
          have l0 : leastI x t ∈ x :: t := by
            rcases k3 with k3 | k3
            · rw [k3]; exact List.mem_cons_self
            · exact List.mem_cons_of_mem _ k3
          have l1 : m ≤ leastI x t := hl _ l0
          have l2 : leastI x t ≤ m := by
            rcases List.mem_cons.mp hm with e | hm
            · omega
            · exact k2 m hm
          omega
        subst e2
        exact q.int
      · exact q.elim
    · -- max of a list
      cases d <;> first | exact q.elim | skip
      rename_i l
      obtain ⟨a, ys, rfl, h1, r1⟩ := hd.list
      simp only [biV] at q
      split at q
      · rename_i x t ei
        have e := ints_some ei
        subst e
        have ey := r1.ints
        subst ey
        refine cr_max hc pins s σ H _ us Q I r ⟨a, x :: t, rfl, .inl h1, by simp, fun m hm hl => ?_⟩
        obtain ⟨k1, k2, k3⟩ := mostI_le t x
        have e2 : m = mostI x t := by
          have l0 : mostI x t ∈ x :: t := by
            rcases k3 with k3 | k3
            · rw [k3]; exact List.mem_cons_self
            · exact List.mem_cons_of_mem _ k3
          have l1 : mostI x t ≤ m := hl _ l0
          have l2 : m ≤ mostI x t := by
            rcases List.mem_cons.mp hm with e | hm
            · omega
            · exact k2 m hm
          omega
        subst e2
        exact q.int
      · exact q.elim
    · -- int
      cases d <;> first | exact q.elim | skip
      · cases hd.bool
        exact call_int1 pins s σ H _ us Q I r (.inr ⟨_, rfl, q.int⟩)
      · cases hd.int
        exact call_int1 pins s σ H _ us Q I r (.inl ⟨_, rfl, q.int⟩)
    · -- tuple
      cases d <;> first | exact q.elim | skip
      · obtain ⟨a, ys, rfl, h1, r1⟩ := hd.list
        exact call_tuple_of pins s σ H _ us Q I r ⟨a, ys, rfl, .inl ⟨.inl h1, fun l n => PostB.tup q n r1⟩⟩
      · obtain ⟨a, ys, rfl, h1, r1⟩ := hd.tup
        exact call_tuple_of pins s σ H _ us Q I r ⟨a, ys, rfl, .inr ⟨h1, PostB.x q rfl _ _ (Same.refl _) (.tup h1 r1)⟩⟩
    · -- list
      cases d <;> first | exact q.elim | skip
      · obtain ⟨a, ys, rfl, h1, r1⟩ := hd.list
        exact call_list_of pins s σ H _ us Q I r ⟨a, ys, rfl, .inl (.inl h1), fun l n => PostB.lst q n r1⟩
      · obtain ⟨a, ys, rfl, h1, r1⟩ := hd.tup
        exact call_list_of pins s σ H _ us Q I r ⟨a, ys, rfl, .inr h1, fun l n => PostB.lst q n r1⟩
    · -- sum
      cases d <;> first | exact q.elim | skip
      obtain ⟨a, ys, rfl, h1, r1⟩ := hd.list
      simp only [biV] at q
      split at q
      · rename_i ns ei
        have e := ints_some ei
        subst e
        have ey := r1.ints
        subst ey
        exact cr_sum hc pins s σ H _ us Q I r ⟨a, ns, rfl, .inl h1, q.int⟩
      · exact q.elim
    · -- any
      cases d <;> first | exact q.elim | skip
      obtain ⟨a, ys, rfl, h1, r1⟩ := hd.list
      simp only [biV] at q
      split at q
      · rename_i ns ei
        have e := bools_some ei
        subst e
        have ey := r1.bools
        subst ey
        exact cr_any hc pins s σ H _ us Q I r ⟨a, ns, rfl, .inl h1, q.bool⟩
      · exact q.elim
    · -- all
      cases d <;> first | exact q.elim | skip
      obtain ⟨a, ys, rfl, h1, r1⟩ := hd.list
      simp only [biV] at q
      split at q
      · rename_i ns ei
        have e := bools_some ei
        subst e
        have ey := r1.bools
        subst ey
        exact cr_all hc pins s σ H _ us Q I r ⟨a, ns, rfl, .inl h1, q.bool⟩
      · exact q.elim
    · -- sorted
      cases d <;> first | exact q.elim | skip
      obtain ⟨a, ys, rfl, h1, r1⟩ := hd.list
      simp only [biV] at q
      split at q
      · rename_i ns ei
        have e := ints_some ei
        subst e
        have ey := r1.ints
        subst ey
        refine cr_sortedI pins s σ H _ us Q I r ⟨a, ns, rfl, .inl h1, fun ns' p h2 h3 n => ?_⟩
        have e2 : ns' = sortI ns := sorted_one (h2.trans (sortI_perm ns).symm) h3 (sortI_sorted ns)
        subst e2
        refine PostB.lst q n ?_
        clear h1 h2 h3 q r1 ei
        induction sortI ns with
        | nil => exact .nil
        | cons i t ih => exact .cons (.int i) ih
      · exact q.elim
  · obtain ⟨v, w, rfl, hd, he⟩ := rs2 hs
    cases b <;> first | (cases d <;> exact q.elim) | skip
    · cases d <;> cases e <;> first | exact q.elim | skip
      cases hd.int
      cases he.int
      exact call_min2 hc pins s σ H _ us Q I r ⟨_, _, rfl, q.int⟩
    · cases d <;> cases e <;> first | exact q.elim | skip
      cases hd.int
      cases he.int
      exact call_max2 hc pins s σ H _ us Q I r ⟨_, _, rfl, q.int⟩
  · cases b <;> cases d <;> first | exact q.elim | (cases e <;> exact q.elim)
end
end Fe
set_option Elab.async false
set_option linter.all false
set_option maxRecDepth 100000
set_option maxHeartbeats 4000000
/-! Fe, part Q (ahead of F): enumerate over a tuple. -/
namespace Fe
open PySem PySem.Spec PyProof.Rows L2
section
variable {prog : Program} {w : World} {A : Around} {E : Value → Shared → Prop} {s : Shared}
theorem drw_tup {it t : Addr} {items : Array Value} (hh : A.handled = none) (ne : t ≠ it) :
    Draws prog w A it [it, t] items.size (fun i x => items[i]? = some x) (fun i h => h.IsTupleIter it t i ∧ h.IsTuple t items) where
  live := fun i h st => by
    obtain ⟨⟨o, e, _⟩, _⟩ := st
    exact ⟨o, e⟩
  frame := fun i h h' st k => by
    obtain ⟨⟨o, e, r⟩, ⟨o2, e2, r2⟩⟩ := st
    exact ⟨⟨o, k it (by simp) o e, r⟩, ⟨o2, k t (by simp) o2 e2, r2⟩⟩
  item := fun i s Q E hi st k => by
    obtain ⟨a, b⟩ := st
    refine wpAny_nextOf_tuple_item a b (x := items[i]) (by simp [hi]) fun h' a' sb => ?_
    obtain ⟨o2, e2, r2⟩ := b
    exact k items[i] h' s.toks (by simp [hi]) ⟨a', ⟨o2, (sb.2 t ne).trans e2, r2⟩⟩ sb
  done := fun s Q E st k => wpAny_nextOf_tuple_end hh st.1 st.2 (by simp) k
theorem new_enumT (t : Addr) (items : Array Value) :
    Meets (Builtin.«enumerate.__new__» ⟨[.type "enumerate", .ref t], []⟩) (fun _ R s => s.heap.IsTuple t items ∧
      R (.ok (.ret (.ref (s.heap.push { cls := .type "tuple_iterator", data := .fields #[.ref t, .int 0 0] }).objs.size)))
        { s with heap := (s.heap.push { cls := .type "tuple_iterator", data := .fields #[.ref t, .int 0 0] }).push { cls := .type "enumerate", data := .fields #[.none, .bool false, .ref s.heap.objs.size, rawInt 0, .none, .none] } }) :=
  .of_wp fun prog w A R s h => by
    obtain ⟨hp, g, d, tk, os⟩ := s
    obtain ⟨hT, h⟩ := h
    have sub := sub_enumerate
    have it1 : ∀ {A' : Around} {E : Value → Shared → Prop} {Q : Value → Shared → Prop}, Q (.ref hp.objs.size) ⟨hp.push { cls := .type "tuple_iterator", data := .fields #[.ref t, .int 0 0] }, g, d, tk, os⟩ → wpAny (model prog w) A' (pyIter (.ref t)) Q E ⟨hp, g, d, tk, os⟩ :=
      fun q => (begins_tuple t items).iter prog w _ _ ⟨hp, g, d, tk, os⟩ _ hT q
    obtain ⟨o, ho, hc, n, hd⟩ := id hT
    wp_walk using it1
    refine wpAny_stack_any fun st => wpAny_pure ?_
    split
    · rename_i c _ _ _ _ _
      cases (c == Value.type "enumerate")
      · wp_walk using it1
        exact ⟨_, rfl, h⟩
      · wp_walk using it1
        exact ⟨_, rfl, h⟩
    · wp_walk using it1
      exact ⟨_, rfl, h⟩
theorem call_enumT {t : Addr} {items : Array Value} {Q : Value → Shared → Prop} (hT : s.heap.IsTuple t items)
    (k : ∀ h', IsEnum h' (s.heap.objs.size + 1) s.heap.objs.size 0 .none → h'.IsTupleIter s.heap.objs.size t 0 → h'.objs.size = s.heap.objs.size + 2 → (∀ b o, s.heap.get? b = some o → h'.get? b = some o) → Q (.ref (s.heap.objs.size + 1)) { s with heap := h' }) :
    wpAny (model prog w) A (call (.type "enumerate") [.ref t]) Q E s := by
  refine callType_new F.called_enumerate (by decide) (F.typeCall_enumerate_1 _) (F.newCall_enumerate_1 _) (fun obj => F.args_object_init_2 obj _) F.entry_enumerate_new (new_enumT t items) ⟨hT, ?_⟩
  have z : (s.heap.push { cls := .type "tuple_iterator", data := .fields #[.ref t, .int 0 0] }).objs.size = s.heap.objs.size + 1 := Heap.size_push ..
  show _ ∧ _
  rw [z]
  have e : IsEnum ((s.heap.push { cls := .type "tuple_iterator", data := .fields #[.ref t, .int 0 0] }).push { cls := .type "enumerate", data := .fields #[.none, .bool false, .ref s.heap.objs.size, rawInt 0, .none, .none] }) (s.heap.objs.size + 1) s.heap.objs.size 0 .none := by
    have q := Heap.get?_push_size (s.heap.push { cls := .type "tuple_iterator", data := .fields #[.ref t, .int 0 0] }) (o := { cls := .type "enumerate", data := .fields #[.none, .bool false, .ref s.heap.objs.size, rawInt 0, .none, .none] }) rfl
    rw [z] at q
    exact q
  exact ⟨⟨_, e, rfl⟩, k _ e ⟨_, Heap.get?_push_of_some _ (Heap.get?_push_size _ rfl), rfl, rfl⟩ (by rw [Heap.size_push, z]) fun b o x => Heap.get?_push_of_some _ (Heap.get?_push_of_some _ x)⟩
end
/-- the tuple at a, each item in a new pair -/
def IteT (K : PySem.W.Frag) (a : Addr) : L2.It :=
  ⟨fun i H => ∃ (xs : List V) (x : V), SqT K H a xs ∧ xs[i]? = some x, fun i H v H' => ∃ T x, v = .ref T ∧ H T = none ∧ H' = upd H T (.tup [.int (i : Nat), x]) ∧ ∀ xs, SqT K H a xs → xs[i]? = some x, fun i H => ∃ xs : List V, SqT K H a xs ∧ xs.length ≤ i⟩
theorem turn_enumT {P : Program} {w : World} {K : PySem.W.Frag} {elts : List Expr} {kk : Nat} {tpos : Pos} (a e it : Addr) :
    Turn P w K (.Tuple elts kk tpos) (IteT K a) [e, it] e (fun i h => (∃ old, IsEnum h e it ((i : Nat) : Int) old) ∧ h.IsTupleIter it a i ∧ e ≠ it) where
  mem := by simp
  obj := fun i h st b hb => by
    obtain ⟨⟨old, he⟩, ⟨o, ho, hc, hd⟩, _⟩ := st
    rcases (show b = e ∨ b = it by simpa using hb) with z | z
    · rw [z]; exact ⟨_, he, fun v q => nomatch q⟩
    · rw [z]; exact ⟨o, ho, fun v q => by rw [hd] at q; cases q⟩
  keep := fun i h h' st k => by
    obtain ⟨⟨old, he⟩, ⟨o, ho, r⟩, ne⟩ := st
    exact ⟨⟨old, k e (by simp) _ he⟩, ⟨o, k it (by simp) _ ho, r⟩, ne⟩
  item := by
    intro X hP hw hK hc i pins s σ H E I hf st hg
    subst hP hw hK
    obtain ⟨⟨old, he⟩, hit, ne⟩ := st
    obtain ⟨xs, x, hq, hx⟩ := hg
    obtain ⟨its, rv, p, hz⟩ := I.tuple hq
    obtain ⟨u, hu, ru⟩ := rv.get hx
    have le : e < s.heap.objs.size := Heap.lt_size he
    have lit : it < s.heap.objs.size := by obtain ⟨_, q, _⟩ := hit; exact Heap.lt_size q
    have pT : s.heap.IsTuple a its.toArray := p
    obtain ⟨oa, ga, ca, na, da⟩ := id pT
    have nea : e ≠ a := fun z => by
      subst z
      rw [show s.heap.get? e = _ from he] at ga
      cases ga
      cases da
    have neit : a ≠ it := fun z => by
      obtain ⟨o, ho, hc, hd⟩ := hit
      rw [z, ho] at ga
      cases ga
      rw [hd] at da
      cases da
    have hi : i < its.toArray.size := by
      obtain ⟨l, _⟩ := List.getElem?_eq_some_iff.mp hu
      simpa using l
    refine wpAny_pyNext_enum_itemD (drw_tup (A := X.A.in1) (I.ok.hd hc) neit) he ⟨hit, pT⟩ hi ne (by simp [ne, nea]) fun x' h' tk hx' ho hst hT hsz hk => ?_
    obtain ⟨hit', _⟩ := hst
    have e2 : x' = u := by
      have hx' : its.toArray[i]? = some x' := hx'
      rw [show its.toArray[i]? = its[i]? by simp, hu] at hx'
      exact (Option.some.inj hx').symm
    subst e2
    refine ⟨_, rfl, wpAny_letOwnedTupleGo_enum (s := { s with heap := h', toks := tk + 1 }) ho fun h'' he' sb => ?_⟩
    have hT2 : h''.get? s.heap.objs.size = some { cls := .type "tuple", data := .seq #[.int i tk, x'] } := (sb.2 _ (Nat.ne_of_gt le)).trans hT
    have new : ObjOk X.prog X.w (upd H s.heap.objs.size (.tup [.int (i : Nat), x])) h'' s.heap.objs.size (.tup [.int (i : Nat), x]) :=
      ⟨by show 2 ≤ sizeLine; decide, [.int i tk, x'], .cons ⟨_, rfl⟩ (.cons ru .nil), ⟨_, hT2, rfl, _, rfl⟩⟩
    have I1 : Inv X pins σ (upd H s.heap.objs.size (.tup [.int (i : Nat), x])) { s with heap := h'', toks := tk + 1 } :=
      I.turnedNew (ch := [e, it]) (fun b ob hb q => (sb.2 b (fun z => hb (by simp [z]))).trans (hk b ob (fun z => hb (by simp [z])) (fun z => hb (by simp [z])) q)) hf (Nat.le_refl _) new
    obtain ⟨o, ho2, r2⟩ := hit'
    refine ⟨.ref s.heap.objs.size, _, I1, rfl, ⟨_, x, rfl, I.hok.fresh (Nat.le_refl _), rfl, fun ys hy => by rw [I.tuple_inj hy hq]; exact hx⟩, ⟨⟨x', ?_⟩, ⟨o, (sb.2 it (Ne.symm ne)).trans ho2, r2⟩, ne⟩, fun b hb => ?_⟩
    · have e1 : ((i + 1 : Nat) : Int) = (i : Int) + 1 := by omega
      rw [e1]
      exact he'
    · have lb : b < s.heap.objs.size := by
        rcases (show b = e ∨ b = it by simpa using hb) with z | z
        · rw [z]; exact le
        · rw [z]; exact lit
      rw [upd_ne (Nat.ne_of_lt lb)]
      exact (hf b hb).1
  done := by
    intro X hP hw hK hc i pins s σ H E I hf st hg
    subst hP hw hK
    obtain ⟨⟨old, he⟩, hit, ne⟩ := st
    obtain ⟨xs, hq, hx⟩ := hg
    obtain ⟨its, rv, p, hz⟩ := I.tuple hq
    have pT : s.heap.IsTuple a its.toArray := p
    obtain ⟨oa, ga, ca, na, da⟩ := id pT
    have neit : a ≠ it := fun z => by
      obtain ⟨o, ho, hc, hd⟩ := hit
      rw [z, ho] at ga
      cases ga
      rw [hd] at da
      cases da
    obtain ⟨f0, f1, f2, f3, f4, f5⟩ := hf it (by simp)
    have D : Draws X.prog X.w X.A.in1 it [it, a] its.toArray.size (fun i x => its.toArray[i]? = some x) (fun j h => j = its.toArray.size ∧ h.IsTupleIter it a i ∧ h.IsTuple a its.toArray) := {
      live := fun j h st => by obtain ⟨_, ⟨o, e, _⟩, _⟩ := st; exact ⟨o, e⟩
      frame := fun j h h' st k => by
        obtain ⟨z, ⟨o, e, r⟩, ⟨o2, e2, r2⟩⟩ := st
        exact ⟨z, ⟨o, k it (by simp) o e, r⟩, ⟨o2, k a (by simp) o2 e2, r2⟩⟩
      item := fun j s Q E hj st k => absurd st.1 (Nat.ne_of_lt hj)
      done := fun s Q E st k => wpAny_nextOf_tuple_end (I.ok.hd hc) st.2.1 st.2.2 (by
        have := rv.length
        simp
        omega) k }
    exact wpAny_pyNext_enum_endD D he ⟨rfl, hit, pT⟩ fun h' eb => ⟨rfl, I.turned (t' := s.toks) (fun b o hb q => eb b o hb q) f0 f1 f3 f4 f5⟩
  self := fun A i s Q E st h => by
    obtain ⟨⟨_, he⟩, _⟩ := st
    exact wpAny_pyIter_enum he h
def iEnumT (K : PySem.W.Frag) (ta : TA) : TI := fun σ H R => ta σ H fun vs H1 => ∃ a xs, vs = [.ref a] ∧ SqT K H1 a xs ∧ R (IteT K a) H1
theorem pi_enumT {X : Cx} {e : Expr} {ta : TA} {p pos tpos : Pos} {elts : List Expr} {kk : Nat} (hg : Gl X "enumerate") (hm : X.mg "enumerate" = none) (ha : PA X [e] ta) (hs : starEach [e] X.env = [(false, eval e X.env)]) :
    PI X (.Tuple elts kk tpos) (.Call (.Name "enumerate" p) [e] [] pos) (iEnumT X.K ta) := by
  refine ⟨fun pins s σ H R I h => ?_⟩
  refine Call_ (ld_blt I hg hm boot_enumerate (PyProof.Rows.callWith_type1 (thn (ha.run pos pins s σ H _ I h) fun us s1 ⟨vs, H1, I1, r1, q1⟩ => ?_) hs rfl))
  obtain ⟨a, xs, ex, hq, q⟩ := q1
  subst ex
  cases r1 with
  | cons r rr =>
    cases rr
    cases r
    obtain ⟨its, rv, p', hz⟩ := I1.tuple hq
    refine call_enumT (items := its.toArray) p' fun h' he hit hsz hk => wpAny_pyIter_enum he ?_
    have I2 : Inv X pins σ H1 { s1 with heap := h' } := I1.kept (t' := s1.toks) hk
    refine ⟨s1.heap.objs.size + 1, [s1.heap.objs.size + 1, s1.heap.objs.size], _, _, H1, rfl, I2, turn_enumT a (s1.heap.objs.size + 1) s1.heap.objs.size, ⟨⟨.none, he⟩, hit, Nat.succ_ne_self _⟩, fun b hb => ?_, q⟩
    have le : s1.heap.objs.size ≤ b := by
      rcases (show b = s1.heap.objs.size + 1 ∨ b = s1.heap.objs.size by simpa using hb) with z | z
      · rw [z]; exact Nat.le_add_right _ _
      · rw [z]; exact Nat.le_refl _
    exact I1.fpOk le (I1.hok.fresh le)
/-! ### a list taken apart -/
section
variable {prog : Program} {w : World} {A : Around} {E : Value → Shared → Prop}
theorem draw_lst {it l : Addr} {items : Array Value} (ne : l ≠ it) : ∀ (n i : Nat) (s : Shared) (Q : List Value → Shared → Prop), s.heap.IsListIter it l i → s.heap.IsList l items → i + n ≤ items.size →
    (∀ h', h'.IsListIter it l (i + n) → Heap.SameBut it s.heap h' → Q ((items.toList.drop i).take n) { s with heap := h' }) → wpAny (model prog w) A (draw (.ref it) n) Q E s
  | 0, i, s, Q, hit, _, _, k => by
    show wpAny _ _ (pure []) Q E s
    exact wpAny_pure (by simpa using k s.heap hit (Heap.SameBut.refl ..))
  | n + 1, i, s, Q, hit, hl, le, k => by
    have lt : i < items.size := by omega
    show wpAny _ _ (pyNext (.ref it) >>= _) Q E s
    refine wpAny_bind (wpAny_pyNext_list_item hit hl (x := items[i]) (by simp [lt]) fun h1 hit1 sb1 => ?_)
    have hl1 : h1.IsList l items := hl.extBut sb1.extBut ne
    refine wpAny_bind (wpAny_holding (draw_lst ne n (i + 1) _ _ hit1 hl1 (by omega) fun h2 hit2 sb2 => wpAny_pure ?_))
    have e : items.toList.drop i = items[i] :: items.toList.drop (i + 1) := by simp [List.drop_eq_getElem_cons, lt]
    have q := k h2 (by rw [show i + (n + 1) = i + 1 + n by omega]; exact hit2) (sb1.trans sb2)
    rw [e, List.take_succ_cons] at q
    exact q
theorem unpack_lst {s : Shared} {l : Addr} {items : Array Value} {targets : List (Bool × (Value → Sem Unit))} {Q : Unit → Shared → Prop} (hh : A.handled = none) (hl : s.heap.IsList l items) (hn : targets.length = items.size) (hst : targets.findIdx? (·.1) = none)
    (k : ∀ h', Heap.ExtBut s.heap.objs.size s.heap h' → wpAny (model prog w) A (assignInOrder (targets.map (·.2)) items.toList) Q E { s with heap := h' }) : wpAny (model prog w) A (unpack (.ref l) targets) Q E s := by
  have lt : l ≠ s.heap.objs.size := by
    obtain ⟨o, ho, _⟩ := hl
    exact Nat.ne_of_lt (Heap.lt_size ho)
  unfold unpack
  rw [hn, hst]
  refine wpAny_bind (wpAny_holding ?_)
  unfold unpackItems notIterableAtAll
  refine wpAny_bind (wpAny_bind (wpAny_specialOf hl.typeIs F.slot_list_iter.lookup (wpAny_pure ?_)))
  simp only [Bool.false_eq_true, if_false]
  refine wpAny_bind (wpAny_holding (wpAny_pyIter_list hl ?_))
  have hl1 : (s.heap.push { cls := .type "list_iterator", data := .fields #[.ref l, .int 0 0] }).IsList l items := hl.at fun o e => Heap.get?_push_of_some _ e
  refine wpAny_bind (wpAny_holding (draw_lst lt items.size 0 _ _ ⟨_, Heap.get?_push_size _ rfl, rfl, rfl⟩ hl1 (by omega) fun h1 hit1 sb1 => ?_))
  have all : List.take items.size (List.drop 0 items.toList) = items.toList := by
    rw [List.drop_zero]
    exact List.take_of_length_le (by simp)
  rw [all, if_neg (by simp)]
  have hl2 : h1.IsList l items := hl1.extBut sb1.extBut lt
  refine wpAny_bind (wpAny_holding (wpAny_pyNext_list_end hh hit1 hl2 (by simp) fun h2 eb => ?_))
  simp only [Option.isSome_none, Bool.false_eq_true, if_false]
  exact wpAny_pure (k h2 fun b o hb e => eb b o hb (sb1.extBut b o hb (Heap.get?_push_of_some _ e)))
end
/-- (a, b, ..) = a list of that length -/
def gLstT (K : PySem.W.Frag) (n : Nat) (t : TGs) : TG := fun v σ H Q => ∃ a xs, v = .ref a ∧ SqL K H a xs ∧ xs.length = n ∧ t xs σ H Q
theorem pg_lst {X : Cx} {es : List Expr} {k : Nat} {t : TGs} {n : Nat} {pos : Pos} (hc : X.calm = true) (h : PGs X es t) (hn : (assignEach es X.env).length = n) (hst : (assignEach es X.env).findIdx? (·.1) = none) : PG X (.Tuple es k pos) (gLstT X.K n t) := by
  refine ⟨fun pins s σ H v u Q I r hw => ?_⟩
  obtain ⟨a, xs, e1, hq, hl, hw⟩ := hw
  subst e1
  cases r
  obtain ⟨its, rv, p, hz⟩ := I.list hq
  rw [PyProof.Rows.assign_Tuple]
  refine wpAny_bind (wpAny_standAt (unpack_lst (items := its.toArray) (I.ok.hd hc) p.isList (by simp [hn, ← hl, rv.length]) hst fun h' hx => ?_))
  have I1 : Inv X pins σ H { s with heap := h' } := I.kept (t' := s.toks) fun b o e => hx b o (Nat.ne_of_lt (Heap.lt_size e)) e
  exact h.run pins _ σ H xs _ Q I1 (by simpa using rv) hw
end Fe
set_option Elab.async false
set_option linter.all false
set_option maxRecDepth 100000
set_option maxHeartbeats 4000000
/-! Fe, part D: expressions are what the evaluator says. -/
namespace Fe
open PySem PySem.Spec PyProof.Rows L2

/-! ### own errors, promises -/
/-- an error of the class that the module's name c stands for, with the number i -/
def XRep (K : PySem.W.Frag) (H : Hp) (cls : Value) (dd : Option Addr) (c : Str) (i : Int) : Prop :=
  ∃ dx, cls = .ref (He.ga K c) ∧ dd = some dx ∧ H dx = some (.xd [("at", V.int i)])
/-- a def keeps what F says of the data -/
def spF (K : PySem.W.Frag) (F : List PD → R PD) : Sp := fun vs H Q E => ∃ ds O, Dom O H ∧ RXs K O H vs ds ∧ match F ds with
  | .ok d => PostX K O H Q d
  | .exc c i => ∀ cls dd H', Same H H' → XRep K H' cls dd c i → E cls dd H'
  | .bad => False

/-! ### slots -/
structure Rel (K : PySem.W.Frag) (W : List Nat) (O : Addr → Prop) (H0 : Hp) (ρ : Env) (σ : L2.St) (H : Hp) : Prop where
  len : σ.length = ρ.length
  val : ∀ i d, i ∉ W → ρ[i]? = some (some d) → ∃ v, σ[i]? = some (some v) ∧ RX K O H v d
  own : ∀ i d, i ∈ W → ρ[i]? = some (some d) → ∃ a, σ[i]? = some (some (.ref a)) ∧ O a ∧ H0 a = none ∧ Own K O H a d ∧
    ∀ j e, j ∈ W → j ≠ i → ρ[j]? = some (some e) → σ[j]? ≠ some (some (.ref a))
  dom : Dom O H
  sam : Same H0 H
theorem Rel.same {K : PySem.W.Frag} {W : List Nat} {O : Addr → Prop} {H0 : Hp} {ρ : Env} {σ : L2.St} {H H' : Hp} (r : Rel K W O H0 ρ σ H) (s : Same H H') : Rel K W O H0 ρ σ H' :=
  ⟨r.len, fun i d n e => by
    obtain ⟨v, e1, h⟩ := r.val i d n e
    exact ⟨v, e1, h.same s⟩, fun i d n e => by
    obtain ⟨a, e1, h1, h2, h3, h4⟩ := r.own i d n e
    exact ⟨a, e1, h1, h2, h3.same s, h4⟩, r.dom.same s, r.sam.trans s⟩

/-! ### what is wanted of an answer -/
def JG (Wx : WX) (K : PySem.W.Frag) (σ : L2.St) (H : Hp) {α : Type} (P : α → Prop) : R α → Prop
  | .ok a => P a
  | .exc c i => ∀ cls dd H', Same H H' → XRep K H' cls dd c i → Wx cls dd σ H'
  | .bad => False
section
variable {Wx : WX} {K : PySem.W.Frag} {σ : L2.St} {H H' : Hp} {α β : Type} {P P' : α → Prop} {r : R α}
theorem JG.bind {f : α → R β} {Q : β → Prop} (h : JG Wx K σ H Q (r.bind f)) : JG Wx K σ H (fun a => JG Wx K σ H Q (f a)) r := by
  cases r <;> exact h
theorem JG.imp (h : JG Wx K σ H P r) (k : ∀ a, r = .ok a → P a → P' a) : JG Wx K σ H P' r := by
  cases r with
  | ok a => exact k a rfl h
  | exc c i => exact h
  | bad => exact h
theorem JG.same (h : JG Wx K σ H P r) (s : Same H H') (k : ∀ a, P a → P' a) : JG Wx K σ H' P' r := by
  cases r with
  | ok a => exact k a h
  | exc c i => exact fun cls dd H2 s2 x => h cls dd H2 (s.trans s2) x
  | bad => exact h
end
def PostP (K : PySem.W.Frag) (O : Addr → Prop) (H : Hp) (Q : VK) (d : PD) : Prop := ∀ v H', Same H H' → RS K O H' v d → Q v H'
theorem PostP.x {K : PySem.W.Frag} {O : Addr → Prop} {H : Hp} {Q : VK} {d : PD} (h : PostP K O H Q d) : PostX K O H Q d := fun v H' s r => h v H' s r.rs
theorem PostP.same {K : PySem.W.Frag} {O : Addr → Prop} {H H' : Hp} {Q : VK} {d : PD} (s : Same H H') (h : PostP K O H Q d) : PostP K O H' Q d := fun v H2 s2 r => h v H2 (s.trans s2) r

section
variable (S : Sig) (Wx : WX) (K : PySem.W.Frag) (W : List Nat)
/-- an expression's value is taken; .. is only looked at; .. is a new list or dict -/
def tE (e : E) : TE := fun σ H Q => ∃ ρ O H0, Rel K W O H0 ρ σ H ∧ JG Wx K σ H (PostX K O H Q) (evE S e ρ)
def tP (e : E) : TE := fun σ H Q => ∃ ρ O H0, Rel K W O H0 ρ σ H ∧ JG Wx K σ H (PostP K O H Q) (evE S e ρ)
def tF (e : E) : TE := fun σ H Q => ∃ ρ O H0, Rel K W O H0 ρ σ H ∧ JG Wx K σ H (fun d => isL d = true ∧ PostF K O H Q d) (evE S e ρ)
/-- as a test -/
def tT (e : E) : TT := fun σ H Q => ∃ ρ O H0, Rel K W O H0 ρ σ H ∧ JG Wx K σ H (fun d => ∃ k, d = PyData.bool k ∧ ∀ H', Same H H' → Q k H') (evE S e ρ)
def tAs (es : Es) : TA := fun σ H Q => ∃ ρ O H0, Rel K W O H0 ρ σ H ∧ JG Wx K σ H (fun ds => ∀ vs H', Same H H' → RXs K O H' vs ds → Q vs H') (evEs S es ρ)
def tAp (es : Es) : TA := fun σ H Q => ∃ ρ O H0, Rel K W O H0 ρ σ H ∧ JG Wx K σ H (fun ds => ∀ vs H', Same H H' → RSs K O H' vs ds → Q vs H') (evEs S es ρ)
def tEd (d : Ed) : TA := fun σ H Q => ∃ ρ O H0, Rel K W O H0 ρ σ H ∧ JG Wx K σ H (fun ds => ∀ vs H', Same H H' → RXs K O H' vs ds → Q vs H') (evEd S d ρ)
def tKv : Kv → List (TE × TE)
  | .nil => []
  | .cons k v r => (tP S Wx K W k, tE S Wx K W v) :: tKv r
def tEo (e : Eo) : TO := fun σ H Q => ∃ ρ O H0, Rel K W O H0 ρ σ H ∧ JG Wx K σ H (fun o => ∀ H', Same H H' → Q o H') (evEo S e ρ)
end

theorem PE.mono {X : Cx} {e : Expr} {t t' : TE} (h : PE X e t) (k : ∀ σ H Q, t' σ H Q → t σ H Q) : PE X e t' := ⟨fun pins s σ H Q I q => h.run pins s σ H Q I (k σ H Q q)⟩
theorem PT.mono {X : Cx} {e : Expr} {t t' : TT} (h : PT X e t) (k : ∀ σ H Q, t' σ H Q → t σ H Q) : PT X e t' := ⟨fun pins s σ H Q I q => h.run pins s σ H Q I (k σ H Q q)⟩
theorem PA.mono {X : Cx} {e : List Expr} {t t' : TA} (h : PA X e t) (k : ∀ σ H Q, t' σ H Q → t σ H Q) : PA X e t' := ⟨fun pos pins s σ H Q I q => h.run pos pins s σ H Q I (k σ H Q q)⟩
theorem PO.mono {X : Cx} {e : Option Expr} {t t' : TO} (h : PO X e t) (k : ∀ σ H Q, t' σ H Q → t σ H Q) : PO X e t' := ⟨fun pins s σ H Q I q => h.run pins s σ H Q I (k σ H Q q)⟩
theorem PW.mono {X : Cx} {e : Expr} {t t' : TT} (h : PW X e t) (k : ∀ σ H Q, t' σ H Q → t σ H Q) : PW X e t' := ⟨fun wh pins s σ H Q I q => h.run wh pins s σ H Q I (k σ H Q q)⟩
theorem PI.mono {X : Cx} {tg e : Expr} {t t' : TI} (h : PI X tg e t) (k : ∀ σ H Q, t' σ H Q → t σ H Q) : PI X tg e t' := ⟨fun pins s σ H Q I q => h.run pins s σ H Q I (k σ H Q q)⟩
theorem PG.mono {X : Cx} {e : Expr} {t t' : TG} (h : PG X e t) (k : ∀ v σ H Q, t' v σ H Q → t v σ H Q) : PG X e t' := ⟨fun pins s σ H v u Q I r q => h.run pins s σ H v u Q I r (k v σ H Q q)⟩
theorem PS.mono {X : Cx} {e : Stmt} {t t' : TS} (h : PS X e t) (k : ∀ D σ H, t' D σ H → t D σ H) : PS X e t' := ⟨fun pins s σ H Q I q => h.run pins s σ H Q I (k Q σ H q)⟩
theorem PSs.mono {X : Cx} {e : List Stmt} {t t' : TS} (h : PSs X e t) (k : ∀ D σ H, t' D σ H → t D σ H) : PSs X e t' := ⟨fun pins s σ H Q I q => h.run pins s σ H Q I (k Q σ H q)⟩

/-! ### answers that raise nothing -/
def noX {α : Type} : R α → Prop
  | .exc _ _ => False
  | _ => True
theorem noX_dummy : True := trivial
theorem noX_bin (o : Op) (d e : PD) : noX (binV o d e) := by
  cases o <;> cases d <;> cases e <;> simp only [binV] <;> first | trivial | (split <;> trivial)
theorem noX_cmp (c : Cp) (d e : PD) : noX (cmpV c d e) := by
  cases c <;> cases d <;> cases e <;> simp only [cmpV] <;> first | trivial | (split <;> trivial)
theorem noX_ix (d e : PD) : noX (ixV d e) := by
  cases d <;> cases e <;> simp only [ixV] <;> first | trivial | (split <;> trivial)
theorem noX_sl (d : PD) (l h : Option Int) : noX (slV d l h) := by
  cases d <;> trivial
theorem noX_bi (b : Bi) (ds : List PD) : noX (biV b ds) := by
  unfold biV
  split <;> first | trivial | (split <;> trivial)
section
variable {Wx : WX} {K : PySem.W.Frag} {O : Addr → Prop} {σ : L2.St} {H : Hp} {Q : VK} {r : R PD}
theorem JG.retB (dom : Dom O H) (n : noX r) (h : JG Wx K σ H (PostX K O H Q) r) : RetB K O H Q r := by
  cases r with
  | ok d => exact PostX.toB dom h
  | exc c i => exact n.elim
  | bad => exact h
theorem JG.retF (n : noX r) (h : JG Wx K σ H (fun d => isL d = true ∧ PostF K O H Q d) r) : RetB K O H Q r := by
  cases r with
  | ok d => exact PostF.toB h.2 h.1
  | exc c i => exact n.elim
  | bad => exact h
theorem JG.retX (n : noX r) (h : JG Wx K σ H (PostX K O H Q) r) : RetX K O H Q r := by
  cases r with
  | ok d => exact h
  | exc c i => exact n.elim
  | bad => exact h
end

/-! ### the given text -/
structure Gam where
  N : List Str
  sc : Scope
  st : Scope
  W : List Nat
  T : List Str
  C : List Str
def vis (sc : Scope) (x : Str) : Bool := match sc.names.lookup x with
  | some .local => true
  | some .cell => true
  | some .free => true
  | _ => false
def glb (sc : Scope) (x : Str) : Bool := decide (sc.names.lookup x = some .globalImplicit)
def nodb (x : Str) : Bool := !(x == ("__debug__" : Str)) && !(x == ("__classdict__" : Str))
def stOk (Γ : Gam) (x : Str) : Bool := match Γ.st.names.lookup x with
  | some .local => true
  | some .cell => true
  | _ => false
/-- the expressions that are met -/
def okX : Expr → Bool
  | .BoolOp .. | .BinOp .. | .UnaryOp .. | .IfExp .. | .Dict .. | .ListComp .. | .DictComp .. | .Compare .. | .Call .. | .Constant .. | .Attribute .. | .Subscript .. | .Name .. | .List .. | .Tuple .. => true
  | _ => false
def isLC : Expr → Bool
  | .ListComp .. | .DictComp .. => true
  | _ => false
theorem star_of {e : Expr} (h : okX e = true) (es : List Expr) (env : PySem.Env) : starEach (e :: es) env = (false, eval e env) :: starEach es env := by
  cases e <;> first | rfl | cases h
theorem plainIx_of {e : Expr} (h : okX e = true) : PlainIx e := by
  intro o i
  cases e <;> first | rfl | cases h
theorem marks_of {e : Expr} (h : okX e = true) (op : CmpOp) : behindInMarks op e = false := by
  cases e <;> first | rfl | cases h
theorem swaps_of {e : Expr} (h : okX e = true) (h2 : isLC e = false) (t : Option Expr) (l : Nat) (env : PySem.Env) : swapsWith e t l env = pure false := by
  cases e <;> first | rfl | (simp [okX] at h; done) | (simp [isLC] at h2; done)
theorem folded_of {e : Expr} (h : okX e = true) (env : PySem.Env) (x : Value) : foldedSetIterable e env x = pure x := by
  cases e <;> first | rfl | cases h
theorem stars_of {es : List Expr} (h : es.all okX = true) (env : PySem.Env) (pos : Pos) : (backTo pos (starEach es env)).any (·.1) = false := by
  induction es with
  | nil => rfl
  | cons e r ih =>
    simp only [List.all_cons, Bool.and_eq_true] at h
    rw [star_of h.1]
    simp only [backTo, List.map_cons, List.any_cons, Bool.false_or]
    exact ih h.2

mutual
def chkTg (Γ : Gam) : Tg → Expr → Bool
  | .nm i, .Name x _ => decide (Γ.N[i]? = some x) && (stOk Γ x && decide (i ∉ Γ.W))
  | .tp ts, .Tuple es _ _ => chkTgs Γ ts es
  | _, _ => false
def chkTgs (Γ : Gam) : List Tg → List Expr → Bool
  | [], [] => true
  | t :: ts, e :: es => chkTg Γ t e && chkTgs Γ ts es
  | _, _ => false
end
mutual
/-- may stand as a test -/
def tOk : E → Bool
  | .ite .. => false
  | .ands es | .ors es => tOks es
  | .nt a => tOk a
  | _ => true
def tOks : Es → Bool
  | .nil => true
  | .cons e r => tOk e && tOks r
end
mutual
/-- a target's slots are among these -/
def tgIn (own : List Nat) : Tg → Bool
  | .nm i => decide (i ∈ own)
  | .tp ts => tgIns own ts
def tgIns (own : List Nat) : List Tg → Bool
  | [] => true
  | t :: ts => tgIn own t && tgIns own ts
end
def ownOf (Γ : Gam) (own : List Nat) : List (Str × Nat) := own.map fun i => (Γ.N.getD i Str.empty, i)
mutual
def chkE (Γ : Gam) : E → Expr → Bool
  | .var i, .Name x _ => decide (Γ.N[i]? = some x) && (vis Γ.sc x && nodb x)
  | .int i, .Constant (.int j) _ _ => decide (i = j)
  | .bl b, .Constant (.bool c) _ _ => decide (b = c)
  | .non, .Constant .none _ _ => true
  | .str s, .Constant (.str c) _ _ => decide (s = c) && PyData.strOk s
  | .glob x, .Name y _ => decide (x = y) && (glb Γ.sc x && nodb x)
  | .tup es, .Tuple as _ _ => chkEs Γ es as && decide (as.length ≤ 1000)
  | .lst es, .List as _ => chkEs Γ es as && decide (as.length ≤ 1000)
  | .bin o a b, .BinOp x p y _ => decide (p = opPy o) && (chkE Γ a x && chkE Γ b y)
  | .neg a, .UnaryOp .USub x _ => chkE Γ a x
  | .cmp c a b, .Compare x [p] [y] _ => decide (p = cpPy c) && (chkE Γ a x && chkE Γ b y)
  | .chn c d a b e, .Compare x [p, q] [y, z] _ => decide (p = cpPy c ∧ q = cpPy d) && (chkE Γ a x && (chkE Γ b y && chkE Γ e z))
  | .isN a, .Compare x [.Is] [.Constant .none _ _] _ => chkE Γ a x
  | .noN a, .Compare x [.IsNot] [.Constant .none _ _] _ => chkE Γ a x
  | .isB b a, .Compare x [.Is] [.Constant (.bool c) _ _] _ => decide (b = c) && chkE Γ a x
  | .noB b a, .Compare x [.IsNot] [.Constant (.bool c) _ _] _ => decide (b = c) && chkE Γ a x
  | .ands es, .BoolOp .And as _ => chkEs Γ es as
  | .ors es, .BoolOp .Or as _ => chkEs Γ es as
  | .nt a, .UnaryOp .Not x _ => chkE Γ a x
  | .ite c a b, .IfExp x y z _ => chkE Γ c x && (tOk c && (chkE Γ a y && chkE Γ b z))
  | .ix a b, .Subscript x y _ => chkE Γ a x && chkE Γ b y
  | .sl a lo hi, .Subscript x (.Slice l h none _) _ => chkE Γ a x && (chkEo Γ lo l && chkEo Γ hi h)
  | .call f es, .Call (.Name x _) as [] _ => decide (Γ.T[f]? = some x) && (glb Γ.sc x && (nodb x && chkEs Γ es as))
  | .disp true d, .List as _ => chkEd Γ d as
  | .disp false d, .Tuple as _ _ => chkEd Γ d as
  | .dct p, .Dict ks vs _ => chkKv Γ p ks vs && (decide (ks.length ≤ 15) && !ks.isEmpty)
  | .bi b es, .Call (.Name x _) as [] _ => decide (x = biNm b) && (glb Γ.sc x && (chkEs Γ es as && !as.isEmpty))
  | .comp elt tg it cs own, .ListComp x [⟨t, i, ifs, 0⟩] sc _ =>
    chkIt Γ it t i && (blkC Γ.N Γ.sc sc (ownOf Γ own) && (own.all (fun i => decide (i ∉ Γ.W)) && (chkTg { Γ with sc := relS sc Γ.sc, st := sc } tg t &&
      (chkC { Γ with sc := relS sc Γ.sc, st := sc } cs ifs && (tgIn own tg && chkE { Γ with sc := relS sc Γ.sc, st := sc } elt x)))))
  | _, _ => false
def chkKv (Γ : Gam) : Kv → List (Option Expr) → List Expr → Bool
  | .nil, [], [] => true
  | .cons k v r, some x :: ks, y :: vs => chkE Γ k x && (chkE Γ v y && chkKv Γ r ks vs)
  | _, _, _ => false
def chkEd (Γ : Gam) : Ed → List Expr → Bool
  | .nil, [] => true
  | .one e r, x :: xs => chkE Γ e x && chkEd Γ r xs
  | .star e r, .Starred x _ :: xs => chkE Γ e x && chkEd Γ r xs
  | _, _ => false
def chkEs (Γ : Gam) : Es → List Expr → Bool
  | .nil, [] => true
  | .cons e r, x :: xs => chkE Γ e x && chkEs Γ r xs
  | _, _ => false
def chkEo (Γ : Gam) : Eo → Option Expr → Bool
  | .none, none => true
  | .some e, some x => chkE Γ e x
  | _, _ => false
def chkC (Γ : Gam) : Eo → List Expr → Bool
  | .none, [] => true
  | .some e, [x] => chkE Γ e x && tOk e
  | _, _ => false
def chkIt (Γ : Gam) : It → Expr → Expr → Bool
  | .e a, _, x => chkE Γ a x
  | .r1 a, _, .Call (.Name n _) [x] [] _ => decide (n = ("range" : Str)) && (glb Γ.sc n && chkE Γ a x)
  | .r2 a b, _, .Call (.Name n _) [x, y] [] _ => decide (n = ("range" : Str)) && (glb Γ.sc n && (chkE Γ a x && chkE Γ b y))
  | .r3 a b c, _, .Call (.Name n _) [x, y, z] [] _ => decide (n = ("range" : Str)) && (glb Γ.sc n && (chkE Γ a x && (chkE Γ b y && chkE Γ c z)))
  | .zip a b, .Tuple .., .Call (.Name n _) [x, y] [] _ => decide (n = ("zip" : Str)) && (glb Γ.sc n && (chkE Γ a x && chkE Γ b y))
  | .enum a, .Tuple .., .Call (.Name n _) [x] [] _ => decide (n = ("enumerate" : Str)) && (glb Γ.sc n && chkE Γ a x)
  | _, _, _ => false
end
theorem okX_of {Γ : Gam} {e : E} {x : Expr} (h : chkE Γ e x = true) : okX x = true := by
  cases e <;> cases x <;> first | rfl | (simp [chkE] at h; done) | skip
  all_goals (rename_i l d _ _; cases l <;> simp [chkE] at h)
theorem okXs_of {Γ : Gam} : ∀ {es : Es} {xs : List Expr}, chkEs Γ es xs = true → xs.all okX = true
  | .nil, [], _ => rfl
  | .nil, _ :: _, h => by simp [chkEs] at h
  | .cons _ _, [], h => by simp [chkEs] at h
  | .cons e r, x :: xs, h => by
    simp only [chkEs, Bool.and_eq_true] at h
    simp only [List.all_cons, Bool.and_eq_true]
    exact ⟨okX_of h.1, okXs_of h.2⟩

/-! ### where it stands -/
structure Cxt (S : Sig) (Γ : Gam) (W : List Nat) (Wx : WX) (X : Cx) : Prop where
  sub : ∀ i ∈ W, i ∈ Γ.W
  calm : X.calm = true
  sc : X.env.scope = Γ.sc
  N : X.N = Γ.N
  nd : Γ.N.Nodup
  tk : Takes X Wx
  un : X.A.units + 100 < cLine
  sto : ∀ x, stOk Γ x = true → Loc X.env.scope x ∧ (X.fn x = true ∨ X.env.scope.names.lookup x = some .local)
  fn : ∀ f x, Γ.T[f]? = some x → ∃ fa fd ps k, FnOk X.prog X.w X.K X.mg X.base (L2.CX X.prog X.w) k fa fd ps (spF X.K (S.C f)) ∧ Room k X.A ∧ X.mg x = some (.ref fa) ∧ PySem.W.keepIn X.K (.ref fa) = true ∧ Binds X.K fd ps []
  con : ∀ x d, S.G.lookup x = some d → ∃ u v, X.mg x = some u ∧ RelV v u ∧ ∀ O H, RX X.K O H v d
  bui : ∀ b, X.mg (biNm b) = none
  rng : X.mg "range" = none
  zip : X.mg "zip" = none
  enu : X.mg "enumerate" = none
theorem glb_of {X : Cx} {sc : Scope} {x : Str} (e : X.env.scope = sc) (h : glb sc x = true) : Gl X x := by
  have h2 := of_decide_eq_true h
  show X.env.scope.names.lookup x = _
  rw [e]
  exact h2
theorem vis_of {X : Cx} {sc : Scope} {x : Str} (e : X.env.scope = sc) (h : vis sc x = true) : Vis X.env.scope x := by
  rw [e]
  unfold vis at h
  split at h
  · rename_i e; exact .inl e
  · rename_i e; exact .inr (.inl e)
  · rename_i e; exact .inr (.inr e)
  · cases h
theorem nodb_of {x : Str} (h : nodb x = true) : (x == ("__debug__" : Str)) = false ∧ (x == ("__classdict__" : Str)) = false := by
  simp only [nodb, Bool.and_eq_true, Bool.not_eq_true'] at h
  exact h
def ndj (W : List Nat) (l : List Nat) : Prop := ∀ i ∈ l, i ∉ W
theorem ndj.l {W a b : List Nat} (h : ndj W (a ++ b)) : ndj W a := fun i hi => h i (List.mem_append_left _ hi)
theorem ndj.r {W a b : List Nat} (h : ndj W (a ++ b)) : ndj W b := fun i hi => h i (List.mem_append_right _ hi)

/-- may be new -/
def isF : E → Bool
  | .lst _ | .bin .. | .sl .. | .bi .. | .comp .. => true
  | .disp l _ => l
  | .dct _ => true
  | _ => false
def isVar : E → Bool
  | .var _ => true
  | _ => false
theorem esc_pk {e : E} (h : isVar e = false) : esc e = pk e := by
  cases e <;> first | rfl | cases h
theorem pk_of {W : List Nat} {e : E} (h : ndj W (esc e)) : ndj W (pk e) := by
  cases e <;> first | exact h | exact (fun _ z => nomatch z)
structure Snd (S : Sig) (Γ : Gam) (W : List Nat) (Wx : WX) (X : Cx) (e : E) (x : Expr) : Prop where
  tk : ndj W (esc e) → PE X x (tE S Wx X.K W e)
  lk : ndj W (pk e) → PE X x (tP S Wx X.K W e)
  nw : isF e = true → ndj W (esc e) → PE X x (tF S Wx X.K W e)
section
variable {S : Sig} {Γ : Gam} {W : List Nat} {Wx : WX} {X : Cx}
theorem tP_tE {e : E} {σ : L2.St} {H : Hp} {Q : VK} (h : tP S Wx X.K W e σ H Q) : tE S Wx X.K W e σ H Q := by
  obtain ⟨ρ, O, H0, r, j⟩ := h
  exact ⟨ρ, O, H0, r, j.imp fun a _ p => p.x⟩
/-- from one rule, for all but names -/
theorem Snd.of {e : E} {x : Expr} (v : isVar e = false) (h : ndj W (esc e) → ∃ t, PE X x t ∧ (∀ σ H Q, tE S Wx X.K W e σ H Q → t σ H Q) ∧ (isF e = true → ∀ σ H Q, tF S Wx X.K W e σ H Q → t σ H Q)) : Snd S Γ W Wx X e x where
  tk := fun n => let ⟨_, p, h1, _⟩ := h n; PE.mono p h1
  lk := fun n => let ⟨_, p, h1, _⟩ := h (by rw [esc_pk v]; exact n); PE.mono p fun σ H Q z => h1 σ H Q (tP_tE z)
  nw := fun i n => let ⟨_, p, _, h2⟩ := h n; PE.mono p (h2 i)
/-- one part, then the rest -/
theorem tP.seq {a : E} {σ : L2.St} {H : Hp} {Q : VK} {α : Type} {P : α → Prop} {ρ : Env} {O : Addr → Prop} {H0 : Hp} {g : PD → R α} (r : Rel X.K W O H0 ρ σ H) (j : JG Wx X.K σ H P ((evE S a ρ).bind g))
    (k : ∀ d v H', evE S a ρ = .ok d → Same H H' → RS X.K O H' v d → Rel X.K W O H0 ρ σ H' → JG Wx X.K σ H P (g d) → Q v H') : tP S Wx X.K W a σ H Q :=
  ⟨ρ, O, H0, r, j.bind.imp fun d e p v H' s rv => k d v H' e s rv (r.same s) p⟩
theorem tE.seq {a : E} {σ : L2.St} {H : Hp} {Q : VK} {α : Type} {P : α → Prop} {ρ : Env} {O : Addr → Prop} {H0 : Hp} {g : PD → R α} (r : Rel X.K W O H0 ρ σ H) (j : JG Wx X.K σ H P ((evE S a ρ).bind g))
    (k : ∀ d v H', evE S a ρ = .ok d → Same H H' → RX X.K O H' v d → Rel X.K W O H0 ρ σ H' → JG Wx X.K σ H P (g d) → Q v H') : tE S Wx X.K W a σ H Q :=
  ⟨ρ, O, H0, r, j.bind.imp fun d e p v H' s rv => k d v H' e s rv (r.same s) p⟩
end
end Fe
set_option Elab.async false
set_option linter.all false
set_option maxRecDepth 100000
set_option maxHeartbeats 4000000
/-! Fe, part E: the expressions' theorem. -/
namespace Fe
open PySem PySem.Spec PyProof.Rows L2
/-- an expression of the row -/
def esHas (e : E) : Es → Prop
  | .nil => False
  | .cons a r => e = a ∨ esHas e r
section
variable {S : Sig} {Γ : Gam} {W : List Nat} {Wx : WX} {X : Cx}
theorem units65 (C : Cxt S Γ W Wx X) : X.A.units + 65 < cLine := by
  have := C.un
  omega

theorem snd_var (C : Cxt S Γ W Wx X) {i : Nat} {x : Expr} (h : chkE Γ (.var i) x = true) : Snd S Γ W Wx X (.var i) x := by
  cases x <;> first | (simp [chkE] at h; done) | skip
  rename_i x pos
  simp only [chkE, Bool.and_eq_true, decide_eq_true_eq] at h
  obtain ⟨h1, h2, h3⟩ := h
  obtain ⟨h4, h5⟩ := nodb_of h3
  have p : PE X (.Name x pos) (tVar i) := pe_var (by rw [C.N]; exact h1) (vis_of C.sc h2) h4 h5
  refine ⟨fun n => PE.mono p fun σ H Q z => ?_, fun n => PE.mono p fun σ H Q z => ?_, fun z => nomatch z⟩
  · obtain ⟨ρ, O, H0, r, j⟩ := z
    simp only [evE] at j
    split at j
    · rename_i d e
      obtain ⟨v, e1, rv⟩ := r.val i d (n i (by simp [esc])) e
      exact ⟨v, e1, j v H (Same.refl H) rv⟩
    · exact j.elim
  · obtain ⟨ρ, O, H0, r, j⟩ := z
    simp only [evE] at j
    split at j
    · rename_i d e
      by_cases hi : i ∈ W
      · obtain ⟨a, e1, _, _, rv, _⟩ := r.own i d hi e
        exact ⟨_, e1, j _ H (Same.refl H) (.inr ⟨a, rfl, rv⟩)⟩
      · obtain ⟨v, e1, rv⟩ := r.val i d hi e
        exact ⟨v, e1, j v H (Same.refl H) rv.rs⟩
    · exact j.elim

/-- a constant of the text -/
theorem snd_const {e : E} {x : Expr} {v : V} {d : PD} (hv : isVar e = false) (hf : isF e = false) (p : PE X x (tC v)) (ev : ∀ ρ, evE S e ρ = .ok d) (rx : ∀ O H, RX X.K O H v d) : Snd S Γ W Wx X e x := by
  refine Snd.of hv fun _ => ⟨_, p, fun σ H Q z => ?_, fun f => by rw [hf] at f; cases f⟩
  obtain ⟨ρ, O, H0, r, j⟩ := z
  rw [ev] at j
  exact j v H (Same.refl H) (rx O H)

theorem snd_glob (C : Cxt S Γ W Wx X) {n : Str} {x : Expr} (h : chkE Γ (.glob n) x = true) : Snd S Γ W Wx X (.glob n) x := by
  cases x <;> first | (simp [chkE] at h; done) | skip
  rename_i x pos
  simp only [chkE, Bool.and_eq_true, decide_eq_true_eq] at h
  obtain ⟨h1, h2, h3⟩ := h
  subst h1
  obtain ⟨h4, h5⟩ := nodb_of h3
  cases e : S.G.lookup n with
  | none =>
    refine Snd.of rfl fun _ => ⟨(fun _ _ _ => False), ⟨fun _ _ _ _ _ _ z => z.elim⟩, fun σ H Q z => ?_, fun f => nomatch f⟩
    obtain ⟨ρ, O, H0, r, j⟩ := z
    simp only [evE, e] at j
    exact j
  | some d =>
    obtain ⟨u, v, g1, g2, g3⟩ := C.con n d e
    exact snd_const (v := v) (d := d) rfl rfl (pe_glob (glb_of C.sc h2) g1 g2 h4) (fun ρ => by simp only [evE, e]) g3

/-! ### parts -/
theorem evEs_len : ∀ {es : Es} {as : List Expr} {ρ : Env} {ds : List PD}, chkEs Γ es as = true → evEs S es ρ = .ok ds → ds.length = as.length
  | .nil, [], ρ, ds, _, h => by
    simp only [evEs, R.ok.injEq] at h
    subst h
    rfl
  | .nil, _ :: _, _, _, h, _ => by simp [chkEs] at h
  | .cons _ _, [], _, _, h, _ => by simp [chkEs] at h
  | .cons e r, x :: xs, ρ, ds, h, h2 => by
    simp only [chkEs, Bool.and_eq_true] at h
    simp only [evEs] at h2
    cases e1 : evE S e ρ with
    | ok d =>
      rw [e1] at h2
      simp only [R.bind] at h2
      cases e2 : evEs S r ρ with
      | ok ds' =>
        rw [e2] at h2
        simp only [R.bind, R.ok.injEq] at h2
        subst h2
        simp [evEs_len h.2 e2]
      | exc c i => rw [e2] at h2; simp only [R.bind] at h2; cases h2
      | bad => rw [e2] at h2; simp only [R.bind] at h2; cases h2
    | exc c i => rw [e1] at h2; simp only [R.bind] at h2; cases h2
    | bad => rw [e1] at h2; simp only [R.bind] at h2; cases h2
theorem small_le {n : Nat} (h : n ≤ 1000) : n ≤ sizeLine := by
  rw [sizeLine_eq]
  omega

theorem snd_tup {es : Es} {x : Expr} (h : chkE Γ (.tup es) x = true) (hes : ∀ as, chkEs Γ es as = true → ndj W (escs es) → PA X as (tAs S Wx X.K W es)) : Snd S Γ W Wx X (.tup es) x := by
  cases x <;> first | (simp [chkE] at h; done) | skip
  rename_i as k pos
  simp only [chkE, Bool.and_eq_true, decide_eq_true_eq] at h
  refine Snd.of rfl fun n => ⟨_, pe_tup (hes as h.1 n), fun σ H Q z => ?_, fun f => nomatch f⟩
  obtain ⟨ρ, O, H0, r, j⟩ := z
  simp only [evE] at j
  refine ⟨ρ, O, H0, r, j.bind.imp fun ds e p vs H' s rx => ⟨?_, fun a na => p _ _ (s.trans (same_new na)) (.tup (.inl (.inl upd_same)) (rx.same (same_new na)))⟩⟩
  rw [rx.length, evEs_len h.1 e]
  exact small_le h.2
theorem snd_disp {l : Bool} {d : Ed} {x : Expr} (h : chkE Γ (.disp l d) x = true) (hd : ∀ as, chkEd Γ d as = true → ndj W (escd d) → PA X as (tEd S Wx X.K W d)) : Snd S Γ W Wx X (.disp l d) x := by
  cases l with
  | true =>
    cases x <;> first | (simp [chkE] at h; done) | skip
    rename_i as pos
    simp only [chkE] at h
    have key : ∀ σ H Q, tF S Wx X.K W (.disp true d) σ H Q → tLst (tEd S Wx X.K W d) σ H Q := fun σ H Q z => by
      obtain ⟨ρ, O, H0, r, j⟩ := z
      simp only [evE] at j
      refine ⟨ρ, O, H0, r, j.bind.imp fun ds e p vs H' s rx => ?_⟩
      split at p
      · rename_i c
        refine ⟨by rw [rx.length]; exact okLen_le c, fun a na => p.2 a _ (Same.free s na) (s.trans (same_new na)) ⟨vs, upd_same, (rx.lift (Lift.own na)).same (same_new na)⟩⟩
      · exact p.elim
    refine Snd.of rfl fun n => ⟨_, pe_lst (hd as h n), fun σ H Q z => key σ H Q ?_, fun _ => key⟩
    obtain ⟨ρ, O, H0, r, j⟩ := z
    refine ⟨ρ, O, H0, r, ?_⟩
    have isl : ∀ d', evE S (.disp true d) ρ = .ok d' → isL d' = true := fun d' e => by
      simp only [evE] at e
      cases e1 : evEd S d ρ with
      | ok ds =>
        rw [e1] at e
        simp only [R.bind] at e
        split at e
        · cases e; rfl
        · cases e
      | exc c i => rw [e1] at e; cases e
      | bad => rw [e1] at e; cases e
    exact j.imp fun d e p => ⟨isl d e, PostX.toF r.dom p⟩
  | false =>
    cases x <;> first | (simp [chkE] at h; done) | skip
    rename_i as k pos
    simp only [chkE] at h
    refine Snd.of rfl fun n => ⟨_, pe_tup (hd as h n), fun σ H Q z => ?_, fun f => nomatch f⟩
    obtain ⟨ρ, O, H0, r, j⟩ := z
    simp only [evE] at j
    refine ⟨ρ, O, H0, r, j.bind.imp fun ds e p vs H' s rx => ?_⟩
    split at p
    · rename_i c
      exact ⟨by rw [rx.length]; exact okLen_le c, fun a na => p _ _ (s.trans (same_new na)) (.tup (.inl (.inl upd_same)) (rx.same (same_new na)))⟩
    · exact p.elim
theorem snd_lst {es : Es} {x : Expr} (h : chkE Γ (.lst es) x = true) (hes : ∀ as, chkEs Γ es as = true → ndj W (escs es) → PA X as (tAs S Wx X.K W es)) : Snd S Γ W Wx X (.lst es) x := by
  cases x <;> first | (simp [chkE] at h; done) | skip
  rename_i as pos
  simp only [chkE, Bool.and_eq_true, decide_eq_true_eq] at h
  have key : ∀ σ H Q, tF S Wx X.K W (.lst es) σ H Q → tLst (tAs S Wx X.K W es) σ H Q := fun σ H Q z => by
    obtain ⟨ρ, O, H0, r, j⟩ := z
    simp only [evE] at j
    refine ⟨ρ, O, H0, r, j.bind.imp fun ds e p vs H' s rx => ⟨?_, fun a na => p.2 a _ (Same.free s na) (s.trans (same_new na)) ⟨vs, upd_same, (rx.lift (Lift.own na)).same (same_new na)⟩⟩⟩
    rw [rx.length, evEs_len h.1 e]
    exact small_le h.2
  refine Snd.of rfl fun n => ⟨_, pe_lst (hes as h.1 n), fun σ H Q z => key σ H Q ?_, fun _ => key⟩
  obtain ⟨ρ, O, H0, r, j⟩ := z
  refine ⟨ρ, O, H0, r, ?_⟩
  simp only [evE] at j ⊢
  cases e : evEs S es ρ with
  | ok ds =>
    rw [e] at j
    exact ⟨rfl, PostX.toF r.dom j⟩
  | exc c i => rw [e] at j; exact j
  | bad => rw [e] at j; exact j

theorem snd_bin {o : Op} {a b : E} {x : Expr} (h : chkE Γ (.bin o a b) x = true) (ha : ∀ y, chkE Γ a y = true → Snd S Γ W Wx X a y) (hb : ∀ y, chkE Γ b y = true → Snd S Γ W Wx X b y) : Snd S Γ W Wx X (.bin o a b) x := by
  cases x <;> first | (simp [chkE] at h; done) | skip
  rename_i y p z pos
  simp only [chkE, Bool.and_eq_true, decide_eq_true_eq] at h
  obtain ⟨rfl, h1, h2⟩ := h
  refine Snd.of rfl fun n => ⟨_, pe_op (op_binV o) ((ha y h1).lk n.l) ((hb z h2).lk n.r), fun σ H Q q => ?_, fun _ σ H Q q => ?_⟩
  · obtain ⟨ρ, O, H0, r, j⟩ := q
    simp only [evE] at j
    refine tP.seq r j fun d v H1 e1 s1 r1 rl1 j1 => tP.seq rl1 (j1.same s1 fun _ p => p) fun e w H2 e2 s2 r2 rl2 j2 => ?_
    exact ⟨O, d, e, rl2.dom, r1.same s2, r2, JG.retB rl2.dom (noX_bin o d e) (j2.same s2 fun _ p => p.same (s1.trans s2))⟩
  · obtain ⟨ρ, O, H0, r, j⟩ := q
    simp only [evE] at j
    refine tP.seq r j fun d v H1 e1 s1 r1 rl1 j1 => tP.seq rl1 (j1.same s1 fun _ p => p) fun e w H2 e2 s2 r2 rl2 j2 => ?_
    exact ⟨O, d, e, rl2.dom, r1.same s2, r2, JG.retF (noX_bin o d e) (j2.same s2 fun _ p => ⟨p.1, p.2.same (s1.trans s2)⟩)⟩
theorem snd_cmp (C : Cxt S Γ W Wx X) {o : Cp} {a b : E} {x : Expr} (h : chkE Γ (.cmp o a b) x = true) (ha : ∀ y, chkE Γ a y = true → Snd S Γ W Wx X a y) (hb : ∀ y, chkE Γ b y = true → Snd S Γ W Wx X b y) :
    Snd S Γ W Wx X (.cmp o a b) x ∧ (ndj W (esc (.cmp o a b)) → PT X x (tT S Wx X.K W (.cmp o a b))) := by
  cases x <;> first | (simp [chkE] at h; done) | skip
  rename_i y ps zs pos
  rcases ps with _ | ⟨p, _ | _⟩ <;> rcases zs with _ | ⟨z, _ | _⟩ <;> first | (simp [chkE] at h; done) | skip
  simp only [chkE, Bool.and_eq_true, decide_eq_true_eq] at h
  obtain ⟨rfl, h1, h2⟩ := h
  refine ⟨Snd.of rfl fun n => ⟨_, pe_cmpR (op_cmpV o (units65 C)) ((ha y h1).lk n.l) ((hb z h2).lk n.r) (marks_of (okX_of h2) _), fun σ H Q q => ?_, fun f => nomatch f⟩,
    fun n => PT.mono (pt_cmpR (op_cmpV o (units65 C)) ((ha y h1).lk n.l) ((hb z h2).lk n.r) (marks_of (okX_of h2) _)) fun σ H Q q => ?_⟩
  · obtain ⟨ρ, O, H0, r, j⟩ := q
    simp only [evE] at j
    refine tP.seq r j fun d v H1 e1 s1 r1 rl1 j1 => tP.seq rl1 (j1.same s1 fun _ p => p) fun e w H2 e2 s2 r2 rl2 j2 => ?_
    exact ⟨O, d, e, rl2.dom, r1.same s2, r2, JG.retB rl2.dom (noX_cmp o d e) (j2.same s2 fun _ p => p.same (s1.trans s2))⟩
  · obtain ⟨ρ, O, H0, r, j⟩ := q
    simp only [evE] at j
    refine tP.seq r j fun d v H1 e1 s1 r1 rl1 j1 => tP.seq rl1 (j1.same s1 fun _ p => p) fun e w H2 e2 s2 r2 rl2 j2 => ?_
    refine ⟨O, d, e, rl2.dom, r1.same s2, r2, ?_⟩
    have nx := noX_cmp o d e
    generalize cmpV o d e = res at j2 nx
    cases res with
    | ok t =>
      obtain ⟨k, rfl, q⟩ := j2
      refine PostX.toB rl2.dom fun v H' s rv => ?_
      cases rv
      exact ⟨k, rfl, q H' (s1.trans (s2.trans s))⟩
    | exc c i => exact nx.elim
    | bad => exact j2
theorem snd_neg {a : E} {x : Expr} (h : chkE Γ (.neg a) x = true) (ha : ∀ y, chkE Γ a y = true → Snd S Γ W Wx X a y) : Snd S Γ W Wx X (.neg a) x := by
  cases x <;> first | (simp [chkE] at h; done) | skip
  rename_i p y pos
  cases p <;> first | (simp [chkE] at h; done) | skip
  simp only [chkE] at h
  refine Snd.of rfl fun n => ⟨_, pe_un un_neg ((ha y h).lk n), fun σ H Q q => ?_, fun f => nomatch f⟩
  obtain ⟨ρ, O, H0, r, j⟩ := q
  simp only [evE] at j
  refine tP.seq r j fun d v H1 e1 s1 r1 rl1 j1 => ?_
  cases d <;> first | exact j1.elim | skip
  cases r1.int
  exact ⟨_, rfl, j1 _ _ s1 (.int _)⟩
theorem snd_isN {a : E} {x : Expr} (h : chkE Γ (.isN a) x = true) (ha : ∀ y, chkE Γ a y = true → Snd S Γ W Wx X a y) :
    Snd S Γ W Wx X (.isN a) x ∧ (ndj W (esc (.isN a)) → PT X x (tT S Wx X.K W (.isN a))) := by
  cases x <;> first | (simp [chkE] at h; done) | skip
  rename_i y ps zs pos
  rcases ps with _ | ⟨p, _ | _⟩ <;> rcases zs with _ | ⟨z, _ | _⟩ <;> first | (simp [chkE] at h; done) | skip
  cases p <;> first | (simp [chkE] at h; done) | skip
  cases z <;> first | (simp [chkE] at h; done) | skip
  rename_i c k pos2
  cases c <;> first | (simp [chkE] at h; done) | skip
  simp only [chkE] at h
  have key : ∀ (v : V) (d : PD) (H' : Hp) (O : Addr → Prop), RS X.K O H' v d → (decide (v = .non)) = (isNoneD d) := fun v d H' O h => by
    rw [h.isNone]
  refine ⟨Snd.of rfl fun n => ⟨_, pe_cmp (pc_isN ((ha y h).lk n)), fun σ H Q q => ?_, fun f => nomatch f⟩, fun n => PT.mono (pt_cmp (pc_isN ((ha y h).lk n))) fun σ H Q q => ?_⟩
  · obtain ⟨ρ, O, H0, r, j⟩ := q
    simp only [evE] at j
    refine tP.seq r j fun d v H1 e1 s1 r1 rl1 j1 => ?_
    rw [key v d H1 O r1]
    exact j1 _ _ s1 (.bl _)
  · obtain ⟨ρ, O, H0, r, j⟩ := q
    simp only [evE] at j
    refine tP.seq r j fun d v H1 e1 s1 r1 rl1 j1 => ?_
    obtain ⟨k, ek, q⟩ := j1
    refine ⟨_, rfl, ?_⟩
    rw [key v d H1 O r1, PyData.bool.inj ek]
    exact q H1 s1
theorem snd_noN {a : E} {x : Expr} (h : chkE Γ (.noN a) x = true) (ha : ∀ y, chkE Γ a y = true → Snd S Γ W Wx X a y) :
    Snd S Γ W Wx X (.noN a) x ∧ (ndj W (esc (.noN a)) → PT X x (tT S Wx X.K W (.noN a))) := by
  cases x <;> first | (simp [chkE] at h; done) | skip
  rename_i y ps zs pos
  rcases ps with _ | ⟨p, _ | _⟩ <;> rcases zs with _ | ⟨z, _ | _⟩ <;> first | (simp [chkE] at h; done) | skip
  cases p <;> first | (simp [chkE] at h; done) | skip
  cases z <;> first | (simp [chkE] at h; done) | skip
  rename_i c k pos2
  cases c <;> first | (simp [chkE] at h; done) | skip
  simp only [chkE] at h
  have key : ∀ (v : V) (d : PD) (H' : Hp) (O : Addr → Prop), RS X.K O H' v d → (!decide (v = .non)) = (!isNoneD d) := fun v d H' O h => by
    rw [h.isNone]
  refine ⟨Snd.of rfl fun n => ⟨_, pe_cmp (pc_notN ((ha y h).lk n)), fun σ H Q q => ?_, fun f => nomatch f⟩, fun n => PT.mono (pt_cmp (pc_notN ((ha y h).lk n))) fun σ H Q q => ?_⟩
  · obtain ⟨ρ, O, H0, r, j⟩ := q
    simp only [evE] at j
    refine tP.seq r j fun d v H1 e1 s1 r1 rl1 j1 => ?_
    rw [key v d H1 O r1]
    exact j1 _ _ s1 (.bl _)
  · obtain ⟨ρ, O, H0, r, j⟩ := q
    simp only [evE] at j
    refine tP.seq r j fun d v H1 e1 s1 r1 rl1 j1 => ?_
    obtain ⟨k, ek, q⟩ := j1
    refine ⟨_, rfl, ?_⟩
    rw [key v d H1 O r1, PyData.bool.inj ek]
    exact q H1 s1
theorem snd_isB {b : Bool} {a : E} {x : Expr} (h : chkE Γ (.isB b a) x = true) (ha : ∀ y, chkE Γ a y = true → Snd S Γ W Wx X a y) :
    Snd S Γ W Wx X (.isB b a) x ∧ (ndj W (esc (.isB b a)) → PT X x (tT S Wx X.K W (.isB b a))) := by
  cases x <;> first | (simp [chkE] at h; done) | skip
  rename_i y ps zs pos
  rcases ps with _ | ⟨p, _ | _⟩ <;> rcases zs with _ | ⟨z, _ | _⟩ <;> first | (simp [chkE] at h; done) | skip
  cases p <;> first | (simp [chkE] at h; done) | skip
  cases z <;> first | (simp [chkE] at h; done) | skip
  rename_i c k pos2
  cases c <;> first | (simp [chkE] at h; done) | skip
  simp only [chkE, Bool.and_eq_true, decide_eq_true_eq] at h
  obtain ⟨rfl, h⟩ := h
  have key : ∀ k : Bool, (decide (k = b)) = ((k == b)) := fun k => by cases k <;> cases b <;> rfl
  refine ⟨Snd.of rfl fun n => ⟨_, pe_cmpR op_isBl ((ha y h).lk n) pe_bl (nomark _), fun σ H Q q => ?_, fun f => nomatch f⟩, fun n => PT.mono (pt_cmpR op_isBl ((ha y h).lk n) pe_bl (nomark _)) fun σ H Q q => ?_⟩
  · obtain ⟨ρ, O, H0, r, j⟩ := q
    simp only [evE] at j
    refine tP.seq r j fun d v H1 e1 s1 r1 rl1 j1 => ?_
    cases d <;> first | exact j1.elim | skip
    rename_i k'
    cases r1.bool
    refine ⟨k', b, rfl, rfl, ?_⟩
    rw [key]
    exact j1 _ _ s1 (.bl _)
  · obtain ⟨ρ, O, H0, r, j⟩ := q
    simp only [evE] at j
    refine tP.seq r j fun d v H1 e1 s1 r1 rl1 j1 => ?_
    cases d <;> first | exact j1.elim | skip
    rename_i k'
    cases r1.bool
    obtain ⟨k, ek, q⟩ := j1
    refine ⟨k', b, rfl, rfl, _, rfl, ?_⟩
    rw [key, PyData.bool.inj ek]
    exact q H1 s1
theorem snd_noB {b : Bool} {a : E} {x : Expr} (h : chkE Γ (.noB b a) x = true) (ha : ∀ y, chkE Γ a y = true → Snd S Γ W Wx X a y) :
    Snd S Γ W Wx X (.noB b a) x ∧ (ndj W (esc (.noB b a)) → PT X x (tT S Wx X.K W (.noB b a))) := by
  cases x <;> first | (simp [chkE] at h; done) | skip
  rename_i y ps zs pos
  rcases ps with _ | ⟨p, _ | _⟩ <;> rcases zs with _ | ⟨z, _ | _⟩ <;> first | (simp [chkE] at h; done) | skip
  cases p <;> first | (simp [chkE] at h; done) | skip
  cases z <;> first | (simp [chkE] at h; done) | skip
  rename_i c k pos2
  cases c <;> first | (simp [chkE] at h; done) | skip
  simp only [chkE, Bool.and_eq_true, decide_eq_true_eq] at h
  obtain ⟨rfl, h⟩ := h
  have key : ∀ k : Bool, (!decide (k = b)) = (!(k == b)) := fun k => by cases k <;> cases b <;> rfl
  refine ⟨Snd.of rfl fun n => ⟨_, pe_cmpR op_notBl ((ha y h).lk n) pe_bl (nomark _), fun σ H Q q => ?_, fun f => nomatch f⟩, fun n => PT.mono (pt_cmpR op_notBl ((ha y h).lk n) pe_bl (nomark _)) fun σ H Q q => ?_⟩
  · obtain ⟨ρ, O, H0, r, j⟩ := q
    simp only [evE] at j
    refine tP.seq r j fun d v H1 e1 s1 r1 rl1 j1 => ?_
    cases d <;> first | exact j1.elim | skip
    rename_i k'
    cases r1.bool
    refine ⟨k', b, rfl, rfl, ?_⟩
    rw [key]
    exact j1 _ _ s1 (.bl _)
  · obtain ⟨ρ, O, H0, r, j⟩ := q
    simp only [evE] at j
    refine tP.seq r j fun d v H1 e1 s1 r1 rl1 j1 => ?_
    cases d <;> first | exact j1.elim | skip
    rename_i k'
    cases r1.bool
    obtain ⟨k, ek, q⟩ := j1
    refine ⟨k', b, rfl, rfl, _, rfl, ?_⟩
    rw [key, PyData.bool.inj ek]
    exact q H1 s1

/-- a bool as a value is one as a test -/
theorem snd_test {e : E} {x : Expr} (hw : ∀ whole, isTrue x X.env whole = (do let v ← whole; standAt x.pos; holding [v] (truthy v))) (h : PE X x (tP S Wx X.K W e)) : PT X x (tT S Wx X.K W e) := by
  refine PT.mono (pt_val h hw) fun σ H Q q => ?_
  obtain ⟨ρ, O, H0, r, j⟩ := q
  refine ⟨ρ, O, H0, r, j.imp fun d e p v H' s rv => ?_⟩
  obtain ⟨k, rfl, q⟩ := p
  cases rv.bool
  exact ⟨k, rfl, q H' s⟩
theorem snd_nt {a : E} {x : Expr} (h : chkE Γ (.nt a) x = true) (ha : ∀ y, chkE Γ a y = true → Snd S Γ W Wx X a y) : Snd S Γ W Wx X (.nt a) x := by
  cases x <;> first | (simp [chkE] at h; done) | skip
  rename_i p y pos
  cases p <;> first | (simp [chkE] at h; done) | skip
  simp only [chkE] at h
  refine Snd.of rfl fun n => ⟨_, pe_not ((ha y h).lk n), fun σ H Q q => ?_, fun f => nomatch f⟩
  obtain ⟨ρ, O, H0, r, j⟩ := q
  simp only [evE] at j
  refine tP.seq r j fun d v H1 e1 s1 r1 rl1 j1 => ?_
  cases d <;> first | exact j1.elim | skip
  cases r1.bool
  exact ⟨_, rfl, j1 _ _ s1 (.bl _)⟩
theorem snd_ntT {a : E} {x : Expr} (h : chkE Γ (.nt a) x = true) (ha : ∀ y, chkE Γ a y = true → PT X y (tT S Wx X.K W a)) : PT X x (tT S Wx X.K W (.nt a)) := by
  cases x <;> first | (simp [chkE] at h; done) | skip
  rename_i p y pos
  cases p <;> first | (simp [chkE] at h; done) | skip
  simp only [chkE] at h
  refine PT.mono (pt_not (ha y h)) fun σ H Q q => ?_
  obtain ⟨ρ, O, H0, r, j⟩ := q
  simp only [evE] at j
  refine ⟨ρ, O, H0, r, j.bind.imp fun d e j1 => ?_⟩
  cases d <;> first | exact j1.elim | skip
  rename_i k
  obtain ⟨k2, e2, q⟩ := j1
  refine ⟨k, rfl, fun H' s => ?_⟩
  show Q (!k) H'
  rw [PyData.bool.inj e2]
  exact q H' s
theorem snd_ite {c a b : E} {x : Expr} (h : chkE Γ (.ite c a b) x = true) (hc : ∀ y, chkE Γ c y = true → tOk c = true → ndj W (pk c) → PT X y (tT S Wx X.K W c)) (ha : ∀ y, chkE Γ a y = true → Snd S Γ W Wx X a y) (hb : ∀ y, chkE Γ b y = true → Snd S Γ W Wx X b y) : Snd S Γ W Wx X (.ite c a b) x := by
  cases x <;> first | (simp [chkE] at h; done) | skip
  rename_i t y z pos
  simp only [chkE, Bool.and_eq_true] at h
  obtain ⟨h1, h2, h3, h4⟩ := h
  refine Snd.of rfl fun n => ⟨_, pe_ifExp (hc t h1 h2 n.l) ((ha y h3).tk n.r.l) ((hb z h4).tk n.r.r), fun σ H Q q => ?_, fun f => nomatch f⟩
  obtain ⟨ρ, O, H0, r, j⟩ := q
  simp only [evE] at j
  refine ⟨ρ, O, H0, r, j.bind.imp fun d e j1 => ?_⟩
  cases d <;> first | exact j1.elim | skip
  rename_i k
  refine ⟨k, rfl, fun H' s => ?_⟩
  have j2 : JG Wx X.K σ H (PostX X.K O H Q) (if k = true then evE S a ρ else evE S b ρ) := j1
  show if k = true then tE S Wx X.K W a σ H' Q else tE S Wx X.K W b σ H' Q
  split
  · rw [if_pos ‹_›] at j2
    exact ⟨ρ, O, H0, r.same s, j2.same s fun _ p => p.same s⟩
  · rw [if_neg ‹_›] at j2
    exact ⟨ρ, O, H0, r.same s, j2.same s fun _ p => p.same s⟩
theorem PE.or {e : Expr} {t t' : TE} (h : PE X e t) (h' : PE X e t') : PE X e (fun σ H Q => t σ H Q ∨ t' σ H Q) := ⟨fun pins s σ H Q I q => q.elim (h.run pins s σ H Q I) (h'.run pins s σ H Q I)⟩
def isDc : PD → Bool
  | .dict _ => true
  | _ => false
theorem snd_ix (C : Cxt S Γ W Wx X) {a b : E} {x : Expr} (h : chkE Γ (.ix a b) x = true) (ha : ∀ y, chkE Γ a y = true → Snd S Γ W Wx X a y) (hb : ∀ y, chkE Γ b y = true → Snd S Γ W Wx X b y) : Snd S Γ W Wx X (.ix a b) x := by
  cases x <;> first | (simp [chkE] at h; done) | skip
  rename_i y z pos
  simp only [chkE, Bool.and_eq_true] at h
  have pl := plainIx_of (okX_of h.2)
  refine Snd.of rfl fun n => ⟨_, PE.or (pe_ix ix_V ((ha y h.1).lk n.l) ((hb z h.2).lk n.r) pl) (pe_dget (by have := C.un; omega) ((ha y h.1).lk n.l) ((hb z h.2).lk n.r) pl), fun σ H Q q => ?_, fun f => nomatch f⟩
  obtain ⟨ρ, O, H0, r, j⟩ := q
  simp only [evE] at j
  by_cases c : ∃ kvs, evE S a ρ = .ok (.dict kvs)
  · obtain ⟨kvs, ea⟩ := c
    refine .inr (tP.seq r j fun d v H1 e1 s1 r1 rl1 j1 => tP.seq rl1 (j1.same s1 fun _ p => p) fun e w H2 e2 s2 r2 rl2 j2 => ?_)
    rw [ea] at e1
    cases e1
    obtain ⟨p, ps, rfl, dp, rp⟩ := (r1.same s2).dict
    have j3 : JG Wx X.K σ H1 (PostX X.K O H Q) (match getP kvs e with | some d => R.ok d | none => .bad) := j2
    cases eg : getP kvs e with
    | none => rw [eg] at j3; exact j3.elim
    | some d =>
      rw [eg] at j3
      rcases dp with ⟨ks, hd, rfl⟩ | ⟨ks, hd, rfl⟩
      · obtain ⟨k, u, rfl, g2, g3⟩ := getP_rx rp eg
        refine ⟨p, u, rfl, .inl ⟨ks, k, hd, ?_, g2.symm⟩, j3 u H2 (s1.trans s2) g3⟩
        rcases k with i | t
        · exact r2.int
        · exact r2.str.1
      · exfalso
        have gen : ∀ {ks : List (List Key × V)} {kvs : List (PD × PD)}, RXp X.K O H2 (ks.map fun p => (PyData.tuple (p.1.map kP), p.2)) kvs → getP kvs e = none := by
          intro ks
          induction ks with
          | nil => intro kvs r; cases r; rfl
          | cons q ks ih =>
            intro kvs r
            obtain ⟨k, v⟩ := q
            cases r with
            | cons q1 q2 =>
              have := ih q2
              unfold getP at this ⊢
              rw [List.find?_cons]
              have z : keyEq (PyData.tuple (k.map kP)) e = false := by cases e <;> rfl
              rw [z]
              exact this
        rw [gen rp] at eg
        cases eg
  · refine .inl (tP.seq r j fun d v H1 e1 s1 r1 rl1 j1 => tP.seq rl1 (j1.same s1 fun _ p => p) fun e w H2 e2 s2 r2 rl2 j2 => ?_)
    have es : ixV d e = ixS d e := by
      cases d <;> cases e <;> first | rfl | exact absurd ⟨_, e1⟩ c
    rw [es] at j2
    have nx : noX (ixS d e) := by rw [← es]; exact noX_ix d e
    exact ⟨O, d, e, r1.same s2, r2, JG.retX nx (j2.same s2 fun _ p => p.same (s1.trans s2))⟩
theorem snd_sl {a : E} {lo hi : Eo} {x : Expr} (h : chkE Γ (.sl a lo hi) x = true) (ha : ∀ y, chkE Γ a y = true → Snd S Γ W Wx X a y) (hl : ∀ y, chkEo Γ lo y = true → ndj W (esco lo) → PO X y (tEo S Wx X.K W lo))
    (hh : ∀ y, chkEo Γ hi y = true → ndj W (esco hi) → PO X y (tEo S Wx X.K W hi)) : Snd S Γ W Wx X (.sl a lo hi) x := by
  cases x <;> first | (simp [chkE] at h; done) | skip
  rename_i y z pos
  cases z <;> first | (simp [chkE] at h; done) | skip
  rename_i l u st pos2
  cases st <;> first | (simp [chkE] at h; done) | skip
  simp only [chkE, Bool.and_eq_true] at h
  obtain ⟨h1, h2, h3⟩ := h
  refine Snd.of rfl fun n => ⟨_, pe_slice sl_V ((ha y h1).lk n.l) (hl l h2 n.r.l) (hh u h3 n.r.r), fun σ H Q q => ?_, fun _ σ H Q q => ?_⟩
  · obtain ⟨ρ, O, H0, r, j⟩ := q
    simp only [evE] at j
    refine tP.seq r j fun d v H1 e1 s1 r1 rl1 j1 => ⟨ρ, O, H0, rl1, (j1.same s1 fun _ p => p).bind.imp fun l e2 p H2 s2 => ⟨ρ, O, H0, rl1.same s2, (p.same s2 fun _ p => p).bind.imp fun u e3 p H3 s3 => ?_⟩⟩
    exact ⟨O, d, (rl1.same (s2.trans s3)).dom, r1.same (s2.trans s3), JG.retB (rl1.same (s2.trans s3)).dom (noX_sl d l u) (p.same s3 fun _ p => p.same (s1.trans (s2.trans s3)))⟩
  · obtain ⟨ρ, O, H0, r, j⟩ := q
    simp only [evE] at j
    refine tP.seq r j fun d v H1 e1 s1 r1 rl1 j1 => ⟨ρ, O, H0, rl1, (j1.same s1 fun _ p => p).bind.imp fun l e2 p H2 s2 => ⟨ρ, O, H0, rl1.same s2, (p.same s2 fun _ p => p).bind.imp fun u e3 p H3 s3 => ?_⟩⟩
    exact ⟨O, d, (rl1.same (s2.trans s3)).dom, r1.same (s2.trans s3), JG.retF (noX_sl d l u) (p.same s3 fun _ p => ⟨p.1, p.2.same (s1.trans (s2.trans s3))⟩)⟩
theorem pe_callS0 {CX : CXT} {k : Nat} {f : Addr} {fd : FuncData} {ps : List Str} {sp : Sp} {E : L2.St → XK} {x : Str} {p pos : Pos} (F : FnOk X.prog X.w X.K X.mg X.base CX k f fd ps sp) (hr : Room k X.A) (hg : Gl X x) (hm : X.mg x = some (.ref f)) (hk : PySem.W.keepIn X.K (.ref f) = true) (hb : Binds X.K fd ps [])
    (hx : ∀ σ, PassesAt CX X σ (E σ)) (hd : (x == ("__debug__" : Str)) = false) : PE X (.Call (.Name x p) [] [] pos) (tCallS sp E tNil) := by
  refine ⟨fun pins s σ H Q I h => wpAny_Call_Name_kw (ld_glob I hg hm ?_ hd)⟩
  exact PySem.W.callWith_K0 I.kIn hk (run_fnS (us := []) F hr hb (hx σ) I .nil h)
theorem snd_call (C : Cxt S Γ W Wx X) {f : Nat} {es : Es} {x : Expr} (h : chkE Γ (.call f es) x = true) (hes : ∀ as, chkEs Γ es as = true → ndj W (escs es) → PA X as (tAs S Wx X.K W es)) : Snd S Γ W Wx X (.call f es) x := by
  cases x <;> first | (simp [chkE] at h; done) | skip
  rename_i fn as kws pos
  cases fn <;> first | (simp [chkE] at h; done) | skip
  cases kws <;> first | (simp [chkE] at h; done) | skip
  rename_i nm npos
  simp only [chkE, Bool.and_eq_true, decide_eq_true_eq] at h
  obtain ⟨h1, h2, h3, h4⟩ := h
  obtain ⟨fa, fd, ps, k, F, hr, hm, hk, hb⟩ := C.fn f nm h1
  obtain ⟨d1, d2⟩ := nodb_of h3
  have fin : ∀ {ρ : Env} {O : Addr → Prop} {H0 H H' : Hp} {σ : L2.St} {Q : VK} {ds : List PD} {vs : List V}, Rel X.K W O H0 ρ σ H → JG Wx X.K σ H (PostX X.K O H Q) (S.C f ds) → Same H H' → RXs X.K O H' vs ds → spF X.K (S.C f) vs H' Q (WE Wx σ) := fun {ρ O H0 H H' σ Q ds vs} r p s rx => by
    refine ⟨ds, O, (r.same s).dom, rx, ?_⟩
    have p2 := p.same s (P' := PostX X.K O H' Q) fun _ p => p.same s
    cases e2 : S.C f ds with
    | ok d => rw [e2] at p2; exact p2
    | exc c i => rw [e2] at p2; exact p2
    | bad => rw [e2] at p2; exact p2
  cases as with
  | nil =>
    cases es with
    | cons _ _ => simp [chkEs] at h4
    | nil =>
      refine Snd.of rfl fun n => ⟨_, pe_callS0 F hr (glb_of C.sc h2) hm hk hb (passAt C.tk) d1, fun σ H Q q => ?_, fun f => nomatch f⟩
      obtain ⟨ρ, O, H0, r, j⟩ := q
      simp only [evE, evEs] at j
      exact fin r j (Same.refl H) .nil
  | cons y ys =>
    have oks := okXs_of h4
    simp only [List.all_cons, Bool.and_eq_true] at oks
    refine Snd.of rfl fun n => ⟨_, pe_callS F hr (glb_of C.sc h2) hm hk hb (passAt C.tk) (hes _ h4 n) d1 (star_of oks.1 ys X.env) (stars_of oks.2 X.env pos), fun σ H Q q => ?_, fun f => nomatch f⟩
    obtain ⟨ρ, O, H0, r, j⟩ := q
    simp only [evE] at j
    exact ⟨ρ, O, H0, r, j.bind.imp fun ds e p vs H' s rx => fin r p s rx⟩
theorem snd_bi (C : Cxt S Γ W Wx X) {b : Bi} {es : Es} {x : Expr} (h : chkE Γ (.bi b es) x = true) (hes : ∀ as, chkEs Γ es as = true → ndj W (pks es) → PA X as (tAp S Wx X.K W es)) : Snd S Γ W Wx X (.bi b es) x := by
  cases x <;> first | (simp [chkE] at h; done) | skip
  rename_i fn as kws pos
  cases fn <;> first | (simp [chkE] at h; done) | skip
  cases kws <;> first | (simp [chkE] at h; done) | skip
  rename_i nm npos
  simp only [chkE, Bool.and_eq_true, decide_eq_true_eq] at h
  obtain ⟨rfl, h2, h4, h5⟩ := h
  cases as with
  | nil => simp at h5
  | cons y ys =>
    have oks := okXs_of h4
    simp only [List.all_cons, Bool.and_eq_true] at oks
    have pe : ndj W (pks es) → PE X (.Call (.Name (biNm b) npos) (y :: ys) [] pos) (tCB (rBi X.K b) (tAp S Wx X.K W es)) := fun n => by
      cases b
      all_goals first
        | exact pe_callB (call_bi C.calm _) (glb_of C.sc h2) (C.bui _) (by decide +kernel) (hes _ h4 n) (by decide) (by decide) (star_of oks.1 ys X.env) (stars_of oks.2 X.env pos)
        | exact pe_callTy (call_bi C.calm _) (glb_of C.sc h2) (C.bui _) (by decide +kernel) (hes _ h4 n) (by decide) (by decide) (star_of oks.1 ys X.env) (stars_of oks.2 X.env pos)
    refine Snd.of rfl fun n => ⟨_, pe n, fun σ H Q q => ?_, fun _ σ H Q q => ?_⟩
    · obtain ⟨ρ, O, H0, r, j⟩ := q
      simp only [evE] at j
      exact ⟨ρ, O, H0, r, j.bind.imp fun ds e p vs H' s rx => ⟨O, ds, (r.same s).dom, rx, JG.retB (r.same s).dom (noX_bi b ds) (p.same s fun _ p => p.same s)⟩⟩
    · obtain ⟨ρ, O, H0, r, j⟩ := q
      simp only [evE] at j
      exact ⟨ρ, O, H0, r, j.bind.imp fun ds e p vs H' s rx => ⟨O, ds, (r.same s).dom, rx, JG.retF (noX_bi b ds) (p.same s fun _ p => ⟨p.1, p.2.same s⟩)⟩⟩

/-- a comparison in a chain: its answer is a bool -/
theorem cmp_bool {c : Cp} {d e t : PD} (h : cmpV c d e = .ok t) : ∃ k, t = .bool k := by
  cases c <;> cases d <;> cases e <;> simp only [cmpV] at h <;> first
    | (cases h; exact ⟨_, rfl⟩)
    | (split at h <;> first | (cases h; exact ⟨_, rfl⟩) | cases h)
    | cases h
theorem snd_chn (C : Cxt S Γ W Wx X) {c d : Cp} {a b e : E} {x : Expr} (h : chkE Γ (.chn c d a b e) x = true) (ha : ∀ y, chkE Γ a y = true → Snd S Γ W Wx X a y) (hb : ∀ y, chkE Γ b y = true → Snd S Γ W Wx X b y) (he : ∀ y, chkE Γ e y = true → Snd S Γ W Wx X e y) :
    Snd S Γ W Wx X (.chn c d a b e) x ∧ (ndj W (esc (.chn c d a b e)) → PT X x (tT S Wx X.K W (.chn c d a b e))) := by
  cases x <;> first | (simp [chkE] at h; done) | skip
  rename_i y ps zs pos
  rcases ps with _ | ⟨p, _ | ⟨q, _ | _⟩⟩ <;> rcases zs with _ | ⟨z, _ | ⟨w, _ | _⟩⟩ <;> first | (simp [chkE] at h; done) | skip
  simp only [chkE, Bool.and_eq_true, decide_eq_true_eq] at h
  obtain ⟨⟨rfl, rfl⟩, h1, h2, h3⟩ := h
  have hm : lastMarks [cpPy c, cpPy d] [z, w] = false := marks_of (okX_of h3) _
  have main : ∀ (σ : L2.St) (H : Hp) (ρ : Env) (O : Addr → Prop) (H0 : Hp) (P : PD → Prop) (Q : VK), Rel X.K W O H0 ρ σ H → JG Wx X.K σ H P (evE S (.chn c d a b e) ρ) →
      (∀ k H', Same H H' → P (.bool k) → Q (.bl k) H') → tChain (rV X.K (cmpV c)) (rV X.K (cmpV d)) (tP S Wx X.K W a) (tP S Wx X.K W b) (tP S Wx X.K W e) σ H Q := by
    intro σ H ρ O H0 P Q r j hQ
    simp only [evE] at j
    refine tP.seq r j fun t v H1 e1 s1 r1 rl1 j1 => tP.seq rl1 (j1.same s1 fun _ p => p) fun u w' H2 e2 s2 r2 rl2 j2 => ?_
    refine ⟨O, t, u, rl2.dom, r1.same s2, r2, ?_⟩
    have nx := noX_cmp c t u
    cases ec : cmpV c t u with
    | exc c' i => rw [ec] at nx; exact nx.elim
    | bad => rw [ec] at j2; exact j2
    | ok res =>
      rw [ec] at j2
      obtain ⟨k, rfl⟩ := cmp_bool ec
      have j3 : JG Wx X.K σ H1 P (if k = true then (evE S e ρ).bind fun w => cmpV d u w else .ok (.bool false)) := j2
      refine PostX.toB rl2.dom fun v3 H3 s3 rv3 => ?_
      cases rv3
      refine ⟨k, rfl, ?_⟩
      split
      · rw [if_pos ‹_›] at j3
        refine tP.seq (rl2.same s3) (j3.same (s2.trans s3) fun _ p => p) fun g w4 H4 e4 s4 r4 rl4 j4 => ?_
        refine ⟨O, u, g, rl4.dom, (r2.same s3).same s4, r4, ?_⟩
        have nx2 := noX_cmp d u g
        cases ed : cmpV d u g with
        | exc c' i => rw [ed] at nx2; exact nx2.elim
        | bad => rw [ed] at j4; exact j4
        | ok res2 =>
          rw [ed] at j4
          obtain ⟨k2, rfl⟩ := cmp_bool ed
          refine PostX.toB rl4.dom fun v5 H5 s5 rv5 => ?_
          cases rv5
          exact hQ k2 H5 (s1.trans (s2.trans (s3.trans (s4.trans s5)))) j4
      · rw [if_neg ‹_›] at j3
        exact hQ false H3 (s1.trans (s2.trans s3)) j3
  refine ⟨Snd.of rfl fun n => ⟨_, pe_chain (op_cmpV c (units65 C)) (op_cmpV d (units65 C)) ((ha y h1).lk n.l) ((hb z h2).lk n.r.l) ((he w h3).lk n.r.r) hm, fun σ H Q q => ?_, fun f => nomatch f⟩,
    fun n => PT.mono (pt_chain (op_cmpV c (units65 C)) (op_cmpV d (units65 C)) ((ha y h1).lk n.l) ((hb z h2).lk n.r.l) ((he w h3).lk n.r.r) hm) fun σ H Q q => ?_⟩
  · obtain ⟨ρ, O, H0, r, j⟩ := q
    exact main σ H ρ O H0 _ Q r j fun k H' s p => p _ _ s (.bl k)
  · obtain ⟨ρ, O, H0, r, j⟩ := q
    exact main σ H ρ O H0 _ _ r j fun k H' s p => by
      obtain ⟨k2, e2, p⟩ := p
      refine ⟨k, rfl, ?_⟩
      rw [PyData.bool.inj e2]
      exact p H' s

/-! ### and, or -/
theorem snd_ands {Γ : Gam} {W : List Nat} {X : Cx} {pos : Pos} : ∀ (es : Es) (as : List Expr), chkEs Γ es as = true → (∀ e y, esHas e es → chkE Γ e y = true → ndj W (esc e) → PE X y (tE S Wx X.K W e)) → ndj W (escs es) → es ≠ .nil → PE X (.BoolOp .And as pos) (tE S Wx X.K W (.ands es))
  | .nil, _, _, _, _, h => absurd rfl h
  | .cons e r, [], h, _, _, _ => by simp [chkEs] at h
  | .cons e .nil, [x], h, hs, n, _ => by
    simp only [chkEs, Bool.and_eq_true] at h
    refine PE.mono (pe_one (hs e x (.inl rfl) h.1 n.l)) fun σ H Q q => ?_
    obtain ⟨ρ, O, H0, r, j⟩ := q
    simp only [evE, evAnds] at j
    exact ⟨ρ, O, H0, r, j⟩
  | .cons e .nil, x :: y :: ys, h, _, _, _ => by simp [chkEs] at h
  | .cons e (.cons e2 r), [x], h, _, _, _ => by simp [chkEs] at h
  | .cons e (.cons e2 r), x :: y :: ys, h, hs, n, _ => by
    have h' := h
    rw [chkEs, Bool.and_eq_true] at h'
    refine PE.mono (pe_and (hs e x (.inl rfl) h'.1 n.l) (snd_ands (.cons e2 r) (y :: ys) h'.2 (fun e y m => hs e y (.inr m)) n.r (by simp))) fun σ H Q q => ?_
    obtain ⟨ρ, O, H0, r', j⟩ := q
    simp only [evE, evAnds] at j
    refine tE.seq r' j fun d v H1 e1 s1 r1 rl1 j1 => ?_
    cases d <;> first | exact j1.elim | skip
    rename_i k
    cases r1
    refine ⟨k, rfl, ?_⟩
    have j2 : JG Wx X.K σ H (PostX X.K O H Q) (if k = true then evAnds S (.cons e2 r) ρ else .ok (.bool false)) := j1
    split
    · rw [if_pos ‹_›] at j2
      exact ⟨ρ, O, H0, rl1, j2.same s1 fun _ p => p.same s1⟩
    · rw [if_neg ‹_›] at j2
      exact j2 _ _ s1 (.bl _)
theorem snd_ors {Γ : Gam} {W : List Nat} {X : Cx} {pos : Pos} : ∀ (es : Es) (as : List Expr), chkEs Γ es as = true → (∀ e y, esHas e es → chkE Γ e y = true → ndj W (esc e) → PE X y (tE S Wx X.K W e)) → ndj W (escs es) → es ≠ .nil → PE X (.BoolOp .Or as pos) (tE S Wx X.K W (.ors es))
  | .nil, _, _, _, _, h => absurd rfl h
  | .cons e r, [], h, _, _, _ => by simp [chkEs] at h
  | .cons e .nil, [x], h, hs, n, _ => by
    simp only [chkEs, Bool.and_eq_true] at h
    refine PE.mono (pe_one (hs e x (.inl rfl) h.1 n.l)) fun σ H Q q => ?_
    obtain ⟨ρ, O, H0, r, j⟩ := q
    simp only [evE, evOrs] at j
    exact ⟨ρ, O, H0, r, j⟩
  | .cons e .nil, x :: y :: ys, h, _, _, _ => by simp [chkEs] at h
  | .cons e (.cons e2 r), [x], h, _, _, _ => by simp [chkEs] at h
  | .cons e (.cons e2 r), x :: y :: ys, h, hs, n, _ => by
    have h' := h
    rw [chkEs, Bool.and_eq_true] at h'
    refine PE.mono (pe_or (hs e x (.inl rfl) h'.1 n.l) (snd_ors (.cons e2 r) (y :: ys) h'.2 (fun e y m => hs e y (.inr m)) n.r (by simp))) fun σ H Q q => ?_
    obtain ⟨ρ, O, H0, r', j⟩ := q
    simp only [evE, evOrs] at j
    refine tE.seq r' j fun d v H1 e1 s1 r1 rl1 j1 => ?_
    cases d <;> first | exact j1.elim | skip
    rename_i k
    cases r1
    refine ⟨k, rfl, ?_⟩
    have j2 : JG Wx X.K σ H (PostX X.K O H Q) (if k = true then .ok (.bool true) else evOrs S (.cons e2 r) ρ) := j1
    split
    · rw [if_pos ‹_›] at j2
      exact j2 _ _ s1 (.bl _)
    · rw [if_neg ‹_›] at j2
      exact ⟨ρ, O, H0, rl1, j2.same s1 fun _ p => p.same s1⟩
/-- .. as tests -/
theorem snd_andsT {Γ : Gam} {W : List Nat} {X : Cx} {pos : Pos} : ∀ (es : Es) (as : List Expr), chkEs Γ es as = true → tOks es = true → (∀ e y, esHas e es → chkE Γ e y = true → tOk e = true → ndj W (esc e) → PT X y (tT S Wx X.K W e)) → ndj W (escs es) → es ≠ .nil → PW X (.BoolOp .And as pos) (tT S Wx X.K W (.ands es))
  | .nil, _, _, _, _, _, h => absurd rfl h
  | .cons e r, [], h, _, _, _, _ => by simp [chkEs] at h
  | .cons e .nil, [x], h, t, hs, n, _ => by
    simp only [chkEs, Bool.and_eq_true] at h
    simp only [tOks, Bool.and_eq_true] at t
    refine PW.mono (pw_and1 (hs e x (.inl rfl) h.1 t.1 n.l)) fun σ H Q q => ?_
    obtain ⟨ρ, O, H0, r, j⟩ := q
    simp only [evE, evAnds] at j
    exact ⟨ρ, O, H0, r, j⟩
  | .cons e .nil, x :: y :: ys, h, _, _, _, _ => by simp [chkEs] at h
  | .cons e (.cons e2 r), [x], h, _, _, _, _ => by simp [chkEs] at h
  | .cons e (.cons e2 r), x :: y :: ys, h, t, hs, n, _ => by
    have h' := h
    rw [chkEs, Bool.and_eq_true] at h'
    have t' := t
    rw [tOks, Bool.and_eq_true] at t'
    refine PW.mono (pw_and (hs e x (.inl rfl) h'.1 t'.1 n.l) (snd_andsT (.cons e2 r) (y :: ys) h'.2 t'.2 (fun e y m => hs e y (.inr m)) n.r (by simp))) fun σ H Q q => ?_
    obtain ⟨ρ, O, H0, r', j⟩ := q
    simp only [evE, evAnds] at j
    refine ⟨ρ, O, H0, r', j.bind.imp fun d e1 j1 => ?_⟩
    cases d <;> first | exact j1.elim | skip
    rename_i k
    refine ⟨k, rfl, fun H' s => ?_⟩
    have j2 : JG Wx X.K σ H (fun d => ∃ k, d = PyData.bool k ∧ ∀ H', Same H H' → Q k H') (if k = true then evAnds S (.cons e2 r) ρ else .ok (.bool false)) := j1
    show if k = true then tT S Wx X.K W (.ands (.cons e2 r)) σ H' Q else Q false H'
    split
    · rw [if_pos ‹_›] at j2
      exact ⟨ρ, O, H0, r'.same s, j2.same s fun _ p => by
        obtain ⟨k, e, p⟩ := p
        exact ⟨k, e, fun H2 s2 => p H2 (s.trans s2)⟩⟩
    · rw [if_neg ‹_›] at j2
      obtain ⟨k2, e2, p⟩ := j2
      cases e2
      exact p H' s
theorem snd_orsT {Γ : Gam} {W : List Nat} {X : Cx} {pos : Pos} : ∀ (es : Es) (as : List Expr), chkEs Γ es as = true → tOks es = true → (∀ e y, esHas e es → chkE Γ e y = true → tOk e = true → ndj W (esc e) → PT X y (tT S Wx X.K W e)) → ndj W (escs es) → es ≠ .nil → PW X (.BoolOp .Or as pos) (tT S Wx X.K W (.ors es))
  | .nil, _, _, _, _, _, h => absurd rfl h
  | .cons e r, [], h, _, _, _, _ => by simp [chkEs] at h
  | .cons e .nil, [x], h, t, hs, n, _ => by
    simp only [chkEs, Bool.and_eq_true] at h
    simp only [tOks, Bool.and_eq_true] at t
    refine PW.mono (pw_or1 (hs e x (.inl rfl) h.1 t.1 n.l)) fun σ H Q q => ?_
    obtain ⟨ρ, O, H0, r, j⟩ := q
    simp only [evE, evOrs] at j
    exact ⟨ρ, O, H0, r, j⟩
  | .cons e .nil, x :: y :: ys, h, _, _, _, _ => by simp [chkEs] at h
  | .cons e (.cons e2 r), [x], h, _, _, _, _ => by simp [chkEs] at h
  | .cons e (.cons e2 r), x :: y :: ys, h, t, hs, n, _ => by
    have h' := h
    rw [chkEs, Bool.and_eq_true] at h'
    have t' := t
    rw [tOks, Bool.and_eq_true] at t'
    refine PW.mono (pw_or (hs e x (.inl rfl) h'.1 t'.1 n.l) (snd_orsT (.cons e2 r) (y :: ys) h'.2 t'.2 (fun e y m => hs e y (.inr m)) n.r (by simp))) fun σ H Q q => ?_
    obtain ⟨ρ, O, H0, r', j⟩ := q
    simp only [evE, evOrs] at j
    refine ⟨ρ, O, H0, r', j.bind.imp fun d e1 j1 => ?_⟩
    cases d <;> first | exact j1.elim | skip
    rename_i k
    refine ⟨k, rfl, fun H' s => ?_⟩
    have j2 : JG Wx X.K σ H (fun d => ∃ k, d = PyData.bool k ∧ ∀ H', Same H H' → Q k H') (if k = true then .ok (.bool true) else evOrs S (.cons e2 r) ρ) := j1
    show if k = true then Q true H' else tT S Wx X.K W (.ors (.cons e2 r)) σ H' Q
    split
    · rw [if_pos ‹_›] at j2
      obtain ⟨k2, e2, p⟩ := j2
      cases e2
      exact p H' s
    · rw [if_neg ‹_›] at j2
      exact ⟨ρ, O, H0, r'.same s, j2.same s fun _ p => by
        obtain ⟨k, e, p⟩ := p
        exact ⟨k, e, fun H2 s2 => p H2 (s.trans s2)⟩⟩
end
end Fe
set_option Elab.async false
set_option linter.all false
set_option maxRecDepth 100000
set_option maxHeartbeats 4000000
/-! Fe, part F: targets, what is walked, comprehensions; all expressions. -/
namespace Fe
open PySem PySem.Spec PyProof.Rows L2

/-! ### slots set, slots forgotten -/
theorem get_set {α : Type} {l : List α} {i j : Nat} {a : α} : (l.set i a)[j]? = if i = j then (if i < l.length then some a else none) else l[j]? := by
  rw [List.getElem?_set]
theorem Rel.set {K : PySem.W.Frag} {W : List Nat} {O : Addr → Prop} {H0 : Hp} {ρ : Env} {σ : L2.St} {H : Hp} {i : Nat} {v : V} {d : PD} (r : Rel K W O H0 ρ σ H) (hi : i ∉ W) (rx : RX K O H v d) :
    Rel K W O H0 (ρ.set i (some d)) (σ.set i (some v)) H := by
  have ne : ∀ {j : Nat}, j ∈ W → i ≠ j := fun hj e => hi (e ▸ hj)
  refine ⟨by simp [r.len], fun j e hj h => ?_, fun j e hj h => ?_, r.dom, r.sam⟩
  · rw [get_set] at h ⊢
    by_cases c : i = j
    · rw [if_pos c] at h ⊢
      rw [r.len]
      split at h
      · rename_i l
        rw [if_pos l]
        have : d = e := by simpa using h
        exact ⟨v, rfl, this ▸ rx⟩
      · cases h
    · rw [if_neg c] at h ⊢
      exact r.val j e hj h
  · rw [get_set, if_neg (ne hj)] at h
    obtain ⟨a, h1, h2, h3, h4, h5⟩ := r.own j e hj h
    refine ⟨a, by rw [get_set, if_neg (ne hj)]; exact h1, h2, h3, h4, fun k e2 hk nk h6 => ?_⟩
    rw [get_set, if_neg (ne hk)] at h6 ⊢
    exact h5 k e2 hk nk h6
theorem Rel.forget {K : PySem.W.Frag} {W : List Nat} {O : Addr → Prop} {H0 : Hp} {ρ : Env} {σ : L2.St} {H : Hp} (r : Rel K W O H0 ρ σ H) (i : Nat) : Rel K W O H0 (ρ.set i none) (σ.set i none) H := by
  have key : ∀ {j : Nat} {e : PD}, (ρ.set i none)[j]? = some (some e) → i ≠ j ∧ ρ[j]? = some (some e) := fun {j e} h => by
    rw [get_set] at h
    split at h
    · split at h <;> cases h
    · exact ⟨‹_›, h⟩
  refine ⟨by simp [r.len], fun j e hj h => ?_, fun j e hj h => ?_, r.dom, r.sam⟩
  · obtain ⟨c, h⟩ := key h
    rw [get_set, if_neg c]
    exact r.val j e hj h
  · obtain ⟨c, h⟩ := key h
    obtain ⟨a, h1, h2, h3, h4, h5⟩ := r.own j e hj h
    refine ⟨a, by rw [get_set, if_neg c]; exact h1, h2, h3, h4, fun k e2 hk nk h6 => ?_⟩
    obtain ⟨c2, h6⟩ := key h6
    rw [get_set, if_neg c2]
    exact h5 k e2 hk nk h6
theorem Rel.wipe {K : PySem.W.Frag} {W : List Nat} {O : Addr → Prop} {H0 : Hp} {ρ : Env} {σ : L2.St} {H : Hp} (r : Rel K W O H0 ρ σ H) : ∀ vs : List Nat, Rel K W O H0 (wipeE ρ vs) (L2.wipe σ vs) H
  | [] => r
  | v :: vs => (Rel.wipe r vs).forget v
/-- owned things grow, heaps change: what the slots hold stays -/
theorem Rel.lift {K : PySem.W.Frag} {W : List Nat} {O O' : Addr → Prop} {H0 : Hp} {ρ : Env} {σ : L2.St} {H H' : Hp} (r : Rel K W O H0 ρ σ H) (L : Lift O H O' H') (sub : ∀ a, O a → O' a) (dom : Dom O' H') (sam : Same H0 H')
    (eq : ∀ i d a, i ∈ W → ρ[i]? = some (some d) → σ[i]? = some (some (.ref a)) → H' a = H a) : Rel K W O' H0 ρ σ H' :=
  ⟨r.len, fun i d n e => by
    obtain ⟨v, e1, h⟩ := r.val i d n e
    exact ⟨v, e1, h.lift L⟩, fun i d n e => by
    obtain ⟨a, e1, h1, h2, h3, h4⟩ := r.own i d n e
    exact ⟨a, e1, sub a h1, h2, h3.lift L (eq i d a n e e1), h4⟩, dom, sam⟩

/-! ### targets -/
mutual
def tgL : Tg → List Nat
  | .nm i => [i]
  | .tp ts => tgLs ts
def tgLs : List Tg → List Nat
  | [] => []
  | t :: ts => tgL t ++ tgLs ts
end
section
variable (K : PySem.W.Frag) (W : List Nat)
def gT (tg : Tg) : TG := fun v σ H Q => ∃ ρ O H0 d ρ', Rel K W O H0 ρ σ H ∧ RX K O H v d ∧ tgSet tg d ρ = some ρ' ∧
  ∀ σ', Rel K W O H0 ρ' σ' H → σ'.length = σ.length → (∀ i, i ∉ tgL tg → σ'[i]? = σ[i]?) → Q σ' H
def gTs (ts : List Tg) : TGs := fun vs σ H Q => ∃ ρ O H0 ds ρ', Rel K W O H0 ρ σ H ∧ RXs K O H vs ds ∧ tgSets ts ds ρ = some ρ' ∧
  ∀ σ', Rel K W O H0 ρ' σ' H → σ'.length = σ.length → (∀ i, i ∉ tgLs ts → σ'[i]? = σ[i]?) → Q σ' H
end
theorem PGs.mono {X : Cx} {e : List Expr} {t t' : TGs} (h : PGs X e t) (k : ∀ v σ H Q, t' v σ H Q → t v σ H Q) : PGs X e t' := ⟨fun pins s σ H v u Q I r q => h.run pins s σ H v u Q I r (k v σ H Q q)⟩
def noSt : Expr → Bool
  | .Starred .. => false
  | _ => true
theorem asg_cons {e : Expr} (h : noSt e = true) (es : List Expr) (env : PySem.Env) : assignEach (e :: es) env = (false, assign e env) :: assignEach es env := by
  cases e <;> first | rfl | cases h
theorem chkTg_noSt {Γ : Gam} {t : Tg} {e : Expr} (h : chkTg Γ t e = true) : noSt e = true := by
  cases t <;> cases e <;> first | rfl | (simp [chkTg] at h)
theorem chkTgs_len {Γ : Gam} : ∀ {ts : List Tg} {es : List Expr}, chkTgs Γ ts es = true → ts.length = es.length ∧ ∀ env : PySem.Env, (assignEach es env).length = es.length ∧ (assignEach es env).findIdx? (·.1) = none
  | [], [], _ => ⟨rfl, fun _ => ⟨rfl, rfl⟩⟩
  | [], _ :: _, h => by simp [chkTgs] at h
  | _ :: _, [], h => by simp [chkTgs] at h
  | t :: ts, e :: es, h => by
    simp only [chkTgs, Bool.and_eq_true] at h
    obtain ⟨l, k⟩ := chkTgs_len h.2
    refine ⟨by simp [l], fun env => ?_⟩
    obtain ⟨k1, k2⟩ := k env
    rw [asg_cons (chkTg_noSt h.1)]
    refine ⟨by simp [k1], ?_⟩
    rw [List.findIdx?_cons]
    simp [k2]
theorem tgSets_len {ts : List Tg} {ds : List PD} {ρ ρ' : Env} (h : tgSets ts ds ρ = some ρ') : ts.length = ds.length := by
  induction ts generalizing ds ρ with
  | nil => cases ds with
    | nil => rfl
    | cons _ _ => simp [tgSets] at h
  | cons t ts ih => cases ds with
    | nil => simp [tgSets] at h
    | cons d ds =>
      simp only [tgSets] at h
      split at h
      · simp [ih h]
      · cases h
theorem PG.or {X : Cx} {e : Expr} {t t' : TG} (h : PG X e t) (h' : PG X e t') : PG X e (fun v σ H Q => t v σ H Q ∨ t' v σ H Q) := ⟨fun pins s σ H v u Q I r q => q.elim (h.run pins s σ H v u Q I r) (h'.run pins s σ H v u Q I r)⟩
section
variable {S : Sig} {Γ : Gam} {W : List Nat} {Wx : WX} {X : Cx}
mutual
theorem snd_tg (C : Cxt S Γ W Wx X) : ∀ (t : Tg) (e : Expr), chkTg Γ t e = true → PG X e (gT X.K W t)
  | .nm i, e, h => by
    cases e <;> first | (simp [chkTg] at h; done) | skip
    rename_i x pos
    simp only [chkTg, Bool.and_eq_true, decide_eq_true_eq] at h
    obtain ⟨h1, h2, h3⟩ := h
    obtain ⟨g1, g2⟩ := C.sto x h2
    refine PG.mono (pg_name (i := i) (by rw [C.N]; exact C.nd) (by rw [C.N]; exact h1) g1 g2) fun v σ H Q q => ?_
    obtain ⟨ρ, O, H0, d, ρ', r, rx, e1, q⟩ := q
    simp only [tgSet, Option.some.injEq] at e1
    subst e1
    refine q _ (r.set (fun z => h3 (C.sub i z)) rx) (by simp) fun j hj => ?_
    rw [get_set, if_neg (fun e => hj (by simp [tgL, e]))]
  | .tp ts, e, h => by
    cases e <;> first | (simp [chkTg] at h; done) | skip
    rename_i es k pos
    simp only [chkTg] at h
    obtain ⟨l, k2⟩ := chkTgs_len h
    obtain ⟨l1, l2⟩ := k2 X.env
    refine PG.mono (PG.or (pg_tup C.calm (snd_tgs C ts es h) l1 l2) (pg_lst C.calm (snd_tgs C ts es h) l1 l2)) fun v σ H Q q => ?_
    obtain ⟨ρ, O, H0, d, ρ', r, rx, e1, q⟩ := q
    cases d <;> first | (simp [tgSet] at e1; done) | skip
    · rename_i ds
      simp only [tgSet] at e1
      cases rx with
      | lst ho hs rs =>
        refine .inr ⟨_, _, rfl, .inl hs, ?_, ρ, O, H0, ds, ρ', r, rs, e1, q⟩
        rw [rs.length, ← tgSets_len e1, l]
    · rename_i ds
      simp only [tgSet] at e1
      cases rx with
      | tup hs rs =>
        refine .inl ⟨_, _, rfl, hs, ?_, ρ, O, H0, ds, ρ', r, rs, e1, q⟩
        rw [rs.length, ← tgSets_len e1, l]
theorem snd_tgs (C : Cxt S Γ W Wx X) : ∀ (ts : List Tg) (es : List Expr), chkTgs Γ ts es = true → PGs X es (gTs X.K W ts)
  | [], [], _ => PGs.mono pgs_nil fun v σ H Q q => by
    obtain ⟨ρ, O, H0, ds, ρ', r, rx, e1, q⟩ := q
    cases ds with
    | nil =>
      cases rx
      simp only [tgSets, Option.some.injEq] at e1
      subst e1
      exact ⟨rfl, q σ r rfl fun _ _ => rfl⟩
    | cons _ _ => simp [tgSets] at e1
  | [], _ :: _, h => by simp [chkTgs] at h
  | _ :: _, [], h => by simp [chkTgs] at h
  | t :: ts, e :: es, h => by
    have h' := h
    simp only [chkTgs, Bool.and_eq_true] at h'
    refine PGs.mono (pgs_cons (snd_tg C t e h'.1) (snd_tgs C ts es h'.2) (by rw [asg_cons (chkTg_noSt h'.1)]; rfl)) fun v σ H Q q => ?_
    obtain ⟨ρ, O, H0, ds, ρ', r, rx, e1, q⟩ := q
    cases ds with
    | nil => simp [tgSets] at e1
    | cons d ds =>
      cases rx with
      | cons rx rxs =>
        simp only [tgSets] at e1
        split at e1
        · rename_i ρ1 e2
          refine ⟨_, _, rfl, ρ, O, H0, d, ρ1, r, rx, e2, fun σ1 r1 l1 k1 => ⟨ρ1, O, H0, ds, ρ', r1, rxs, e1, fun σ2 r2 l2 k2 => q σ2 r2 (l2.trans l1) fun i hi => ?_⟩⟩
          have hi' : i ∉ tgL t ∧ i ∉ tgLs ts := by simpa [tgLs] using hi
          rw [k2 i hi'.2, k1 i hi'.1]
        · cases e1
end
end

/-! ### what is walked -/
structure ItSrc (K : PySem.W.Frag) (J : L2.It) (items : List PD) (roots : List Addr) (Keep : (Addr → Prop) → Hp → Prop) : Prop where
  go : ∀ O i H, Keep O H → i < items.length → J.go i H
  stop : ∀ O i H, Keep O H → items.length ≤ i → J.stop i H
  yld : ∀ O i H x H', Keep O H → i < items.length → J.yld i H x H' → ∃ d, items[i]? = some d ∧ Same H H' ∧ RX K O H' x d
  lift : ∀ O H O' H', Lift O H O' H' → (∀ a ∈ roots, H' a = H a) → Keep O H → Keep O' H'
  there : ∀ O H a, Keep O H → a ∈ roots → H a ≠ none
/-- a list that is kept -/
structure LKp (K : PySem.W.Frag) (a : Addr) (ds : List PD) (roots : List Addr) (Keep : (Addr → Prop) → Hp → Prop) : Prop where
  rd : ∀ O H, Keep O H → ∃ xs, Rd H a (.lst xs) ∧ RXs K O H xs ds
  lift : ∀ O H O' H', Lift O H O' H' → (∀ a ∈ roots, H' a = H a) → Keep O H → Keep O' H'
  there : ∀ O H a, Keep O H → a ∈ roots → H a ≠ none
theorem lkp_x {K : PySem.W.Frag} {a : Addr} {xs : List V} {ds : List PD} : LKp K a ds [] (fun O H => ¬ O a ∧ Rd H a (.lst xs) ∧ RXs K O H xs ds) where
  rd := fun O H k => ⟨xs, k.2⟩
  lift := fun O H O' H' L _ k => ⟨L.ow _ _ k.1 k.2.1, L.rd _ _ k.1 k.2.1, k.2.2.lift L⟩
  there := fun _ _ _ _ h => by cases h
theorem lkp_o {K : PySem.W.Frag} {a : Addr} {xs : List V} {ds : List PD} : LKp K a ds [a] (fun O H => H a = some (.lst xs) ∧ RXs K O H xs ds) where
  rd := fun O H k => ⟨xs, .inl k.1, k.2⟩
  lift := fun O H O' H' L e k => ⟨(e a (by simp)).trans k.1, k.2.lift L⟩
  there := fun _ _ b k h => by
    have e : b = a := by simpa using h
    rw [e, k.1]
    simp
/-- a tuple that is kept -/
structure TKp (K : PySem.W.Frag) (a : Addr) (ds : List PD) (Keep : (Addr → Prop) → Hp → Prop) : Prop where
  rd : ∀ O H, Keep O H → ∃ xs, SqT K H a xs ∧ RXs K O H xs ds
  lift : ∀ O H O' H', Lift O H O' H' → Keep O H → Keep O' H'
theorem tkp {K : PySem.W.Frag} {a : Addr} {xs : List V} {ds : List PD} : TKp K a ds (fun O H => SqT K H a xs ∧ RXs K O H xs ds) where
  rd := fun O H k => ⟨xs, k⟩
  lift := fun O H O' H' L k => ⟨by
    rcases k.1 with h | h
    · exact .inl (L.tp _ _ h)
    · exact .inr h, k.2.lift L⟩
section
variable {K : PySem.W.Frag} {a b : Addr} {ds es : List PD} {roots r1 r2 : List Addr} {Keep K1 K2 : (Addr → Prop) → Hp → Prop}
theorem src_l (L : LKp K a ds roots Keep) : ItSrc K (Itl K a) ds roots Keep where
  go := fun O i H k h => by
    obtain ⟨xs, h1, r⟩ := L.rd O H k
    have hl : i < xs.length := by rw [r.length]; exact h
    exact ⟨xs, xs[i], .inl h1, by simp [hl]⟩
  stop := fun O i H k h => by
    obtain ⟨xs, h1, r⟩ := L.rd O H k
    exact ⟨xs, .inl h1, by rw [r.length]; exact h⟩
  yld := fun O i H x H' k _ h => by
    obtain ⟨xs, h1, r⟩ := L.rd O H k
    obtain ⟨rfl, h⟩ := h
    obtain ⟨d, e, rx⟩ := r.get' (h xs (.inl h1))
    exact ⟨d, e, Same.refl _, rx⟩
  lift := L.lift
  there := L.there
theorem src_t (L : TKp K a ds Keep) : ItSrc K (Itt K a) ds [] Keep where
  go := fun O i H k h => by
    obtain ⟨xs, h1, r⟩ := L.rd O H k
    have hl : i < xs.length := by rw [r.length]; exact h
    exact ⟨xs, xs[i], h1, by simp [hl]⟩
  stop := fun O i H k h => by
    obtain ⟨xs, h1, r⟩ := L.rd O H k
    exact ⟨xs, h1, by rw [r.length]; exact h⟩
  yld := fun O i H x H' k _ h => by
    obtain ⟨xs, h1, r⟩ := L.rd O H k
    obtain ⟨rfl, h⟩ := h
    obtain ⟨d, e, rx⟩ := r.get' (h xs h1)
    exact ⟨d, e, Same.refl _, rx⟩
  lift := fun O H O' H' l _ k => L.lift O H O' H' l k
  there := fun _ _ _ _ h => by cases h
theorem src_r (lo : Int) (n : Nat) : ItSrc K (Itr lo n) (rngV lo n) [] (fun _ _ => True) where
  go := fun O i H k h => by simpa [rngV, Itr] using h
  stop := fun O i H k h => by simpa [rngV, Itr] using h
  yld := fun O i H x H' k l h => by
    obtain ⟨rfl, rfl⟩ := h
    have l' : i < n := by simpa [rngV] using l
    exact ⟨.int (lo + (i : Nat)), by simp [rngV, l'], Same.refl _, .int _⟩
  lift := fun _ _ _ _ _ _ _ => trivial
  there := fun _ _ _ _ h => by cases h
theorem src_rc (lo c : Int) (n : Nat) : ItSrc K (Itc lo c n) (rngC lo c n) [] (fun _ _ => True) where
  go := fun O i H k h => by simpa [rngC, Itc] using h
  stop := fun O i H k h => by simpa [rngC, Itc] using h
  yld := fun O i H x H' k l h => by
    obtain ⟨rfl, rfl⟩ := h
    have l' : i < n := by simpa [rngC] using l
    exact ⟨.int (lo + (i : Nat) * c), by simp [rngC, l'], Same.refl _, .int _⟩
  lift := fun _ _ _ _ _ _ _ => trivial
  there := fun _ _ _ _ h => by cases h
theorem zip_len {xs ys : List PD} : (zipV xs ys).length = min xs.length ys.length := by simp [zipV]
theorem zip_get {xs ys : List PD} {i : Nat} {d e : PD} (h1 : xs[i]? = some d) (h2 : ys[i]? = some e) : (zipV xs ys)[i]? = some (.tuple [d, e]) := by
  simp [zipV, List.getElem?_zipWith, h1, h2]
theorem src_z (L : LKp K a ds r1 K1) (M : LKp K b es r2 K2) : ItSrc K (Itz K a b) (zipV ds es) (r1 ++ r2) (fun O H => K1 O H ∧ K2 O H) where
  go := fun O i H k h => by
    obtain ⟨xs, h1, r⟩ := L.rd O H k.1
    obtain ⟨ys, h2, r'⟩ := M.rd O H k.2
    rw [zip_len] at h
    have hl : i < xs.length := by rw [r.length]; omega
    have hm : i < ys.length := by rw [r'.length]; omega
    exact ⟨xs, ys, xs[i], ys[i], .inl h1, .inl h2, by simp [hl], by simp [hm]⟩
  stop := fun O i H k h => by
    obtain ⟨xs, h1, r⟩ := L.rd O H k.1
    obtain ⟨ys, h2, r'⟩ := M.rd O H k.2
    rw [zip_len] at h
    refine ⟨xs, ys, .inl h1, .inl h2, ?_⟩
    rw [r.length, r'.length]
    omega
  yld := fun O i H x H' k _ h => by
    obtain ⟨xs, h1, r⟩ := L.rd O H k.1
    obtain ⟨ys, h2, r'⟩ := M.rd O H k.2
    obtain ⟨T, x', y', rfl, nT, rfl, g1, g2⟩ := h
    obtain ⟨d, e1, rx⟩ := r.get' (g1 xs (.inl h1))
    obtain ⟨e, e2, ry⟩ := r'.get' (g2 ys (.inl h2))
    exact ⟨_, zip_get e1 e2, same_new nT, .tup (.inl (.inl upd_same)) (.cons (rx.same (same_new nT)) (.cons (ry.same (same_new nT)) .nil))⟩
  lift := fun O H O' H' l e k => ⟨L.lift O H O' H' l (fun c hc => e c (List.mem_append_left _ hc)) k.1, M.lift O H O' H' l (fun c hc => e c (List.mem_append_right _ hc)) k.2⟩
  there := fun O H c k h => (List.mem_append.mp h).elim (L.there O H c k.1) (M.there O H c k.2)
theorem src_zt (L : TKp K a ds K1) (M : TKp K b es K2) : ItSrc K (RZ.ItzT K a b) (zipV ds es) [] (fun O H => K1 O H ∧ K2 O H) where
  go := fun O i H k h => by
    obtain ⟨xs, h1, r⟩ := L.rd O H k.1
    obtain ⟨ys, h2, r'⟩ := M.rd O H k.2
    rw [zip_len] at h
    have hl : i < xs.length := by rw [r.length]; omega
    have hm : i < ys.length := by rw [r'.length]; omega
    exact ⟨xs, ys, xs[i], ys[i], h1, h2, by simp [hl], by simp [hm]⟩
  stop := fun O i H k h => by
    obtain ⟨xs, h1, r⟩ := L.rd O H k.1
    obtain ⟨ys, h2, r'⟩ := M.rd O H k.2
    rw [zip_len] at h
    refine ⟨xs, ys, h1, h2, ?_⟩
    rw [r.length, r'.length]
    omega
  yld := fun O i H x H' k _ h => by
    obtain ⟨xs, h1, r⟩ := L.rd O H k.1
    obtain ⟨ys, h2, r'⟩ := M.rd O H k.2
    obtain ⟨T, x', y', rfl, nT, rfl, g1, g2⟩ := h
    obtain ⟨d, e1, rx⟩ := r.get' (g1 xs h1)
    obtain ⟨e, e2, ry⟩ := r'.get' (g2 ys h2)
    exact ⟨_, zip_get e1 e2, same_new nT, .tup (.inl (.inl upd_same)) (.cons (rx.same (same_new nT)) (.cons (ry.same (same_new nT)) .nil))⟩
  lift := fun O H O' H' l _ k => ⟨L.lift O H O' H' l k.1, M.lift O H O' H' l k.2⟩
  there := fun _ _ _ _ h => by cases h
theorem enum_len : ∀ (n : Nat) (ds : List PD), (enumV n ds).length = ds.length
  | _, [] => rfl
  | n, d :: ds => by simp [enumV, enum_len (n + 1) ds]
theorem enum_get : ∀ (n : Nat) {ds : List PD} {i : Nat} {d : PD}, ds[i]? = some d → (enumV n ds)[i]? = some (.tuple [.int ((n + i : Nat) : Int), d])
  | _, [], _, _, h => by simp at h
  | n, x :: ds, 0, d, h => by
    simp at h
    simp [enumV, h]
  | n, x :: ds, i + 1, d, h => by
    have := enum_get (n + 1) (i := i) (ds := ds) (d := d) (by simpa using h)
    rw [show n + 1 + i = n + (i + 1) by omega] at this
    simpa [enumV] using this
theorem src_eT (L : TKp K a ds Keep) : ItSrc K (IteT K a) (enumV 0 ds) [] Keep where
  go := fun O i H k h => by
    obtain ⟨xs, h1, r⟩ := L.rd O H k
    rw [enum_len] at h
    have hl : i < xs.length := by rw [r.length]; exact h
    exact ⟨xs, xs[i], h1, by simp [hl]⟩
  stop := fun O i H k h => by
    obtain ⟨xs, h1, r⟩ := L.rd O H k
    rw [enum_len] at h
    exact ⟨xs, h1, by rw [r.length]; exact h⟩
  yld := fun O i H x H' k _ h => by
    obtain ⟨xs, h1, r⟩ := L.rd O H k
    obtain ⟨T, x', rfl, nT, rfl, g1⟩ := h
    obtain ⟨d, e1, rx⟩ := r.get' (g1 xs h1)
    have e2 := enum_get 0 e1
    rw [Nat.zero_add] at e2
    exact ⟨_, e2, same_new nT, .tup (.inl (.inl upd_same)) (.cons (.int _) (.cons (rx.same (same_new nT)) .nil))⟩
  lift := fun O H O' H' l _ k => L.lift O H O' H' l k
  there := fun _ _ _ _ h => by cases h
theorem src_e (L : LKp K a ds roots Keep) : ItSrc K (Ite K a) (enumV 0 ds) roots Keep where
  go := fun O i H k h => by
    obtain ⟨xs, h1, r⟩ := L.rd O H k
    rw [enum_len] at h
    have hl : i < xs.length := by rw [r.length]; exact h
    exact ⟨xs, xs[i], .inl h1, by simp [hl]⟩
  stop := fun O i H k h => by
    obtain ⟨xs, h1, r⟩ := L.rd O H k
    rw [enum_len] at h
    exact ⟨xs, .inl h1, by rw [r.length]; exact h⟩
  yld := fun O i H x H' k _ h => by
    obtain ⟨xs, h1, r⟩ := L.rd O H k
    obtain ⟨T, x', rfl, nT, rfl, g1⟩ := h
    obtain ⟨d, e1, rx⟩ := r.get' (g1 xs (.inl h1))
    have e2 := enum_get 0 e1
    rw [Nat.zero_add] at e2
    exact ⟨_, e2, same_new nT, .tup (.inl (.inl upd_same)) (.cons (.int _) (.cons (rx.same (same_new nT)) .nil))⟩
  lift := L.lift
  there := L.there
end
theorem RS.lkp {K : PySem.W.Frag} {O : Addr → Prop} {H : Hp} {v : V} {ds : List PD} (h : RS K O H v (.list ds)) : ∃ a roots Keep, v = .ref a ∧ LKp K a ds roots Keep ∧ Keep O H := by
  rcases h with h | ⟨a, e, h⟩
  · cases h with
    | lst ho h r => exact ⟨_, _, _, rfl, lkp_x, ho, h, r⟩
  · obtain ⟨xs, e', r⟩ := h
    exact ⟨a, _, _, e, lkp_o, e', r⟩
theorem RX.lkp {K : PySem.W.Frag} {O : Addr → Prop} {H : Hp} {v : V} {ds : List PD} (h : RX K O H v (.list ds)) : ∃ a Keep, v = .ref a ∧ LKp K a ds [] Keep ∧ Keep O H := by
  cases h with
  | lst ho h r => exact ⟨_, _, rfl, lkp_x, ho, h, r⟩
theorem RS.tkp {K : PySem.W.Frag} {O : Addr → Prop} {H : Hp} {v : V} {ds : List PD} (h : RS K O H v (.tuple ds)) : ∃ a Keep, v = .ref a ∧ TKp K a ds Keep ∧ Keep O H := by
  obtain ⟨a, xs, e, h, r⟩ := h.tup
  exact ⟨a, _, e, Fe.tkp, h, r⟩
/-- a source stands: looked at (any roots), or taken (none) -/
def SrcAt (K : PySem.W.Frag) (tk : Bool) (O : Addr → Prop) (J : L2.It) (items : List PD) (H : Hp) : Prop :=
  ∃ roots Keep, ItSrc K J items roots Keep ∧ Keep O H ∧ (tk = true → roots = [])
section
variable (S : Sig) (Wx : WX) (K : PySem.W.Frag) (W : List Nat)
def tI (tk : Bool) (it : It) : TI := fun σ H R => ∃ ρ O H0, Rel K W O H0 ρ σ H ∧ JG Wx K σ H (fun items => ∀ J H', Same H H' → SrcAt K tk O J items H' → R J H') (evIt S it ρ)
end
theorem PI.or {X : Cx} {tg e : Expr} {t t' : TI} (h : PI X tg e t) (h' : PI X tg e t') : PI X tg e (fun σ H R => t σ H R ∨ t' σ H R) :=
  ⟨fun pins s σ H R I q => q.elim (h.run pins s σ H R I) (h'.run pins s σ H R I)⟩

/-! ### the two ways to look -/
def RM (tk : Bool) (K : PySem.W.Frag) (O : Addr → Prop) (H : Hp) (v : V) (d : PD) : Prop := match tk with
  | true => RX K O H v d
  | false => RS K O H v d
theorem RM.rs {tk : Bool} {K : PySem.W.Frag} {O : Addr → Prop} {H : Hp} {v : V} {d : PD} (h : RM tk K O H v d) : RS K O H v d := by
  cases tk
  · exact h
  · exact RX.rs h
theorem RM.same {tk : Bool} {K : PySem.W.Frag} {O : Addr → Prop} {H H' : Hp} {v : V} {d : PD} (h : RM tk K O H v d) (s : Same H H') : RM tk K O H' v d := by
  cases tk
  · exact RS.same s h
  · exact RX.same s h
theorem RM.lkp {tk : Bool} {K : PySem.W.Frag} {O : Addr → Prop} {H : Hp} {v : V} {ds : List PD} (h : RM tk K O H v (.list ds)) : ∃ a roots Keep, v = .ref a ∧ LKp K a ds roots Keep ∧ Keep O H ∧ (tk = true → roots = []) := by
  cases tk
  · obtain ⟨a, r, k, e, l, h⟩ := RS.lkp h
    exact ⟨a, r, k, e, l, h, fun z => by cases z⟩
  · obtain ⟨a, k, e, l, h⟩ := RX.lkp h
    exact ⟨a, [], k, e, l, h, fun _ => rfl⟩
def tM (tk : Bool) (S : Sig) (Wx : WX) (K : PySem.W.Frag) (W : List Nat) (e : E) : TE := match tk with
  | true => tE S Wx K W e
  | false => tP S Wx K W e
def escM (tk : Bool) (e : E) : List Nat := match tk with
  | true => esc e
  | false => pk e
def escItM (tk : Bool) : It → List Nat
  | .e a | .r1 a | .enum a => escM tk a
  | .r2 a b | .zip a b => escM tk a ++ escM tk b
  | .r3 a b c => escM tk a ++ (escM tk b ++ escM tk c)
theorem escIt_eq (it : It) : escIt it = escItM false it := by cases it <;> rfl
section
variable {S : Sig} {Γ : Gam} {W : List Nat} {Wx : WX} {X : Cx} {tk : Bool}
theorem Snd.md {e : E} {x : Expr} (h : Snd S Γ W Wx X e x) (n : ndj W (escM tk e)) : PE X x (tM tk S Wx X.K W e) := by
  cases tk
  · exact h.lk n
  · exact h.tk n
theorem tM.seq {a : E} {σ : L2.St} {H : Hp} {Q : VK} {α : Type} {P : α → Prop} {ρ : Env} {O : Addr → Prop} {H0 : Hp} {g : PD → R α} (r : Rel X.K W O H0 ρ σ H) (j : JG Wx X.K σ H P ((evE S a ρ).bind g))
    (k : ∀ d v H', evE S a ρ = .ok d → Same H H' → RM tk X.K O H' v d → Rel X.K W O H0 ρ σ H' → JG Wx X.K σ H P (g d) → Q v H') : tM tk S Wx X.K W a σ H Q := by
  cases tk
  · exact tP.seq r j k
  · exact tE.seq r j k
theorem pa1 {x : Expr} {t : TE} (o : okX x = true) (h : PE X x t) : PA X [x] (tCons t tNil) := pa_cons h pa_nil (star_of o [] X.env)
theorem pa2 {x y : Expr} {t u : TE} (o : okX x = true) (o2 : okX y = true) (h : PE X x t) (h2 : PE X y u) : PA X [x, y] (tCons t (tCons u tNil)) := pa_cons h (pa1 o2 h2) (star_of o [y] X.env)
theorem pa3 {x y z : Expr} {t u w : TE} (o : okX x = true) (o2 : okX y = true) (o3 : okX z = true) (h : PE X x t) (h2 : PE X y u) (h3 : PE X z w) : PA X [x, y, z] (tCons t (tCons u (tCons w tNil))) := pa_cons h (pa2 o2 o3 h2 h3) (star_of o [y, z] X.env)
theorem inRg_of {i : Int} (h : inRg i = true) : -(2 ^ 62) ≤ i ∧ i < 2 ^ 62 := of_decide_eq_true h

theorem snd_it_e {a : E} {tg x : Expr} (h : chkIt Γ (.e a) tg x = true) (ha : Snd S Γ W Wx X a x) (n : ndj W (escItM tk (.e a))) : PI X tg x (tI S Wx X.K W tk (.e a)) := by
  have p := ha.md (tk := tk) n
  refine PI.mono (PI.or (pi_list p) (pi_tup p)) fun σ H R q => ?_
  obtain ⟨ρ, O, H0, r, j⟩ := q
  simp only [evIt] at j
  cases e : evE S a ρ with
  | bad => rw [e] at j; exact j.elim
  | exc c i =>
    refine .inl (tM.seq r j fun d v H1 e1 _ _ _ _ => ?_)
    rw [e] at e1
    cases e1
  | ok d =>
    cases d <;> first | (rw [e] at j; exact j.elim) | skip
    · rename_i ds
      refine .inl (tM.seq r j fun d v H1 e1 s1 r1 rl1 j1 => ?_)
      rw [e] at e1
      cases e1
      obtain ⟨ad, roots, Keep, rfl, L, k, z⟩ := r1.lkp
      obtain ⟨xs, h1, _⟩ := L.rd _ _ k
      exact ⟨ad, rfl, ⟨xs, .inl h1⟩, j1 _ _ s1 ⟨roots, Keep, src_l L, k, z⟩⟩
    · rename_i ds
      refine .inr (tM.seq r j fun d v H1 e1 s1 r1 rl1 j1 => ?_)
      rw [e] at e1
      cases e1
      obtain ⟨ad, Keep, rfl, L, k⟩ := r1.rs.tkp
      obtain ⟨xs, h1, _⟩ := L.rd _ _ k
      exact ⟨ad, rfl, ⟨xs, h1⟩, j1 _ _ s1 ⟨[], Keep, src_t L, k, fun _ => rfl⟩⟩
theorem snd_it_r1 (C : Cxt S Γ W Wx X) {a : E} {tg x : Expr} (h : chkIt Γ (.r1 a) tg x = true) (ha : ∀ y, chkE Γ a y = true → Snd S Γ W Wx X a y) (n : ndj W (escItM tk (.r1 a))) : PI X tg x (tI S Wx X.K W tk (.r1 a)) := by
  cases x <;> first | (simp [chkIt] at h; done) | skip
  rename_i fn as kws pos
  cases fn <;> first | (simp [chkIt] at h; done) | skip
  rcases as with _ | ⟨y, _ | _⟩ <;> first | (simp [chkIt] at h; done) | skip
  cases kws <;> first | (simp [chkIt] at h; done) | skip
  rename_i nm npos
  simp only [chkIt, Bool.and_eq_true, decide_eq_true_eq] at h
  obtain ⟨rfl, h2, h3⟩ := h
  refine PI.mono (pi_range1 (glb_of C.sc h2) C.rng (pa1 (okX_of h3) ((ha y h3).md (tk := tk) n)) (star_of (okX_of h3) [] X.env)) fun σ H R q => ?_
  obtain ⟨ρ, O, H0, r, j⟩ := q
  simp only [evIt] at j
  refine tM.seq r j fun d v H1 e1 s1 r1 rl1 j1 => ?_
  cases d <;> first | exact j1.elim | skip
  cases r1.rs.int
  rename_i i
  have j2 : JG Wx X.K σ H (fun items => ∀ J H', Same H H' → SrcAt X.K tk O J items H' → R J H') (if inRg i = true then .ok (rngV 0 i.toNat) else .bad) := j1
  split at j2
  · rename_i hi
    obtain ⟨g1, g2⟩ := inRg_of hi
    exact ⟨i, rfl, g1, g2, j2 _ _ s1 ⟨[], _, src_r 0 i.toNat, trivial, fun _ => rfl⟩⟩
  · exact j2.elim
theorem snd_it_r2 (C : Cxt S Γ W Wx X) {a b : E} {tg x : Expr} (h : chkIt Γ (.r2 a b) tg x = true) (ha : ∀ y, chkE Γ a y = true → Snd S Γ W Wx X a y) (hb : ∀ y, chkE Γ b y = true → Snd S Γ W Wx X b y) (n : ndj W (escItM tk (.r2 a b))) : PI X tg x (tI S Wx X.K W tk (.r2 a b)) := by
  cases x <;> first | (simp [chkIt] at h; done) | skip
  rename_i fn as kws pos
  cases fn <;> first | (simp [chkIt] at h; done) | skip
  rcases as with _ | ⟨y, _ | ⟨z, _ | _⟩⟩ <;> first | (simp [chkIt] at h; done) | skip
  cases kws <;> first | (simp [chkIt] at h; done) | skip
  rename_i nm npos
  simp only [chkIt, Bool.and_eq_true, decide_eq_true_eq] at h
  obtain ⟨rfl, h2, h3, h4⟩ := h
  have hs : starEach [y, z] X.env = [(false, eval y X.env), (false, eval z X.env)] := by
    rw [star_of (okX_of h3), star_of (okX_of h4)]
    rfl
  refine PI.mono (pi_range2 (glb_of C.sc h2) C.rng (pa2 (okX_of h3) (okX_of h4) ((ha y h3).md (tk := tk) n.l) ((hb z h4).md (tk := tk) n.r)) hs (star_of (okX_of h4) [] X.env)) fun σ H R q => ?_
  obtain ⟨ρ, O, H0, r, j⟩ := q
  simp only [evIt] at j
  refine tM.seq r j fun d v H1 e1 s1 r1 rl1 j1 => tM.seq rl1 (j1.same s1 fun _ p => p) fun e w H2 e2 s2 r2 rl2 j2 => ?_
  cases d <;> first | exact j2.elim | skip
  cases e <;> first | exact j2.elim | skip
  cases r1.rs.int
  cases r2.rs.int
  rename_i i k
  have j3 : JG Wx X.K σ H1 (fun items => ∀ J H', Same H H' → SrcAt X.K tk O J items H' → R J H') (if (inRg i && inRg k) = true then .ok (rngV i (k - i).toNat) else .bad) := j2
  split at j3
  · rename_i hi
    simp only [Bool.and_eq_true] at hi
    obtain ⟨g1, g2⟩ := inRg_of hi.1
    obtain ⟨g3, g4⟩ := inRg_of hi.2
    exact ⟨i, k, rfl, ⟨g1, g2, g3, g4⟩, j3 _ _ (s1.trans s2) ⟨[], _, src_r i (k - i).toNat, trivial, fun _ => rfl⟩⟩
  · exact j3.elim
theorem snd_it_r3 (C : Cxt S Γ W Wx X) {a b c : E} {tg x : Expr} (h : chkIt Γ (.r3 a b c) tg x = true) (ha : ∀ y, chkE Γ a y = true → Snd S Γ W Wx X a y) (hb : ∀ y, chkE Γ b y = true → Snd S Γ W Wx X b y) (hc : ∀ y, chkE Γ c y = true → Snd S Γ W Wx X c y)
    (n : ndj W (escItM tk (.r3 a b c))) : PI X tg x (tI S Wx X.K W tk (.r3 a b c)) := by
  cases x <;> first | (simp [chkIt] at h; done) | skip
  rename_i fn as kws pos
  cases fn <;> first | (simp [chkIt] at h; done) | skip
  rcases as with _ | ⟨y, _ | ⟨z, _ | ⟨t, _ | _⟩⟩⟩ <;> first | (simp [chkIt] at h; done) | skip
  cases kws <;> first | (simp [chkIt] at h; done) | skip
  rename_i nm npos
  simp only [chkIt, Bool.and_eq_true, decide_eq_true_eq] at h
  obtain ⟨rfl, h2, h3, h4, h5⟩ := h
  have hs : (backTo pos (starEach [z, t] X.env)).any (·.1) = false := stars_of (by simp [okX_of h4, okX_of h5]) X.env pos
  refine PI.mono (pi_range3 (glb_of C.sc h2) C.rng (pa3 (okX_of h3) (okX_of h4) (okX_of h5) ((ha y h3).md (tk := tk) n.l) ((hb z h4).md (tk := tk) n.r.l) ((hc t h5).md (tk := tk) n.r.r)) (star_of (okX_of h3) [z, t] X.env) hs) fun σ H R q => ?_
  obtain ⟨ρ, O, H0, r, j⟩ := q
  simp only [evIt] at j
  refine tM.seq r j fun d v H1 e1 s1 r1 rl1 j1 => tM.seq rl1 (j1.same s1 fun _ p => p) fun e w H2 e2 s2 r2 rl2 j2 => tM.seq rl2 (j2.same s2 fun _ p => p) fun f u H3 e3 s3 r3 rl3 j3 => ?_
  cases d <;> first | exact j3.elim | skip
  cases e <;> first | exact j3.elim | skip
  cases f <;> first | exact j3.elim | skip
  cases r1.rs.int
  cases r2.rs.int
  cases r3.rs.int
  rename_i i k m
  have j4 : JG Wx X.K σ H2 (fun items => ∀ J H', Same H H' → SrcAt X.K tk O J items H' → R J H') (rng3V i k m) := j3
  unfold rng3V at j4
  split at j4
  · rename_i hi
    simp only [Bool.and_eq_true, decide_eq_true_eq] at hi
    obtain ⟨⟨g1, g2, g3, g4, g5⟩, g6⟩ := hi
    exact ⟨i, k, m, _, rfl, ⟨g3, g4, g6, by omega⟩, j4 _ _ (s1.trans (s2.trans s3)) ⟨[], _, src_rc i m _, trivial, fun _ => rfl⟩⟩
  · exact j4.elim
theorem snd_it_zip (C : Cxt S Γ W Wx X) {a b : E} {tg x : Expr} (h : chkIt Γ (.zip a b) tg x = true) (ha : ∀ y, chkE Γ a y = true → Snd S Γ W Wx X a y) (hb : ∀ y, chkE Γ b y = true → Snd S Γ W Wx X b y) (n : ndj W (escItM tk (.zip a b))) : PI X tg x (tI S Wx X.K W tk (.zip a b)) := by
  cases tg <;> first | (simp [chkIt] at h; done) | skip
  cases x <;> first | (simp [chkIt] at h; done) | skip
  rename_i els ek epos fn as kws pos
  cases fn <;> first | (simp [chkIt] at h; done) | skip
  rcases as with _ | ⟨y, _ | ⟨z, _ | _⟩⟩ <;> first | (simp [chkIt] at h; done) | skip
  cases kws <;> first | (simp [chkIt] at h; done) | skip
  rename_i nm npos
  simp only [chkIt, Bool.and_eq_true, decide_eq_true_eq] at h
  obtain ⟨rfl, h2, h3, h4⟩ := h
  have hs : (backTo pos (starEach [z] X.env)).any (·.1) = false := stars_of (by simp [okX_of h4]) X.env pos
  refine PI.mono (RZ.pi_zipA (glb_of C.sc h2) C.zip (pa2 (okX_of h3) (okX_of h4) ((ha y h3).md (tk := tk) n.l) ((hb z h4).md (tk := tk) n.r)) (star_of (okX_of h3) [z] X.env) hs) fun σ H R q => ?_
  obtain ⟨ρ, O, H0, r, j⟩ := q
  simp only [evIt] at j
  refine tM.seq r j fun d v H1 e1 s1 r1 rl1 j1 => tM.seq rl1 (j1.same s1 fun _ p => p) fun e w H2 e2 s2 r2 rl2 j2 => ?_
  cases d <;> first | exact j2.elim | skip
  all_goals cases e <;> first | exact j2.elim | skip
  · obtain ⟨p1, q1, K1, rfl, L1, k1, z1⟩ := (r1.same s2).lkp
    obtain ⟨p2, q2, K2, rfl, L2, k2, z2⟩ := r2.lkp
    obtain ⟨xs, g1, _⟩ := L1.rd _ _ k1
    obtain ⟨ys, g2, _⟩ := L2.rd _ _ k2
    exact ⟨_, _, xs, ys, rfl, .inl ⟨.inl g1, .inl g2, j2 _ _ (s1.trans s2) ⟨q1 ++ q2, _, src_z L1 L2, ⟨k1, k2⟩, fun h => by rw [z1 h, z2 h]; rfl⟩⟩⟩
  · obtain ⟨p1, K1, rfl, L1, k1⟩ := (r1.same s2).rs.tkp
    obtain ⟨p2, K2, rfl, L2, k2⟩ := r2.rs.tkp
    obtain ⟨xs, g1, _⟩ := L1.rd _ _ k1
    obtain ⟨ys, g2, _⟩ := L2.rd _ _ k2
    exact ⟨_, _, xs, ys, rfl, .inr ⟨g1, g2, j2 _ _ (s1.trans s2) ⟨[], _, src_zt L1 L2, ⟨k1, k2⟩, fun _ => rfl⟩⟩⟩
theorem snd_it_enum (C : Cxt S Γ W Wx X) {a : E} {tg x : Expr} (h : chkIt Γ (.enum a) tg x = true) (ha : ∀ y, chkE Γ a y = true → Snd S Γ W Wx X a y) (n : ndj W (escItM tk (.enum a))) : PI X tg x (tI S Wx X.K W tk (.enum a)) := by
  cases tg <;> first | (simp [chkIt] at h; done) | skip
  cases x <;> first | (simp [chkIt] at h; done) | skip
  rename_i els ek epos fn as kws pos
  cases fn <;> first | (simp [chkIt] at h; done) | skip
  rcases as with _ | ⟨y, _ | _⟩ <;> first | (simp [chkIt] at h; done) | skip
  cases kws <;> first | (simp [chkIt] at h; done) | skip
  rename_i nm npos
  simp only [chkIt, Bool.and_eq_true, decide_eq_true_eq] at h
  obtain ⟨rfl, h2, h3⟩ := h
  have pa := pa1 (okX_of h3) ((ha y h3).md (tk := tk) n)
  have st := star_of (okX_of h3) [] X.env
  refine PI.mono (PI.or (pi_enum (glb_of C.sc h2) C.enu pa st) (pi_enumT (glb_of C.sc h2) C.enu pa st)) fun σ H R q => ?_
  obtain ⟨ρ, O, H0, r, j⟩ := q
  simp only [evIt] at j
  cases e : evE S a ρ with
  | bad => rw [e] at j; exact j.elim
  | exc c i =>
    refine .inl (tM.seq r j fun d v H1 e1 _ _ _ _ => ?_)
    rw [e] at e1
    cases e1
  | ok d =>
    cases d <;> first | (rw [e] at j; exact j.elim) | skip
    · refine .inl (tM.seq r j fun d v H1 e1 s1 r1 rl1 j1 => ?_)
      rw [e] at e1
      cases e1
      obtain ⟨p1, q1, K1, rfl, L1, k1, z1⟩ := r1.lkp
      obtain ⟨xs, g1, _⟩ := L1.rd _ _ k1
      exact ⟨_, xs, rfl, .inl g1, j1 _ _ s1 ⟨q1, _, src_e L1, k1, z1⟩⟩
    · refine .inr (tM.seq r j fun d v H1 e1 s1 r1 rl1 j1 => ?_)
      rw [e] at e1
      cases e1
      obtain ⟨p1, K1, rfl, L1, k1⟩ := r1.rs.tkp
      obtain ⟨xs, g1, _⟩ := L1.rd _ _ k1
      exact ⟨_, xs, rfl, g1, j1 _ _ s1 ⟨[], _, src_eT L1, k1, fun _ => rfl⟩⟩
end
end Fe
set_option Elab.async false
set_option linter.all false
set_option maxRecDepth 100000
set_option maxHeartbeats 4000000
/-! Fe, part G: comprehensions; the theorem of all expressions. -/
namespace Fe
open PySem PySem.Spec PyProof.Rows L2
abbrev W0 : WX := fun _ _ _ _ => False
theorem cxt_blk {S : Sig} {Γ : Gam} {W : List Nat} {Wx : WX} {X : Cx} (C : Cxt S Γ W Wx X) (s : Shared) (H : Hp) (sc : Scope) (A : Addr) (cl : List (Str × Addr)) (fp : List Addr) :
    Cxt S { Γ with sc := relS sc Γ.sc, st := sc } W W0 (X.blk s H sc (compEnvC sc cl A X.env) fp) where
  sub := C.sub
  calm := C.calm
  sc := by
    show relabel sc X.env = relS sc Γ.sc
    rw [← C.sc]
    rfl
  N := C.N
  nd := C.nd
  tk := takes0
  un := C.un
  sto := fun x h => by
    have e : (compEnvC sc cl A X.env).scope = relS sc X.env.scope := rfl
    unfold stOk at h
    show Loc (compEnvC sc cl A X.env).scope x ∧ ((sc.names.lookup x == some .cell) = true ∨ (compEnvC sc cl A X.env).scope.names.lookup x = some .local)
    rw [e]
    split at h
    · rename_i e1
      have := lookup_relS_keep (sc := X.env.scope) (by decide) (show sc.names.lookup x = some .local from e1)
      exact ⟨.inl this, .inr this⟩
    · rename_i e1
      have e2 : sc.names.lookup x = some .cell := e1
      have := lookup_relS_keep (sc := X.env.scope) (by decide) e2
      exact ⟨.inr this, .inl (by rw [e2]; rfl)⟩
    · cases h
  fn := C.fn
  con := C.con
  bui := C.bui
  rng := C.rng
  zip := C.zip
  enu := C.enu
def tCs (S : Sig) (Wx : WX) (K : PySem.W.Frag) (W : List Nat) (cs : Eo) : TT := fun σ H Q => ∃ ρ O H0, Rel K W O H0 ρ σ H ∧ JG Wx K σ H (fun k => ∀ H', Same H H' → Q k H') (evC S cs ρ)
theorem wipe_get : ∀ (vs : List Nat) {σ : L2.St} (i : Nat), (L2.wipe σ vs)[i]? = if i ∈ vs ∧ i < σ.length then some none else σ[i]?
  | [], σ, i => by simp [L2.wipe]
  | v :: vs, σ, i => by
    simp only [L2.wipe]
    rw [get_set, wipe_get vs, wipe_length]
    by_cases c : v = i
    · subst c
      by_cases l : v < σ.length
      · simp [l]
      · simp [l]
    · have c' : ¬ i = v := fun e => c e.symm
      simp [c, c']
theorem wipe_eq {σ σ' : L2.St} {vs : List Nat} (l : σ'.length = σ.length) (k : ∀ i, i ∉ vs → σ'[i]? = σ[i]?) : L2.wipe σ' vs = L2.wipe σ vs := by
  apply List.ext_getElem?
  intro i
  rw [wipe_get, wipe_get, l]
  by_cases c : i ∈ vs
  · by_cases d : i < σ.length
    · simp [c, d]
    · have e1 : σ[i]? = none := List.getElem?_eq_none (by omega)
      have e2 : σ'[i]? = none := List.getElem?_eq_none (by omega)
      simp [c, d, e1, e2]
  · simp [c, k i c]
mutual
theorem tgIn_mem {own : List Nat} : ∀ {t : Tg}, tgIn own t = true → ∀ i ∈ tgL t, i ∈ own
  | .nm i, h, j, hj => by
    simp only [tgL, List.mem_singleton] at hj
    subst hj
    simpa [tgIn] using h
  | .tp ts, h, j, hj => tgIns_mem (ts := ts) (by simpa [tgIn] using h) j (by simpa [tgL] using hj)
theorem tgIns_mem {own : List Nat} : ∀ {ts : List Tg}, tgIns own ts = true → ∀ i ∈ tgLs ts, i ∈ own
  | [], _, j, hj => by simp [tgLs] at hj
  | t :: ts, h, j, hj => by
    simp only [tgIns, Bool.and_eq_true] at h
    rcases List.mem_append.mp (by simpa [tgLs] using hj) with e | e
    · exact tgIn_mem h.1 j e
    · exact tgIns_mem h.2 j e
end
theorem ownOf_snd (Γ : Gam) (own : List Nat) : (ownOf Γ own).map (·.2) = own := by
  unfold ownOf
  rw [List.map_map]
  exact (List.map_congr_left fun _ _ => rfl).trans (List.map_id own)
theorem chkIt_okX {Γ : Gam} {it : It} {t x : Expr} (h : chkIt Γ it t x = true) : okX x = true := by
  cases it
  · exact okX_of (show chkE Γ _ x = true by simpa [chkIt] using h)
  all_goals cases x <;> first | rfl | (cases t <;> simp [chkIt] at h)
theorem compGo_noX {f : PD → R (Option PD)} : ∀ {l : List PD}, (∃ r, compGo f l = .ok r) ∨ compGo f l = .bad
  | [] => .inl ⟨[], rfl⟩
  | d :: ds => by
    simp only [compGo]
    cases f d with
    | ok o =>
      rcases compGo_noX (f := f) (l := ds) with ⟨r, e⟩ | e
      · simp only [e]
        exact .inl ⟨_, rfl⟩
      · refine .inr ?_
        simp only [e]
    | exc c i => exact .inr rfl
    | bad => exact .inr rfl
theorem compGo_cons {f : PD → R (Option PD)} {d : PD} {ds r : List PD} (h : compGo f (d :: ds) = .ok r) : ∃ o r', f d = .ok o ∧ compGo f ds = .ok r' ∧ r = (match o with | some x => x :: r' | none => r') := by
  simp only [compGo] at h
  cases e : f d with
  | ok o =>
    rw [e] at h
    simp only at h
    cases e2 : compGo f ds with
    | ok r' =>
      rw [e2] at h
      simp only [R.ok.injEq] at h
      exact ⟨o, r', rfl, rfl, h.symm⟩
    | exc c i => rw [e2] at h; cases h
    | bad => rw [e2] at h; cases h
  | exc c i => rw [e] at h; cases h
  | bad => rw [e] at h; cases h
section
variable {S : Sig} {Γ : Gam} {W : List Nat} {Wx : WX} {X : Cx}
theorem comp_key (C : Cxt S Γ W Wx X) {elt : E} {tg : Tg} {it : It} {cs : Eo} {own : List Nat} {x : Expr} (h : chkE Γ (.comp elt tg it cs own) x = true)
    (hit : ∀ t i, chkIt Γ it t i = true → ndj W (escItM false it) → PI X t i (tI S Wx X.K W false it))
    (hcs : ∀ (Γ' : Gam) (X' : Cx), Cxt S Γ' W W0 X' → ∀ ifs, chkC Γ' cs ifs = true → ndj W (esco cs) → PTs X' ifs (tCs S W0 X'.K W cs))
    (hel : ∀ (Γ' : Gam) (X' : Cx), Cxt S Γ' W W0 X' → ∀ y, chkE Γ' elt y = true → Snd S Γ' W W0 X' elt y) (n : ndj W (esc (.comp elt tg it cs own))) :
    ∃ t', PE X x t' ∧ (∀ (i : Nat) (y : Str) (py spos : Pos), X.N[i]? = some y → X.env.scope.names.lookup y = some .local → swapsWith x (some (.Name y py)) spos.line X.env = pure true → PS X (.Assign [.Name y py] x spos) (tAsg t' (gName i))) ∧
      ∀ σ H Q, tF S Wx X.K W (.comp elt tg it cs own) σ H Q → t' σ H Q := by
  cases x <;> first | (simp [chkE] at h; done) | skip
  rename_i ex gens sc pos
  rcases gens with _ | ⟨g, _ | _⟩ <;> first | (simp [chkE] at h; done) | skip
  obtain ⟨t, i, ifs, as⟩ := g
  have has : as = 0 := by
    by_cases c : as = 0
    · exact c
    · exfalso
      unfold chkE at h
      split at h <;> first | (cases h; done) | skip
      all_goals first | (rename_i e1 e2; cases e1; cases e2; exact c rfl) | (rename_i e1 e2; cases e2; done) | skip
  subst has
  simp only [chkE, Bool.and_eq_true] at h
  obtain ⟨h1, h2, h3, h4, h5, h6, h7⟩ := h
  have hown : ∀ j ∈ own, j ∉ W := fun j hj z => of_decide_eq_true (List.all_eq_true.mp h3 j hj) (C.sub j z)
  have n1 : ndj W (escItM false it) := by rw [← escIt_eq]; exact n.l
  have n2 : ndj W (esco cs) := n.r.l
  have n3 : ndj W (esc elt) := n.r.r
  have hN : X.N.Nodup := by rw [C.N]; exact C.nd
  have hok : BlkOk X.N X.env.scope sc (ownOf Γ own) := by rw [C.N, C.sc]; exact blkOk_by h2
  have hgT := fun (s : Shared) (H : Hp) (A : Addr) (cl : List (Str × Addr)) (fp : List Addr) => snd_tg (cxt_blk C s H sc A cl fp) tg t h4
  have hcT := fun (s : Shared) (H : Hp) (A : Addr) (cl : List (Str × Addr)) (fp : List Addr) => hcs _ _ (cxt_blk C s H sc A cl fp) ifs h5 n2
  have heT := fun (s : Shared) (H : Hp) (A : Addr) (cl : List (Str × Addr)) (fp : List Addr) => (hel _ _ (cxt_blk C s H sc A cl fp) ex h7).tk n3
  refine ⟨_, pe_lc C.calm hN (hit t i h1 n1) hok (g := gT X.K W tg) (tt := tCs S W0 X.K W cs) (te := tE S W0 X.K W elt) hgT hcT heT (folded_of (chkIt_okX h1) X.env),
    fun i' y py spos e1 e2 e3 => ps_setLc C.calm hN e1 e2 e3 (hit t i h1 n1) hok (g := gT X.K W tg) (tt := tCs S W0 X.K W cs) (te := tE S W0 X.K W elt) hgT hcT heT (folded_of (chkIt_okX h1) X.env), fun σ H Q q => ?_⟩
  obtain ⟨ρ, O, H0, r, j⟩ := q
  simp only [evE] at j
  refine ⟨ρ, O, H0, r, j.bind.imp fun items e1 p J H1 s1 src => ?_⟩
  obtain ⟨roots, Keep, src, k, _⟩ := src
  rw [ownOf_snd]
  generalize ef : (fun d => match tgSet tg d (wipeE ρ own) with
    | some ρ1 => (evC S cs ρ1).bind fun k => if k = true then (evE S elt ρ1).bind fun x => R.ok (some x) else R.ok none
    | none => R.bad) = f at p
  rcases compGo_noX (f := f) (l := items) with ⟨ds, ec⟩ | ec
  case inr =>
    rw [ec] at p
    exact p.elim
  rw [ec] at p
  have p : JG Wx X.K σ H (fun d => isL d = true ∧ PostF X.K O H Q d) (if okLen items.length = true then .ok (.list ds) else .bad) := p
  split at p
  case isFalse => exact p.elim
  rename_i hlen
  have hlen := okLen_le hlen
  have p : PostF X.K O H Q (.list ds) := p.2
  intro D nD
  have r1 := r.same s1
  have nWD : ∀ i d a, i ∈ W → ρ[i]? = some (some d) → σ[i]? = some (some (.ref a)) → a ≠ D := fun i d a hi h1 h2 e => by
    obtain ⟨b, g1, _, _, g2, _⟩ := r1.own i d hi h1
    rw [g1] at h2
    have e2 : b = a := by simpa using h2
    obtain ⟨u, g3, _⟩ := g2.mut
    rw [e2, e, nD] at g3
    cases g3
  have nRD : ∀ a ∈ roots, a ≠ D := fun a ha e => src.there O H1 a k ha (by rw [e]; exact nD)
  have L1 : Lift O H1 (fun b => O b ∨ b = D) (upd H1 D (.lst [])) := (Lift.own nD).trans (Lift.same (same_new nD))
  have W1 : Rel X.K W (fun b => O b ∨ b = D) H0 ρ σ (upd H1 D (.lst [])) := r1.lift L1 (fun _ h => .inl h) (fun a h => by
      by_cases c : a = D
      · rw [c, upd_same]; simp
      · rw [upd_ne c]
        exact r1.dom a (h.resolve_right c)) (r1.sam.trans (same_new nD)) (fun i d a hi g1 g2 => upd_ne (nWD i d a hi g1 g2))
  have K1 : Keep (fun b => O b ∨ b = D) (upd H1 D (.lst [])) := src.lift _ _ _ _ L1 (fun a ha => upd_ne (nRD a ha)) k
  let Inv : Nat → Hp → Prop := fun i Hc => ∃ acc da rest, Hc D = some (.lst acc) ∧ RXs X.K (fun b => O b ∨ b = D) Hc acc da ∧ acc.length ≤ i ∧ compGo f (items.drop i) = .ok rest ∧ ds = da ++ rest ∧
    Rel X.K W (fun b => O b ∨ b = D) H0 ρ σ Hc ∧ Keep (fun b => O b ∨ b = D) Hc ∧ ∀ b o, H1 b = some o → Hc b = some o
  refine ⟨fun i m Hc => m = items.length - i ∧ i ≤ items.length ∧ Inv i Hc, ⟨items.length, by simp, Nat.zero_le _, [], [], ds, upd_same, .nil, Nat.le_refl _, by simpa using ec, rfl, W1, K1, fun b o e => same_new nD b o e⟩, ?_⟩
  rintro i m Hc ⟨rfl, hi, acc, da, rest, g1, g2, g3, g4, g5, g6, g7, g8⟩
  by_cases c : i < items.length
  · refine .inr ⟨src.go _ i Hc g7 c, Inv (i + 1), fun H' I' => ⟨items.length - (i + 1), by omega, rfl, c, I'⟩, fun y H2 hy => ?_⟩
    obtain ⟨d, e2, s2, ry⟩ := src.yld _ i Hc y H2 g7 c hy
    have ed : items.drop i = d :: items.drop (i + 1) := by
      rw [List.drop_eq_getElem_cons c]
      have : items[i]? = some items[i] := by simp [c]
      rw [this] at e2
      rw [Option.some.inj e2]
    rw [ed] at g4
    obtain ⟨o, rest', fo, g4', er⟩ := compGo_cons g4
    rw [← ef] at fo
    simp only at fo
    split at fo
    case h_2 => cases fo
    rename_i ρ1 et
    refine ⟨wipeE ρ own, _, H0, d, ρ1, (g6.same s2).wipe own, ry, et, fun σ2 rl2 l2 k2 => ⟨?_, ?_⟩⟩
    · have l2' : σ2.length = σ.length := by rw [l2, wipe_length]
      refine wipe_eq l2' fun j cj => ?_
      rw [k2 j fun hm => cj (tgIn_mem h6 j hm), wipe_get]
      simp [cj]
    · cases ek : evC S cs ρ1 with
      | exc c' i' => rw [ek] at fo; simp [R.bind] at fo
      | bad => rw [ek] at fo; simp [R.bind] at fo
      | ok k' =>
        rw [ek] at fo
        have fo : (if k' = true then (evE S elt ρ1).bind fun x => R.ok (some x) else R.ok none) = .ok o := fo
        refine ⟨ρ1, _, H0, rl2, ?_⟩
        rw [ek]
        intro H3 s3
        show if k' = true then tE S W0 X.K W elt σ2 H3 _ else Inv (i + 1) H3
        split
        · rw [if_pos ‹_›] at fo
          cases ev : evE S elt ρ1 with
          | exc c' i' => rw [ev] at fo; simp [R.bind] at fo
          | bad => rw [ev] at fo; simp [R.bind] at fo
          | ok z =>
            rw [ev] at fo
            have fo : R.ok (some z) = .ok o := fo
            cases fo
            refine ⟨ρ1, _, H0, rl2.same s3, ?_⟩
            rw [ev]
            intro v H4 s4 rv
            have s24 := s2.trans (s3.trans s4)
            have eD : H4 D = some (.lst acc) := s24 _ _ g1
            refine ⟨acc, eD, by omega, ?_⟩
            have L4 : Lift (fun b => O b ∨ b = D) H4 (fun b => O b ∨ b = D) (upd H4 D (.lst (acc ++ [v]))) := Lift.upd (.inr rfl) eD True.intro
            have rl4 := g6.same s24
            refine ⟨acc ++ [v], da ++ [z], rest', upd_same, ((g2.same s24).append (.cons rv .nil)).lift L4, by simp; omega, g4', ?_, ?_, ?_, fun b o' hb => ?_⟩
            · rw [g5, er]
              simp
            · refine rl4.lift L4 (fun _ h => h) (fun a h => ?_) (fun b o' hb => ?_) (fun i d a hi e1 e2 => upd_ne (nWD i d a hi e1 e2))
              · by_cases ca : a = D
                · rw [ca, upd_same]; simp
                · rw [upd_ne ca]; exact rl4.dom a h
              · have cb : b ≠ D := fun e => by
                  have := r1.sam _ _ hb
                  rw [e, nD] at this
                  cases this
                rw [upd_ne cb]
                exact rl4.sam _ _ hb
            · exact src.lift _ _ _ _ L4 (fun a ha => upd_ne (nRD a ha)) (src.lift _ _ _ _ (Lift.same s24) (fun a ha => by
                cases e : Hc a with
                | none => exact absurd e (src.there _ Hc a g7 ha)
                | some u => exact s24 _ _ e) g7)
            · have cb : b ≠ D := fun e => by rw [e, nD] at hb; cases hb
              rw [upd_ne cb]
              exact s24 _ _ (g8 b o' hb)
        · rw [if_neg ‹_›] at fo
          cases fo
          have s23 := s2.trans s3
          refine ⟨acc, da, rest', s23 _ _ g1, g2.same s23, by omega, g4', by rw [g5, er], g6.same s23, ?_, fun b o' hb => s23 _ _ (g8 b o' hb)⟩
          exact src.lift _ _ _ _ (Lift.same s23) (fun a ha => by
            cases e : Hc a with
            | none => exact absurd e (src.there _ Hc a g7 ha)
            | some u => exact s23 _ _ e) g7
  · have ei : i = items.length := by omega
    subst ei
    rw [List.drop_length] at g4
    simp only [compGo, R.ok.injEq] at g4
    subst g4
    rw [List.append_nil] at g5
    subst g5
    exact .inl ⟨src.stop _ _ Hc g7 (Nat.le_refl _), p D Hc (Same.free s1 nD) (s1.trans fun b o e => g8 b o e) ⟨acc, g1, g2⟩⟩
theorem comp_EF {elt : E} {tg : Tg} {it : It} {cs : Eo} {own : List Nat} {σ : L2.St} {H : Hp} {Q : VK} (q : tE S Wx X.K W (.comp elt tg it cs own) σ H Q) : tF S Wx X.K W (.comp elt tg it cs own) σ H Q := by
  obtain ⟨ρ, O, H0, r, j⟩ := q
  refine ⟨ρ, O, H0, r, ?_⟩
  have isl : ∀ d, evE S (.comp elt tg it cs own) ρ = .ok d → isL d = true := fun d e => by
    simp only [evE] at e
    cases e1 : evIt S it ρ with
    | ok items =>
      rw [e1] at e
      simp only [R.bind] at e
      split at e
      · split at e
        · cases e; rfl
        · cases e
      · cases e
      · cases e
    | exc c i => rw [e1] at e; cases e
    | bad => rw [e1] at e; cases e
  exact j.imp fun d e p => ⟨isl d e, PostX.toF r.dom p⟩
theorem snd_comp (C : Cxt S Γ W Wx X) {elt : E} {tg : Tg} {it : It} {cs : Eo} {own : List Nat} {x : Expr} (h : chkE Γ (.comp elt tg it cs own) x = true)
    (hit : ∀ t i, chkIt Γ it t i = true → ndj W (escItM false it) → PI X t i (tI S Wx X.K W false it))
    (hcs : ∀ (Γ' : Gam) (X' : Cx), Cxt S Γ' W W0 X' → ∀ ifs, chkC Γ' cs ifs = true → ndj W (esco cs) → PTs X' ifs (tCs S W0 X'.K W cs))
    (hel : ∀ (Γ' : Gam) (X' : Cx), Cxt S Γ' W W0 X' → ∀ y, chkE Γ' elt y = true → Snd S Γ' W W0 X' elt y) : Snd S Γ W Wx X (.comp elt tg it cs own) x := by
  refine Snd.of rfl fun n => ?_
  obtain ⟨t', pe, _, kF⟩ := comp_key C h hit hcs hel n
  exact ⟨t', pe, fun σ H Q q => kF σ H Q (comp_EF q), fun _ => kF⟩
/-- pairs of a display -/
abbrev KvR (K : PySem.W.Frag) (O : Addr → Prop) (H : Hp) : List (V × V) → List (PD × PD) → Prop := Paired fun p d => RS K O H p.1 d.1 ∧ RX K O H p.2 d.2
theorem kv_run : ∀ (p : Kv) {ρ : Env} {O : Addr → Prop} {H0 H : Hp} {σ : L2.St} {Q : List (V × V) → Hp → Prop}, Rel X.K W O H0 ρ σ H → JG Wx X.K σ H (fun ds => ∀ ps H', Same H H' → KvR X.K O H' ps ds → Q ps H') (evKv S p ρ) → tPairs (tKv S Wx X.K W p) σ H Q
  | .nil, ρ, O, H0, H, σ, Q, r, j => by
    simp only [evKv] at j
    exact j [] H (Same.refl H) .nil
  | .cons k v q, ρ, O, H0, H, σ, Q, r, j => by
    simp only [evKv] at j
    show tP S Wx X.K W k σ H fun x H1 => tE S Wx X.K W v σ H1 fun y H2 => tPairs (tKv S Wx X.K W q) σ H2 fun ps H3 => Q ((x, y) :: ps) H3
    refine tP.seq r j fun d x H1 e1 s1 r1 rl1 j1 => tE.seq rl1 (j1.same s1 (fun _ p => p)) fun e y H2 e2 s2 r2 rl2 j2 => ?_
    refine kv_run q rl2 ((j2.same s2 (fun _ p => p)).bind.imp fun ds e3 p ps H3 s3 rs => ?_)
    exact p ((x, y) :: ps) H3 (s1.trans (s2.trans s3)) (.cons ⟨r1.same (s2.trans s3), r2.same s3⟩ rs)
theorem kvr_keys {K : PySem.W.Frag} {O : Addr → Prop} {H : Hp} : ∀ {ps : List (V × V)} {ds : List (PD × PD)}, KvR K O H ps ds → (ds.all fun p => (keyOf p.1).isSome) = true → ∃ kvs : List (Key × V), ps = kvs.map (fun kv => (kV kv.1, kv.2)) ∧ RXp K O H (kvs.map fun p => (kP p.1, p.2)) ds ∧ kvs.length = ds.length
  | _, _, .nil, _ => ⟨[], rfl, .nil, rfl⟩
  | _, _, .cons (a := p) (b := d) ⟨h1, h2⟩ r, h => by
    simp only [List.all_cons, Bool.and_eq_true] at h
    obtain ⟨kvs, e1, e2, e3⟩ := kvr_keys r h.2
    obtain ⟨k, hk⟩ := Option.isSome_iff_exists.mp h.1
    obtain ⟨x, y⟩ := p
    obtain ⟨a, b⟩ := d
    have ea : a = kP k := keyOf_kP hk
    dsimp only at h1 h2
    subst ea
    refine ⟨(k, y) :: kvs, ?_, .cons h2 e2, by simp [e3]⟩
    rw [List.map_cons, ← e1]
    congr 2
    rcases k with i | z
    · exact h1.int
    · exact h1.str.1
theorem chkKv_all {Γ : Gam} : ∀ {p : Kv} {ks : List (Option Expr)} {vs : List Expr}, chkKv Γ p ks vs = true → ks.all (·.isSome) = true ∧ ks.length = vs.length
  | .nil, ks, vs, h => by cases ks <;> cases vs <;> simp [chkKv] at h <;> exact ⟨rfl, rfl⟩
  | .cons k v r, ks, vs, h => by
    rcases ks with _ | ⟨a, ks⟩ <;> first | (cases vs <;> simp [chkKv] at h; done) | skip
    cases a <;> first | (cases vs <;> simp [chkKv] at h; done) | skip
    cases vs <;> first | (simp [chkKv] at h; done) | skip
    simp only [chkKv, Bool.and_eq_true] at h
    obtain ⟨i1, i2⟩ := chkKv_all h.2.2
    exact ⟨by simpa using i1, by simpa using i2⟩
theorem snd_dct {p : Kv} {x : Expr} (h : chkE Γ (.dct p) x = true) (hp : ∀ pos ks vs, chkKv Γ p ks vs = true → ndj W (escp p) → PPs X pos ks vs (tKv S Wx X.K W p)) : Snd S Γ W Wx X (.dct p) x := by
  cases x <;> first | (simp [chkE] at h; done) | skip
  rename_i ks vs pos
  simp only [chkE, Bool.and_eq_true, decide_eq_true_eq, Bool.not_eq_true'] at h
  obtain ⟨h1, h2, h3⟩ := h
  obtain ⟨k1, k2⟩ := chkKv_all h1
  have key : ∀ σ H Q, tF S Wx X.K W (.dct p) σ H Q → tDisp (tKv S Wx X.K W p) σ H Q := fun σ H Q z => by
    obtain ⟨ρ, O, H0, r, j⟩ := z
    simp only [evE] at j
    intro a na
    have L1 : Lift O H (fun b => O b ∨ b = a) (upd H a (.dK [])) := (Lift.own na).trans (Lift.same (same_new na))
    have nWa : ∀ i d b, i ∈ W → ρ[i]? = some (some d) → σ[i]? = some (some (.ref b)) → b ≠ a := fun i d b hi h1 h2 e => by
      obtain ⟨c, g1, _, _, g2, _⟩ := r.own i d hi h1
      rw [g1] at h2
      have e2 : c = b := by simpa using h2
      obtain ⟨u, g3, _⟩ := g2.mut
      rw [e2, e, na] at g3
      cases g3
    have r1 : Rel X.K W (fun b => O b ∨ b = a) H0 ρ σ (upd H a (.dK [])) := r.lift L1 (fun _ h => .inl h) (fun b h => by
        by_cases c : b = a
        · rw [c, upd_same]; simp
        · rw [upd_ne c]
          exact r.dom b (h.resolve_right c)) (r.sam.trans (same_new na)) (fun i d b hi g1 g2 => upd_ne (nWa i d b hi g1 g2))
    refine kv_run p r1 ((j.same (same_new na) (fun _ p => p)).bind.imp fun ds e q ps H2 s2 rs => ?_)
    have q : JG Wx X.K σ (upd H a (.dK [])) (fun d => isL d = true ∧ PostF X.K O H Q d) (if (decide (ds.length ≤ 15) && (!ds.isEmpty && ds.all fun p => (keyOf p.1).isSome)) = true then .ok (.dict (mergeP [] ds)) else .bad) := q
    split at q
    case isFalse => exact q.elim
    rename_i c
    simp only [Bool.and_eq_true, decide_eq_true_eq] at c
    obtain ⟨kvs, e1, e2, e3⟩ := kvr_keys rs c.2.2
    have ea : H2 a = some (.dK []) := s2 _ _ upd_same
    refine ⟨ea, kvs, e1, by rw [e3]; exact c.1, ?_⟩
    have L2 : Lift (fun b => O b ∨ b = a) H2 (fun b => O b ∨ b = a) (upd H2 a (.dK (mergeK [] kvs))) := Lift.upd (.inr rfl) ea True.intro
    refine q.2 a _ na (fun b u hb => ?_) ⟨_, .inl ⟨_, upd_same, rfl⟩, (merge_rx e2 .nil).lift L2⟩
    have ne : b ≠ a := ne_of_none hb na
    rw [upd_ne ne]
    exact s2 _ _ (by rw [upd_ne ne]; exact hb)
  refine Snd.of rfl fun n => ⟨_, pe_disp (hp pos ks vs h1 n) k1 k2 (by cases ks <;> simp at h3 ⊢) h2, fun σ H Q z => key σ H Q ?_, fun _ => key⟩
  obtain ⟨ρ, O, H0, r, j⟩ := z
  refine ⟨ρ, O, H0, r, ?_⟩
  have isl : ∀ d', evE S (.dct p) ρ = .ok d' → isL d' = true := fun d' e => by
    simp only [evE] at e
    cases e1 : evKv S p ρ with
    | ok ds =>
      rw [e1] at e
      simp only [R.bind] at e
      split at e
      · cases e; rfl
      · cases e
    | exc c i => rw [e1] at e; cases e
    | bad => rw [e1] at e; cases e
  exact j.imp fun d e p => ⟨isl d e, PostX.toF r.dom p⟩
end

/-! ### all of them -/
def AllE (S : Sig) (e : E) : Prop := ∀ (Γ : Gam) (W : List Nat) (Wx : WX) (X : Cx), Cxt S Γ W Wx X → ∀ x, chkE Γ e x = true → Snd S Γ W Wx X e x ∧ (tOk e = true → ndj W (pk e) → PT X x (tT S Wx X.K W e))
def AllEs (S : Sig) (es : Es) : Prop := (∀ e, esHas e es → AllE S e) ∧ ∀ (Γ : Gam) (W : List Nat) (Wx : WX) (X : Cx), Cxt S Γ W Wx X → ∀ as, chkEs Γ es as = true →
  (ndj W (escs es) → PA X as (tAs S Wx X.K W es)) ∧ (ndj W (pks es) → PA X as (tAp S Wx X.K W es))
def AllEd (S : Sig) (d : Ed) : Prop := ∀ (Γ : Gam) (W : List Nat) (Wx : WX) (X : Cx), Cxt S Γ W Wx X → ∀ as, chkEd Γ d as = true → ndj W (escd d) → PA X as (tEd S Wx X.K W d)
def AllKv (S : Sig) (p : Kv) : Prop := ∀ (Γ : Gam) (W : List Nat) (Wx : WX) (X : Cx), Cxt S Γ W Wx X → ∀ pos ks vs, chkKv Γ p ks vs = true → ndj W (escp p) → PPs X pos ks vs (tKv S Wx X.K W p)
def AllEo (S : Sig) (eo : Eo) : Prop := ∀ (Γ : Gam) (W : List Nat) (Wx : WX) (X : Cx), Cxt S Γ W Wx X → (∀ x, chkEo Γ eo x = true → ndj W (esco eo) → PO X x (tEo S Wx X.K W eo)) ∧ (∀ ifs, chkC Γ eo ifs = true → ndj W (esco eo) → PTs X ifs (tCs S Wx X.K W eo))
def AllIt (S : Sig) (it : It) : Prop := ∀ (Γ : Gam) (W : List Nat) (Wx : WX) (X : Cx) (tk : Bool), Cxt S Γ W Wx X → ∀ t i, chkIt Γ it t i = true → ndj W (escItM tk it) → PI X t i (tI S Wx X.K W tk it)
/-- of plain ones -/
theorem allE_plain {S : Sig} {e : E} (h : ∀ (Γ : Gam) (W : List Nat) (Wx : WX) (X : Cx), Cxt S Γ W Wx X → ∀ x, chkE Γ e x = true → Snd S Γ W Wx X e x)
    (hw : ∀ (Γ : Gam) (x : Expr), chkE Γ e x = true → ∀ (env : PySem.Env) whole, isTrue x env whole = (do let v ← whole; standAt x.pos; holding [v] (truthy v))) : AllE S e :=
  fun Γ W Wx X C x c => ⟨h Γ W Wx X C x c, fun _ n => snd_test (hw Γ x c X.env) ((h Γ W Wx X C x c).lk n)⟩
theorem esc_ne {W : List Nat} {e : E} (v : isVar e = false) (n : ndj W (pk e)) : ndj W (esc e) := by
  rw [esc_pk v]
  exact n
theorem ands_nil {Γ : Gam} {S : Sig} {ρ : Env} : evAnds S .nil ρ = .bad := by simp [evAnds]
mutual
theorem allE (S : Sig) : ∀ e : E, AllE S e
  | .var i => allE_plain (fun Γ W Wx X C x c => snd_var C c) fun Γ x c env wh => by cases x <;> first | (simp [chkE] at c; done) | rfl
  | .int i => allE_plain (fun Γ W Wx X C x c => by
      cases x <;> first | (simp [chkE] at c; done) | skip
      rename_i v k pos
      cases v <;> first | (simp [chkE] at c; done) | skip
      simp only [chkE, decide_eq_true_eq] at c
      subst c
      exact snd_const rfl rfl pe_int (fun ρ => by simp only [evE]) fun O H => .int _) fun Γ x c env wh => by cases x <;> first | (simp [chkE] at c; done) | rfl
  | .bl b => allE_plain (fun Γ W Wx X C x c => by
      cases x <;> first | (simp [chkE] at c; done) | skip
      rename_i v k pos
      cases v <;> first | (simp [chkE] at c; done) | skip
      simp only [chkE, decide_eq_true_eq] at c
      subst c
      exact snd_const rfl rfl pe_bl (fun ρ => by simp only [evE]) fun O H => .bl _) fun Γ x c env wh => by cases x <;> first | (simp [chkE] at c; done) | rfl
  | .non => allE_plain (fun Γ W Wx X C x c => by
      cases x <;> first | (simp [chkE] at c; done) | skip
      rename_i v k pos
      cases v <;> first | (simp [chkE] at c; done) | skip
      exact snd_const rfl rfl pe_non (fun ρ => by simp only [evE]) fun O H => .non) fun Γ x c env wh => by cases x <;> first | (simp [chkE] at c; done) | rfl
  | .str s => allE_plain (fun Γ W Wx X C x c => by
      cases x <;> first | (simp [chkE] at c; done) | skip
      rename_i v k pos
      cases v <;> first | (simp [chkE] at c; done) | skip
      simp only [chkE, Bool.and_eq_true, decide_eq_true_eq] at c
      obtain ⟨rfl, c⟩ := c
      exact snd_const rfl rfl pe_str (fun ρ => by simp only [evE]) fun O H => .str _ c) fun Γ x c env wh => by cases x <;> first | (simp [chkE] at c; done) | rfl
  | .glob n => allE_plain (fun Γ W Wx X C x c => snd_glob C c) fun Γ x c env wh => by cases x <;> first | (simp [chkE] at c; done) | rfl
  | .tup es => allE_plain (fun Γ W Wx X C x c => snd_tup c fun as h n => ((allEs S es).2 Γ W Wx X C as h).1 n) fun Γ x c env wh => by cases x <;> first | (simp [chkE] at c; done) | rfl
  | .lst es => allE_plain (fun Γ W Wx X C x c => snd_lst c fun as h n => ((allEs S es).2 Γ W Wx X C as h).1 n) fun Γ x c env wh => by cases x <;> first | (simp [chkE] at c; done) | rfl
  | .bin o a b => allE_plain (fun Γ W Wx X C x c => snd_bin c (fun y h => (allE S a Γ W Wx X C y h).1) fun y h => (allE S b Γ W Wx X C y h).1) fun Γ x c env wh => by cases x <;> first | (simp [chkE] at c; done) | rfl
  | .neg a => allE_plain (fun Γ W Wx X C x c => snd_neg c fun y h => (allE S a Γ W Wx X C y h).1) fun Γ x c env wh => by
      cases x <;> first | (simp [chkE] at c; done) | skip
      rename_i p y pos
      cases p <;> first | (simp [chkE] at c; done) | rfl
  | .cmp o a b => fun Γ W Wx X C x c => ⟨(snd_cmp C c (fun y h => (allE S a Γ W Wx X C y h).1) fun y h => (allE S b Γ W Wx X C y h).1).1,
      fun _ n => (snd_cmp C c (fun y h => (allE S a Γ W Wx X C y h).1) fun y h => (allE S b Γ W Wx X C y h).1).2 (esc_ne rfl n)⟩
  | .chn o q a b d => fun Γ W Wx X C x c => ⟨(snd_chn C c (fun y h => (allE S a Γ W Wx X C y h).1) (fun y h => (allE S b Γ W Wx X C y h).1) fun y h => (allE S d Γ W Wx X C y h).1).1,
      fun _ n => (snd_chn C c (fun y h => (allE S a Γ W Wx X C y h).1) (fun y h => (allE S b Γ W Wx X C y h).1) fun y h => (allE S d Γ W Wx X C y h).1).2 (esc_ne rfl n)⟩
  | .isN a => fun Γ W Wx X C x c => ⟨(snd_isN c fun y h => (allE S a Γ W Wx X C y h).1).1, fun _ n => (snd_isN c fun y h => (allE S a Γ W Wx X C y h).1).2 (esc_ne rfl n)⟩
  | .noN a => fun Γ W Wx X C x c => ⟨(snd_noN c fun y h => (allE S a Γ W Wx X C y h).1).1, fun _ n => (snd_noN c fun y h => (allE S a Γ W Wx X C y h).1).2 (esc_ne rfl n)⟩
  | .isB b a => fun Γ W Wx X C x c => ⟨(snd_isB c fun y h => (allE S a Γ W Wx X C y h).1).1, fun _ n => (snd_isB c fun y h => (allE S a Γ W Wx X C y h).1).2 (esc_ne rfl n)⟩
  | .noB b a => fun Γ W Wx X C x c => ⟨(snd_noB c fun y h => (allE S a Γ W Wx X C y h).1).1, fun _ n => (snd_noB c fun y h => (allE S a Γ W Wx X C y h).1).2 (esc_ne rfl n)⟩
  | .ands es => fun Γ W Wx X C x c => by
      cases x <;> first | (simp [chkE] at c; done) | skip
      rename_i op as pos
      cases op <;> first | (simp [chkE] at c; done) | skip
      simp only [chkE] at c
      by_cases e : es = .nil
      · subst e
        refine ⟨Snd.of rfl fun _ => ⟨fun _ _ _ => False, ⟨fun _ _ _ _ _ _ z => z.elim⟩, fun σ H Q z => ?_, fun f => nomatch f⟩, fun _ _ => ⟨fun _ _ _ _ _ _ z => ?_⟩⟩
        · obtain ⟨ρ, O, H0, r, j⟩ := z
          simp only [evE, evAnds] at j
          exact j
        · obtain ⟨ρ, O, H0, r, j⟩ := z
          simp only [evE, evAnds] at j
          exact j.elim
      · have hx := allEs S es
        refine ⟨Snd.of rfl fun n => ⟨_, snd_ands es as c (fun e y m h n => (hx.1 e m Γ W Wx X C y h).1.tk n) n e, fun _ _ _ z => z, fun f => nomatch f⟩, fun t n => (snd_andsT es as c (by simpa [tOk] using t) (fun e y m h t n => (hx.1 e m Γ W Wx X C y h).2 t (pk_of n)) n e).pt⟩
  | .ors es => fun Γ W Wx X C x c => by
      cases x <;> first | (simp [chkE] at c; done) | skip
      rename_i op as pos
      cases op <;> first | (simp [chkE] at c; done) | skip
      simp only [chkE] at c
      by_cases e : es = .nil
      · subst e
        refine ⟨Snd.of rfl fun _ => ⟨fun _ _ _ => False, ⟨fun _ _ _ _ _ _ z => z.elim⟩, fun σ H Q z => ?_, fun f => nomatch f⟩, fun _ _ => ⟨fun _ _ _ _ _ _ z => ?_⟩⟩
        · obtain ⟨ρ, O, H0, r, j⟩ := z
          simp only [evE, evOrs] at j
          exact j
        · obtain ⟨ρ, O, H0, r, j⟩ := z
          simp only [evE, evOrs] at j
          exact j.elim
      · have hx := allEs S es
        refine ⟨Snd.of rfl fun n => ⟨_, snd_ors es as c (fun e y m h n => (hx.1 e m Γ W Wx X C y h).1.tk n) n e, fun _ _ _ z => z, fun f => nomatch f⟩, fun t n => (snd_orsT es as c (by simpa [tOk] using t) (fun e y m h t n => (hx.1 e m Γ W Wx X C y h).2 t (pk_of n)) n e).pt⟩
  | .nt a => fun Γ W Wx X C x c => ⟨snd_nt c fun y h => (allE S a Γ W Wx X C y h).1, fun t n => snd_ntT c fun y h => (allE S a Γ W Wx X C y h).2 (by simpa [tOk] using t) n⟩
  | .ite q a b => fun Γ W Wx X C x c => ⟨snd_ite c (fun y h t n => (allE S q Γ W Wx X C y h).2 t n) (fun y h => (allE S a Γ W Wx X C y h).1) fun y h => (allE S b Γ W Wx X C y h).1, fun t => by simp [tOk] at t⟩
  | .ix a b => allE_plain (fun Γ W Wx X C x c => snd_ix C c (fun y h => (allE S a Γ W Wx X C y h).1) fun y h => (allE S b Γ W Wx X C y h).1) fun Γ x c env wh => by cases x <;> first | (simp [chkE] at c; done) | rfl
  | .sl a lo hi => allE_plain (fun Γ W Wx X C x c => snd_sl c (fun y h => (allE S a Γ W Wx X C y h).1) (fun y h n => (allEo S lo Γ W Wx X C).1 y h n) fun y h n => (allEo S hi Γ W Wx X C).1 y h n) fun Γ x c env wh => by cases x <;> first | (simp [chkE] at c; done) | rfl
  | .call f es => allE_plain (fun Γ W Wx X C x c => snd_call C c fun as h n => ((allEs S es).2 Γ W Wx X C as h).1 n) fun Γ x c env wh => by cases x <;> first | (simp [chkE] at c; done) | rfl
  | .bi b es => allE_plain (fun Γ W Wx X C x c => snd_bi C c fun as h n => ((allEs S es).2 Γ W Wx X C as h).2 n) fun Γ x c env wh => by cases x <;> first | (simp [chkE] at c; done) | rfl
  | .comp elt tg it cs own => allE_plain (fun Γ W Wx X C x c => snd_comp C c (fun t i h n => allIt S it Γ W Wx X false C t i h n) (fun Γ' X' C' ifs h n => (allEo S cs Γ' W W0 X' C').2 ifs h n) fun Γ' X' C' y h => (allE S elt Γ' W W0 X' C' y h).1) fun Γ x c env wh => by cases x <;> first | (simp [chkE] at c; done) | rfl
  | .disp l d => allE_plain (fun Γ W Wx X C x c => snd_disp c fun as h n => allEd S d Γ W Wx X C as h n) fun Γ x c env wh => by
      cases l <;> cases x <;> first | (simp [chkE] at c; done) | rfl
  | .dct p => allE_plain (fun Γ W Wx X C x c => snd_dct c fun pos ks vs h n => allKv S p Γ W Wx X C pos ks vs h n) fun Γ x c env wh => by
      cases x <;> first | (simp [chkE] at c; done) | rfl
theorem allKv (S : Sig) : ∀ p : Kv, AllKv S p
  | .nil => fun Γ W Wx X C pos ks vs c _ => by
      cases ks <;> cases vs <;> first | (simp [chkKv] at c; done) | exact pps_nil
  | .cons k v r => fun Γ W Wx X C pos ks vs c n => by
      rcases ks with _ | ⟨a, ks⟩ <;> first | (simp [chkKv] at c; done) | skip
      cases a <;> first | (simp [chkKv] at c; done) | skip
      cases vs <;> first | (simp [chkKv] at c; done) | skip
      simp only [chkKv, Bool.and_eq_true] at c
      exact pps_cons ((allE S k Γ W Wx X C _ c.1).1.lk n.l) ((allE S v Γ W Wx X C _ c.2.1).1.tk n.r.l) (allKv S r Γ W Wx X C pos ks _ c.2.2 n.r.r)
theorem allEd (S : Sig) : ∀ d : Ed, AllEd S d
  | .nil => fun Γ W Wx X C as c _ => by
      cases as with
      | cons _ _ => simp [chkEd] at c
      | nil =>
        refine PA.mono pa_nil fun σ H Q q => ?_
        obtain ⟨ρ, O, H0, r, j⟩ := q
        simp only [evEd] at j
        exact j [] H (Same.refl H) .nil
  | .one e r => fun Γ W Wx X C as c n => by
      cases as with
      | nil => simp [chkEd] at c
      | cons y ys =>
        simp only [chkEd, Bool.and_eq_true] at c
        refine PA.mono (pa_cons ((allE S e Γ W Wx X C y c.1).1.tk n.l) (allEd S r Γ W Wx X C ys c.2 n.r) (star_of (okX_of c.1) ys X.env)) fun σ H Q q => ?_
        obtain ⟨ρ, O, H0, r', j⟩ := q
        simp only [evEd] at j
        refine tE.seq r' j fun d v H1 e1 s1 r1 rl1 j1 => ⟨ρ, O, H0, rl1, (j1.same s1 (fun _ p => p)).bind.imp fun ds e2 p vs H2 s2 rs => ?_⟩
        exact p (v :: vs) H2 (s1.trans s2) (.cons (r1.same s2) rs)
  | .star e r => fun Γ W Wx X C as c n => by
      cases as with
      | nil => simp [chkEd] at c
      | cons y ys =>
        cases y <;> first | (simp [chkEd] at c; done) | skip
        rename_i y yp
        simp only [chkEd, Bool.and_eq_true] at c
        refine PA.mono (StX.pa_star ((allE S e Γ W Wx X C y c.1).1.lk n.l) (allEd S r Γ W Wx X C ys c.2 n.r)) fun σ H Q q => ?_
        obtain ⟨ρ, O, H0, r', j⟩ := q
        simp only [evEd] at j
        refine tP.seq r' j fun d v H1 e1 s1 r1 rl1 j1 => ?_
        cases d <;> first | exact j1.elim | skip
        · rename_i items
          obtain ⟨a, xs, rfl, h1, rx⟩ := r1.list
          refine ⟨a, xs, rfl, .inr (.inl h1), ρ, O, H0, rl1, ?_⟩
          have j2 : JG Wx X.K σ H (fun ds => ∀ vs H', Same H H' → RXs X.K O H' vs ds → Q vs H') ((evEd S r ρ).bind fun ds => .ok (items ++ ds)) := j1
          exact (j2.same s1 (fun _ p => p)).bind.imp fun ds e2 p vs H2 s2 rs => p (xs ++ vs) H2 (s1.trans s2) ((rx.same s2).append rs)
        · rename_i items
          obtain ⟨a, xs, rfl, h1, rx⟩ := r1.tup
          refine ⟨a, xs, rfl, .inl h1, ρ, O, H0, rl1, ?_⟩
          have j2 : JG Wx X.K σ H (fun ds => ∀ vs H', Same H H' → RXs X.K O H' vs ds → Q vs H') ((evEd S r ρ).bind fun ds => .ok (items ++ ds)) := j1
          exact (j2.same s1 (fun _ p => p)).bind.imp fun ds e2 p vs H2 s2 rs => p (xs ++ vs) H2 (s1.trans s2) ((rx.same s2).append rs)
theorem allEs (S : Sig) : ∀ es : Es, AllEs S es
  | .nil => ⟨fun e h => h.elim, fun Γ W Wx X C as c => by
      cases as with
      | cons _ _ => simp [chkEs] at c
      | nil =>
        refine ⟨fun _ => PA.mono pa_nil fun σ H Q q => ?_, fun _ => PA.mono pa_nil fun σ H Q q => ?_⟩
        · obtain ⟨ρ, O, H0, r, j⟩ := q
          simp only [evEs] at j
          exact j [] H (Same.refl H) .nil
        · obtain ⟨ρ, O, H0, r, j⟩ := q
          simp only [evEs] at j
          exact j [] H (Same.refl H) .nil⟩
  | .cons e r => ⟨fun a h => h.elim (fun h => h ▸ allE S e) fun h => (allEs S r).1 a h, fun Γ W Wx X C as c => by
      cases as with
      | nil => simp [chkEs] at c
      | cons y ys =>
        simp only [chkEs, Bool.and_eq_true] at c
        have h1 := (allE S e Γ W Wx X C y c.1).1
        have h2 := (allEs S r).2 Γ W Wx X C ys c.2
        refine ⟨fun n => PA.mono (pa_cons (h1.tk n.l) (h2.1 n.r) (star_of (okX_of c.1) ys X.env)) fun σ H Q q => ?_, fun n => PA.mono (pa_cons (h1.lk n.l) (h2.2 n.r) (star_of (okX_of c.1) ys X.env)) fun σ H Q q => ?_⟩
        · obtain ⟨ρ, O, H0, r', j⟩ := q
          simp only [evEs] at j
          refine tE.seq r' j fun d v H1 e1 s1 r1 rl1 j1 => ⟨ρ, O, H0, rl1, (j1.same s1 (fun _ p => p)).bind.imp fun ds e2 p vs H2 s2 rs => ?_⟩
          exact p (v :: vs) H2 (s1.trans s2) (.cons (r1.same s2) rs)
        · obtain ⟨ρ, O, H0, r', j⟩ := q
          simp only [evEs] at j
          refine tP.seq r' j fun d v H1 e1 s1 r1 rl1 j1 => ⟨ρ, O, H0, rl1, (j1.same s1 (fun _ p => p)).bind.imp fun ds e2 p vs H2 s2 rs => ?_⟩
          exact p (v :: vs) H2 (s1.trans s2) (.cons (r1.same s2) rs)⟩
theorem allEo (S : Sig) : ∀ eo : Eo, AllEo S eo
  | .none => fun Γ W Wx X C => ⟨fun x c _ => by
      cases x <;> first | (simp [chkEo] at c; done) | skip
      refine PO.mono po_none fun σ H Q q => ?_
      obtain ⟨ρ, O, H0, r, j⟩ := q
      simp only [evEo] at j
      exact j H (Same.refl H), fun ifs c _ => by
      cases ifs <;> first | (simp [chkC] at c; done) | skip
      refine ⟨fun pins s σ H Q I q => pts_nil.run pins s σ H Q I ?_⟩
      obtain ⟨ρ, O, H0, r, j⟩ := q
      simp only [evC] at j
      exact j H (Same.refl H)⟩
  | .some e => fun Γ W Wx X C => ⟨fun x c n => by
      cases x <;> first | (simp [chkEo] at c; done) | skip
      rename_i y
      simp only [chkEo] at c
      refine PO.mono (po_some ((allE S e Γ W Wx X C y c).1.tk n)) fun σ H Q q => ?_
      obtain ⟨ρ, O, H0, r, j⟩ := q
      simp only [evEo] at j
      refine tE.seq r j fun d v H1 e1 s1 r1 rl1 j1 => ?_
      cases d <;> first | exact j1.elim | skip
      cases r1
      exact ⟨_, rfl, j1 H1 s1⟩, fun ifs c n => by
      rcases ifs with _ | ⟨y, _ | _⟩ <;> first | (simp [chkC] at c; done) | skip
      simp only [chkC, Bool.and_eq_true] at c
      refine ⟨fun pins s σ H Q I q => (pts_one ((allE S e Γ W Wx X C y c.1).2 c.2 (pk_of n))).run pins s σ H Q I ?_⟩
      obtain ⟨ρ, O, H0, r, j⟩ := q
      simp only [evC] at j
      refine ⟨ρ, O, H0, r, j.bind.imp fun d e1 p => ?_⟩
      cases d <;> first | exact p.elim | skip
      exact ⟨_, rfl, fun H' s => p H' s⟩⟩
theorem allIt (S : Sig) : ∀ it : It, AllIt S it
  | .e a => fun Γ W Wx X tk C t i c n => snd_it_e c (allE S a Γ W Wx X C i (by simpa [chkIt] using c)).1 n
  | .r1 a => fun Γ W Wx X tk C t i c n => snd_it_r1 C c (fun y h => (allE S a Γ W Wx X C y h).1) n
  | .r2 a b => fun Γ W Wx X tk C t i c n => snd_it_r2 C c (fun y h => (allE S a Γ W Wx X C y h).1) (fun y h => (allE S b Γ W Wx X C y h).1) n
  | .r3 a b d => fun Γ W Wx X tk C t i c n => snd_it_r3 C c (fun y h => (allE S a Γ W Wx X C y h).1) (fun y h => (allE S b Γ W Wx X C y h).1) (fun y h => (allE S d Γ W Wx X C y h).1) n
  | .zip a b => fun Γ W Wx X tk C t i c n => snd_it_zip C c (fun y h => (allE S a Γ W Wx X C y h).1) (fun y h => (allE S b Γ W Wx X C y h).1) n
  | .enum a => fun Γ W Wx X tk C t i c n => snd_it_enum C c (fun y h => (allE S a Γ W Wx X C y h).1) n
end
end Fe
set_option Elab.async false
set_option linter.all false
set_option maxRecDepth 100000
set_option maxHeartbeats 4000000
/-! Fe, part H: statements. -/
namespace Fe
open PySem PySem.Spec PyProof.Rows L2

/-- the slots that hold own things, and what the slots hold -/
abbrev Sta := List Nat × Env
inductive SR where
  | nx (s : Sta)
  | rt (d : PD)
  | bk (s : Sta)
  | ct (s : Sta)
  | exc (c : Str) (i : Int) (s : Sta)
  | bad
/-- what an except clause answers: e.at | (text, e.at) -/
inductive Hr where
  | at
  | pair (x : Str)
mutual
inductive Sm where
  | set (i : Nat) (e : E)
  | setF (i : Nat) (e : E)
  | par (is : List Nat) (es : Es)
  | unp (t : Tg) (e : E)
  | setIx (i : Nat) (k e : E)
  | app (i : Nat) (e : E)
  | ext (i : Nat) (e : E)
  | ret (e : E)
  | retN
  | ifs (c : E) (a b : Ss)
  | for_ (t : Tg) (it : It) (b : Ss)
  | whl (n : Nat) (c : E) (b : Ss)
  | ex (e : E)
  | rai (c : Str) (e : E)
  | tri (b : Ss) (i : Nat) (hs : List (Str × Hr))
  | pass
  | brk
  | cont
inductive Ss where
  | nil
  | cons (s : Sm) (r : Ss)
end

/-! ### the evaluator of statements -/
def dl (W l : List Nat) : List Nat := W.filter fun i => decide (i ∉ l)
def R.s {α : Type} (r : R α) (s : Sta) (f : α → SR) : SR := match r with
  | .ok a => f a
  | .exc c i => .exc c i s
  | .bad => .bad
def SR.seq (r : SR) (f : Sta → SR) : SR := match r with
  | .nx s => f s
  | r => r
def setL : List Nat → List PD → Env → Env
  | i :: is, d :: ds, ρ => setL is ds (ρ.set i (some d))
  | _, _, ρ => ρ
def forGo (t : Tg) (f : Sta → SR) : List PD → Sta → SR
  | [], s => .nx s
  | d :: ds, s => match tgSet t d s.2 with
    | none => .bad
    | some ρ1 => match f (s.1, ρ1) with
      | .nx s' => forGo t f ds s'
      | .ct s' => forGo t f ds s'
      | .bk s' => .nx s'
      | r => r
def whGo (l : List Nat) (c : Env → R Bool) (f : Sta → SR) : Nat → Sta → SR
  | 0, _ => .bad
  | n + 1, s => (c s.2).s s fun k => if k then (match f (dl s.1 l, s.2) with
      | .nx s' => whGo l c f n s'
      | .ct s' => whGo l c f n s'
      | .bk s' => .nx s'
      | r => r) else .nx (dl s.1 l, s.2)
def putV (d k x : PD) : Option PD := match d, k with
  | .list ds, .int n => (ixN ds.length n).map fun j => .list (ds.set j x)
  | .dict ((k0, v0) :: kvs), k => if (keyOf k0).isSome && ((keyOf k).isSome && decide (kvs.length + 1 < sLine)) then some (.dict (putP ((k0, v0) :: kvs) k x)) else none
  | _, _ => none
def hrV : Hr → Int → PD
  | .at, i => .int i
  | .pair x, i => .tuple [.str x, .int i]
def triGo (sub : Str → Str → Option Bool) (c : Str) (i : Int) (s : Sta) : List (Str × Hr) → SR
  | [] => .exc c i s
  | (x, h) :: r => match sub c x with
    | some true => .rt (hrV h i)
    | some false => triGo sub c i s r
    | none => .bad
mutual
def evS (S : Sig) : Sm → Sta → SR
  | .set i e, s => (evE S e s.2).s s fun d => .nx (dl s.1 (i :: esc e), s.2.set i (some d))
  | .setF i e, s => (evE S e s.2).s s fun d => if isL d && decide (i < s.2.length) then .nx (i :: dl s.1 (i :: esc e), s.2.set i (some d)) else .bad
  | .par is es, s => (evEs S es s.2).s s fun ds => .nx (dl s.1 (is ++ escs es), setL is ds s.2)
  | .unp t e, s => (evE S e s.2).s s fun d => match tgSet t d s.2 with
    | some ρ => .nx (dl s.1 (esc e), ρ)
    | none => .bad
  | .setIx i k e, s => (evE S e s.2).s s fun x => match s.2[i]? with
      | some (some d) => if decide (i ∈ dl s.1 (esc e ++ pk k)) then (evE S k s.2).s s fun y => (match putV d y x with
        | some d' => .nx (dl s.1 (esc e ++ pk k), s.2.set i (some d'))
        | none => .bad) else .bad
      | _ => .bad
  | .app i e, s => match s.2[i]? with
      | some (some (.list ds)) => if decide (i ∈ dl s.1 (esc e)) then (evE S e s.2).s s fun x =>
        if decide (ds.length < sLine) then .nx (dl s.1 (esc e), s.2.set i (some (.list (ds ++ [x])))) else .bad
        else .bad
      | _ => .bad
  | .ext i e, s => match s.2[i]? with
      | some (some (.list ds)) => if decide (i ∈ dl s.1 (esc e)) then (evE S e s.2).s s fun x => (match x with
        | .list xs => if decide (ds.length + xs.length ≤ sLine) then .nx (dl s.1 (esc e), s.2.set i (some (.list (ds ++ xs)))) else .bad
        | _ => .bad) else .bad
      | _ => .bad
  | .ret e, s => (evE S e s.2).s s fun d => .rt d
  | .retN, _ => .rt .none
  | .ifs c a b, s => ((evE S c s.2).bind boolOf).s s fun k => if k then evSs S a (dl s.1 (pk c), s.2) else evSs S b (dl s.1 (pk c), s.2)
  | .for_ t it b, s => (evIt S it s.2).s s fun items => forGo t (evSs S b) items (dl s.1 (escItM true it), s.2)
  | .whl n c b, s => whGo (pk c) (fun ρ => (evE S c ρ).bind boolOf) (evSs S b) n s
  | .ex e, s => (evE S e s.2).s s fun _ => .nx (dl s.1 (esc e), s.2)
  | .rai c e, s => ((evE S e s.2).bind intOf).s s fun i => .exc c i (dl s.1 (esc e), s.2)
  | .tri b i hs, s => match evSs S b s with
    | .exc c k s' => if decide (i < s'.2.length) then triGo S.X c k s' hs else .bad
    | r => r
  | .pass, s => .nx s
  | .brk, s => .bk s
  | .cont, s => .ct s
def evSs (S : Sig) : Ss → Sta → SR
  | .nil, s => .nx s
  | .cons a r, s => match evS S a s with
    | .nx s' => evSs S r s'
    | z => z
end

/-! ### what stands while a body runs -/
/-- F stays as things are owned, written or let go -/
structure Frm (F : (Addr → Prop) → Hp → Prop) (Oc : Addr → Prop) (H0 : Hp) : Prop where
  lift : ∀ O H O' H', Lift O H O' H' → F O H → F O' H'
  dom : Dom Oc H0
structure RelS (F : (Addr → Prop) → Hp → Prop) (Γ : Gam) (K : PySem.W.Frag) (Oc : Addr → Prop) (H0 : Hp) (s : Sta) (σ : L2.St) (H : Hp) : Prop where
  ex : ∃ O, F O H ∧ (∀ a, Oc a → O a) ∧ Rel K s.1 O H0 s.2 σ H
  sub : ∀ i ∈ s.1, i ∈ Γ.W
def JS (F : (Addr → Prop) → Hp → Prop) (Γ : Gam) (Wx : WX) (K : PySem.W.Frag) (Oc : Addr → Prop) (H0 : Hp) (D : Ends) : SR → Prop
  | .nx s => ∀ σ H, RelS F Γ K Oc H0 s σ H → D.nx σ H
  | .rt d => ∀ v H, Same H0 H → RX K Oc H v d → D.rt v H
  | .bk s => ∀ σ H, RelS F Γ K Oc H0 s σ H → D.bk σ H
  | .ct s => ∀ σ H, RelS F Γ K Oc H0 s σ H → D.ct σ H
  | .exc c i s => ∀ σ H cls dd, RelS F Γ K Oc H0 s σ H → XRep K H cls dd c i → Wx cls dd σ H
  | .bad => False
def tS (S : Sig) (Wx : WX) (K : PySem.W.Frag) (Γ : Gam) (st : Sm) : TS := fun D σ H => ∃ F Oc H0 s, Frm F Oc H0 ∧ RelS F Γ K Oc H0 s σ H ∧ JS F Γ Wx K Oc H0 D (evS S st s)
def tSs (S : Sig) (Wx : WX) (K : PySem.W.Frag) (Γ : Gam) (st : Ss) : TS := fun D σ H => ∃ F Oc H0 s, Frm F Oc H0 ∧ RelS F Γ K Oc H0 s σ H ∧ JS F Γ Wx K Oc H0 D (evSs S st s)

theorem mem_dl {W l : List Nat} {i : Nat} : i ∈ dl W l ↔ i ∈ W ∧ i ∉ l := by simp [dl]
theorem ndj_dl {W l m : List Nat} (h : ∀ i ∈ m, i ∈ l) : ndj (dl W l) m := fun i hi z => (mem_dl.mp z).2 (h i hi)
/-- own things are let go -/
theorem Rel.unown {K : PySem.W.Frag} {W : List Nat} {O Oc : Addr → Prop} {H0 : Hp} {ρ : Env} {σ : L2.St} {H : Hp} (r : Rel K W O H0 ρ σ H) (l : List Nat) (hc : ∀ a, Oc a → O a) (hd : Dom Oc H0) :
    ∃ O', (∀ a, O' a → O a) ∧ (∀ a, Oc a → O' a) ∧ Rel K (dl W l) O' H0 ρ σ H := by
  let O' : Addr → Prop := fun a => O a ∧ ¬ ∃ i d, i ∈ W ∧ i ∈ l ∧ ρ[i]? = some (some d) ∧ σ[i]? = some (some (.ref a))
  have L : Lift O H O' H := Lift.less fun _ h => h.1
  refine ⟨O', fun _ h => h.1, fun a h => ⟨hc a h, fun ⟨i, d, h1, _, h3, h4⟩ => ?_⟩, r.len, fun i d n e => ?_, fun i d n e => ?_, fun a h => r.dom a h.1, r.sam⟩
  · obtain ⟨b, e1, _, e2, _⟩ := r.own i d h1 h3
    rw [e1] at h4
    have : b = a := by simpa using h4
    exact hd a h (this ▸ e2)
  · by_cases c : i ∈ W
    · have il : i ∈ l := by
        by_cases z : i ∈ l
        · exact z
        · exact absurd (mem_dl.mpr ⟨c, z⟩) n
      obtain ⟨a, e1, h1, h2, h3, h4⟩ := r.own i d c e
      exact ⟨_, e1, (h3.lift L rfl).rx fun z => z.2 ⟨i, d, c, il, e, e1⟩⟩
    · obtain ⟨v, e1, h⟩ := r.val i d c e
      exact ⟨v, e1, h.lift L⟩
  · obtain ⟨c, il⟩ := mem_dl.mp n
    obtain ⟨a, e1, h1, h2, h3, h4⟩ := r.own i d c e
    refine ⟨a, e1, ⟨h1, fun ⟨j, d', g1, g2, g3, g4⟩ => ?_⟩, h2, h3.lift L rfl, fun j e2 hj ne h5 => h4 j e2 (mem_dl.mp hj).1 ne h5⟩
    exact h4 j d' g1 (fun z => il (z ▸ g2)) g3 g4
/-- an own thing is written -/
theorem Rel.write {K : PySem.W.Frag} {W : List Nat} {O : Addr → Prop} {H0 : Hp} {ρ : Env} {σ : L2.St} {H : Hp} {i : Nat} {d d' : PD} {a : Addr} {o : HO} (r : Rel K W O H0 ρ σ H) (hi : i ∈ W) (e : ρ[i]? = some (some d))
    (ea : σ[i]? = some (some (.ref a))) (ho : Own K O (upd H a o) a d') : Rel K W O H0 (ρ.set i (some d')) σ (upd H a o) ∧ Lift O H O (upd H a o) := by
  obtain ⟨b, e1, h1, h2, h3, h4⟩ := r.own i d hi e
  rw [e1] at ea
  have : b = a := by simpa using ea
  subst this
  obtain ⟨u, g1, g2⟩ := h3.mut
  have L : Lift O H O (upd H b o) := Lift.upd h1 g1 g2
  refine ⟨⟨by simp [r.len], fun j e2 hj h => ?_, fun j e2 hj h => ?_, fun c hc => ?_, fun c x hx => ?_⟩, L⟩
  · have ne : i ≠ j := fun z => hj (z ▸ hi)
    rw [get_set, if_neg ne] at h
    obtain ⟨v, k1, k2⟩ := r.val j e2 hj h
    exact ⟨v, k1, k2.lift L⟩
  · by_cases c : i = j
    · subst c
      have il : i < ρ.length := by
        by_cases z : i < ρ.length
        · exact z
        · rw [List.getElem?_eq_none (by omega)] at e; cases e
      rw [get_set, if_pos rfl, if_pos il] at h
      have : d' = e2 := by simpa using h
      subst this
      refine ⟨b, e1, h1, h2, ho, fun k e3 hk nk h6 => ?_⟩
      rw [get_set, if_neg (fun z => nk z.symm)] at h6
      exact h4 k e3 hk nk h6
    · rw [get_set, if_neg c] at h
      obtain ⟨a', k1, k2, k3, k4, k5⟩ := r.own j e2 hj h
      have ne : a' ≠ b := fun z => k5 i d hi c e (by rw [e1, z])
      refine ⟨a', k1, k2, k3, k4.lift L (upd_ne ne), fun k e3 hk nk h6 => ?_⟩
      rw [get_set] at h6
      split at h6
      · rename_i z
        subst z
        intro z
        rw [e1] at z
        exact ne (by simpa using z.symm)
      · exact k5 k e3 hk nk h6
  · by_cases z : c = b
    · rw [z, upd_same]; simp
    · rw [upd_ne z]; exact r.dom c hc
  · rw [upd_ne (ne_of_none hx h2)]
    exact r.sam c x hx
/-- a new thing is put into an own slot -/
theorem Rel.take {K : PySem.W.Frag} {W : List Nat} {O : Addr → Prop} {H0 : Hp} {ρ : Env} {σ : L2.St} {H H' : Hp} {i : Nat} {d : PD} {p : Addr} (r : Rel K W O H0 ρ σ H) (hi : i ∉ W) (il : i < ρ.length) (n : H p = none) (s : Same H H') (ho : Own K (fun b => O b ∨ b = p) H' p d) :
    Rel K (i :: W) (fun b => O b ∨ b = p) H0 (ρ.set i (some d)) (σ.set i (some (.ref p))) H' ∧ Lift O H (fun b => O b ∨ b = p) H' := by
  have L : Lift O H (fun b => O b ∨ b = p) H' := (Lift.own n).trans (Lift.same s)
  have n0 : H0 p = none := by
    cases z : H0 p with
    | none => rfl
    | some u =>
      have := r.sam _ _ z
      rw [n] at this
      cases this
  have il' : i < σ.length := by rw [r.len]; exact il
  have np : ∀ {j : Nat} {e : PD} {a : Addr}, j ∈ W → ρ[j]? = some (some e) → σ[j]? = some (some (.ref a)) → a ≠ p := fun {j e a} hj h1 h2 z => by
    obtain ⟨b, k1, k2, k3, k4, k5⟩ := r.own j e hj h1
    rw [k1] at h2
    have : b = a := by simpa using h2
    obtain ⟨u, g1, _⟩ := k4.mut
    rw [this, z, n] at g1
    cases g1
  refine ⟨⟨by simp [r.len], fun j e2 hj h => ?_, fun j e2 hj h => ?_, fun c hc => ?_, r.sam.trans s⟩, L⟩
  · simp only [List.mem_cons, not_or] at hj
    rw [get_set, if_neg (fun z => hj.1 z.symm)] at h ⊢
    obtain ⟨v, k1, k2⟩ := r.val j e2 hj.2 h
    exact ⟨v, k1, k2.lift L⟩
  · by_cases c : i = j
    · subst c
      rw [get_set, if_pos rfl, if_pos il] at h
      have : d = e2 := by simpa using h
      subst this
      refine ⟨p, by rw [get_set, if_pos rfl, if_pos il'], .inr rfl, n0, ho, fun k e3 hk nk h6 => ?_⟩
      have hk' : k ∈ W := by
        rcases List.mem_cons.mp hk with z | z
        · exact absurd z nk
        · exact z
      rw [get_set, if_neg (fun z => nk z.symm)] at h6 ⊢
      exact fun z => np hk' h6 z rfl
    · have hj' : j ∈ W := by
        rcases List.mem_cons.mp hj with z | z
        · exact absurd z.symm c
        · exact z
      rw [get_set, if_neg c] at h
      obtain ⟨a', k1, k2, k3, k4, k5⟩ := r.own j e2 hj' h
      refine ⟨a', by rw [get_set, if_neg c]; exact k1, .inl k2, k3, k4.lift L ?_, fun k e3 hk nk h6 => ?_⟩
      · obtain ⟨u, g1, _⟩ := k4.mut
        rw [g1, s _ _ g1]
      · rw [get_set] at h6 ⊢
        by_cases ck : i = k
        · rw [if_pos ck, if_pos il']
          intro z
          have : p = a' := by simpa using z
          exact np hj' h k1 this.symm
        · rw [if_neg ck] at h6 ⊢
          rcases List.mem_cons.mp hk with z | z
          · exact absurd z.symm ck
          · exact k5 k e3 z nk h6
  · rcases hc with hc | hc
    · exact (r.dom.same s) c hc
    · rw [hc]
      obtain ⟨u, g1, _⟩ := ho.mut
      rw [g1]; simp
end Fe
set_option Elab.async false
set_option linter.all false
set_option maxRecDepth 100000
set_option maxHeartbeats 4000000
/-! Fe, part I: statements are what the evaluator says. -/
namespace Fe
open PySem PySem.Spec PyProof.Rows L2

/-! ### unions -/
section
variable {X : Cx} {P : List Nat → Prop}
theorem PE.un {e : Expr} {t : List Nat → TE} (h : ∀ W, P W → PE X e (t W)) : PE X e (fun σ H Q => ∃ W, P W ∧ t W σ H Q) := ⟨fun pins s σ H Q I ⟨W, p, q⟩ => (h W p).run pins s σ H Q I q⟩
theorem PT.un {e : Expr} {t : List Nat → TT} (h : ∀ W, P W → PT X e (t W)) : PT X e (fun σ H Q => ∃ W, P W ∧ t W σ H Q) := ⟨fun pins s σ H Q I ⟨W, p, q⟩ => (h W p).run pins s σ H Q I q⟩
theorem PA.un {e : List Expr} {t : List Nat → TA} (h : ∀ W, P W → PA X e (t W)) : PA X e (fun σ H Q => ∃ W, P W ∧ t W σ H Q) := ⟨fun pos pins s σ H Q I ⟨W, p, q⟩ => (h W p).run pos pins s σ H Q I q⟩
theorem PI.un {g e : Expr} {t : List Nat → TI} (h : ∀ W, P W → PI X g e (t W)) : PI X g e (fun σ H Q => ∃ W, P W ∧ t W σ H Q) := ⟨fun pins s σ H Q I ⟨W, p, q⟩ => (h W p).run pins s σ H Q I q⟩
theorem PG.un {e : Expr} {t : List Nat → TG} (h : ∀ W, P W → PG X e (t W)) : PG X e (fun v σ H Q => ∃ W, P W ∧ t W v σ H Q) := ⟨fun pins s σ H v u Q I r ⟨W, p, q⟩ => (h W p).run pins s σ H v u Q I r q⟩
theorem PS.un {e : Stmt} {t : List Nat → TS} (h : ∀ W, P W → PS X e (t W)) : PS X e (fun D σ H => ∃ W, P W ∧ t W D σ H) := ⟨fun pins s σ H Q I ⟨W, p, q⟩ => (h W p).run pins s σ H Q I q⟩
end
section
variable {F : (Addr → Prop) → Hp → Prop} {Γ : Gam} {K : PySem.W.Frag} {Oc : Addr → Prop} {H0 H H' : Hp} {s : Sta} {σ : L2.St} {Wx : WX} {D : Ends}
theorem RelS.same (f : Frm F Oc H0) (r : RelS F Γ K Oc H0 s σ H) (sm : Same H H') : RelS F Γ K Oc H0 s σ H' := by
  obtain ⟨⟨O, h1, h2, h3⟩, h4⟩ := r
  exact ⟨⟨O, f.lift _ _ _ _ (Lift.same sm) h1, h2, h3.same sm⟩, h4⟩
theorem RelS.un (f : Frm F Oc H0) (r : RelS F Γ K Oc H0 s σ H) (l : List Nat) : ∃ O', F O' H ∧ (∀ a, Oc a → O' a) ∧ Rel K (dl s.1 l) O' H0 s.2 σ H := by
  obtain ⟨⟨O, h1, h2, h3⟩, h4⟩ := r
  obtain ⟨O', k1, k2, k3⟩ := h3.unown l h2 f.dom
  exact ⟨O', f.lift _ _ _ _ (Lift.less k1) h1, k2, k3⟩
theorem RelS.subd (r : RelS F Γ K Oc H0 s σ H) (l : List Nat) : ∀ i ∈ dl s.1 l, i ∈ Γ.W := fun i h => r.sub i (mem_dl.mp h).1
theorem JS.jg {α : Type} {r : R α} {g : α → SR} {P : α → Prop} (f : Frm F Oc H0) (rl : RelS F Γ K Oc H0 s σ H) (j : JS F Γ Wx K Oc H0 D (r.s s g)) (k : ∀ a, r = .ok a → JS F Γ Wx K Oc H0 D (g a) → P a) : JG Wx K σ H P r := by
  cases r with
  | ok a => exact k a rfl j
  | exc c i => exact fun cls dd H' sm x => j σ H' cls dd (rl.same f sm) x
  | bad => exact j
end
/-- the slots W, of the mutated ones, away from l -/
def PW' (Γ : Gam) (l : List Nat) (W : List Nat) : Prop := (∀ i ∈ W, i ∈ Γ.W) ∧ ndj W l

/-! ### the check -/
def swB (sc : Scope) (y : Str) (py : Pos) (v : Expr) : Bool := match v with
  | .ListComp _ _ s p => decide (sc.names.lookup y = some .local) && (py.line == p.line && !(s.names.any fun (n, k) => n == y && (k == .local || k == .cell)))
  | _ => false
def headOk (x : Expr) : Bool := match x with
  | .Name .. => true
  | _ => false
/-- no plain local name -/
def notLoc (sc : Scope) : Expr → Bool
  | .Name x _ => !decide (sc.names.lookup x = some .local)
  | _ => true
def chkPar3 (Γ : Gam) (i j l : Nat) (es : Es) : Stmt → Bool
  | .Assign [.Tuple [.Name y p, .Name z q, .Name w r] _ _] (.Tuple [a, b, c] _ _) _ =>
    decide (Γ.N[i]? = some y) && (decide (Γ.N[j]? = some z) && (decide (Γ.N[l]? = some w) && (decide (i ≠ j ∧ i ≠ l ∧ j ≠ l) && (decide (Γ.sc.names.lookup y = some .local) && (decide (Γ.sc.names.lookup z = some .local) && (decide (Γ.sc.names.lookup w = some .local) &&
      (chkEs Γ es [a, b, c] && (p.line == q.line && (p.line == r.line && (!([a, b, c].all (foldedForSure 8)) && !([a, b, c].all (constantsAlone 8)))))))))))) 
  | _ => false
def chkPar (Γ : Gam) (i j : Nat) (es : Es) : Stmt → Bool
  | .Assign [.Tuple [.Name y p, .Name z q] _ _] (.Tuple [a, b] _ _) _ =>
    decide (Γ.N[i]? = some y) && (decide (Γ.N[j]? = some z) && (decide (i ≠ j) && (decide (Γ.sc.names.lookup y = some .local) && (decide (Γ.sc.names.lookup z = some .local) && (chkEs Γ es [a, b] && (p.line == q.line && (!([a, b].all (foldedForSure 8)) && !([a, b].all (constantsAlone 8)))))))))
  | _ => false
def chkRai (Γ : Gam) (c : Str) (e : E) : Stmt → Bool
  | .Raise (some (.Call (.Name y _) [v] [] _)) none _ => decide (c = y) && (decide (c ∈ Γ.C) && (glb Γ.sc c && (nodb c && chkE Γ e v)))
  | _ => false
/-- e.at | (text, e.at) -/
def chkHr (n : Str) : Hr → Expr → Bool
  | .at, .Attribute (.Name y _) m _ => decide (y = n) && decide (m = ("at" : Str))
  | .pair x, .Tuple [.Constant (.str z) _ _, .Attribute (.Name y _) m _] _ _ => decide (x = z) && (PyData.strOk x && (decide (y = n) && decide (m = ("at" : Str))))
  | _, _ => false
def chkHd (Γ : Gam) (i : Nat) (x : Str) (h : Hr) : ExceptHandler → Bool
  | .ExceptHandler (some (.Name y _)) (some n) [.Return (some e) _] _ => decide (y = x) && (decide (x ∈ Γ.C) && (glb Γ.sc x && (nodb x && (decide (Γ.N[i]? = some n) && (decide (Γ.sc.names.lookup n = some .local) && (nodb n && (decide (i ∉ Γ.W) && chkHr n h e)))))))
  | _ => false
def chkHds (Γ : Gam) (i : Nat) : List (Str × Hr) → List ExceptHandler → Bool
  | [], [] => true
  | (x, h) :: r, e :: es => chkHd Γ i x h e && chkHds Γ i r es
  | _, _ => false
mutual
def chkS (Γ : Gam) : Sm → Stmt → Bool
  | .set i e, .Assign [.Name y _] v _ => decide (Γ.N[i]? = some y) && (stOk Γ y && chkE Γ e v)
  | .setF i e, .Assign [.Name y _] v _ => decide (Γ.N[i]? = some y) && (stOk Γ y && (chkE Γ e v && (isF e && decide (i ∈ Γ.W))))
  | .par [i, j] es, x => chkPar Γ i j es x
  | .par [i, j, l] es, x => chkPar3 Γ i j l es x
  | .unp t e, .Assign [.Tuple ts k p] v _ => chkTg Γ t (.Tuple ts k p) && (chkE Γ e v && ((match v with
    | .Tuple vs _ _ => vs.all (foldedForSure 8) || (!(ts.length == 2 || ts.length == 3) || ts.any (notLoc Γ.sc))
    | _ => true)))
  | .setIx i k e, .Assign [.Subscript (.Name y _) kx _] v _ => decide (Γ.N[i]? = some y) && (vis Γ.sc y && (nodb y && (chkE Γ k kx && (chkE Γ e v && !isLC v))))
  | .app i e, .Expr (.Call (.Attribute (.Name y _) m ap) [v] [] cp) _ => decide (m = ("append" : Str)) && (decide (Γ.N[i]? = some y) && (vis Γ.sc y && (nodb y && (chkE Γ e v && ap.endLine == cp.line))))
  | .ext i e, .Expr (.Call (.Attribute (.Name y _) m ap) [v] [] cp) _ => decide (m = ("extend" : Str)) && (decide (Γ.N[i]? = some y) && (vis Γ.sc y && (nodb y && (chkE Γ e v && ap.endLine == cp.line))))
  | .ret e, .Return (some v) _ => chkE Γ e v
  | .retN, .Return none _ => true
  | .ifs c a b, .If x p q _ => chkE Γ c x && (tOk c && (chkSs Γ a p && chkSs Γ b q))
  | .for_ t it b, .For tg x p [] _ => chkIt Γ it tg x && (chkTg Γ t tg && chkSs Γ b p)
  | .whl _ c b, .While x p [] _ => chkE Γ c x && (tOk c && chkSs Γ b p)
  | .ex e, .Expr v _ => chkE Γ e v && !isLC v
  | .rai c e, x => chkRai Γ c e x
  | .tri b i hs, .Try p hds [] [] _ => chkHds Γ i hs hds && (!hds.isEmpty && chkSs Γ b p)
  | .pass, .Pass _ => true
  | .brk, .Break _ => true
  | .cont, .Continue _ => true
  | _, _ => false
def chkSs (Γ : Gam) : Ss → List Stmt → Bool
  | .nil, [] => true
  | .cons a r, x :: xs => chkS Γ a x && chkSs Γ r xs
  | _, _ => false
end

/-! ### where statements stand -/
/-- an own error made: its class, its number -/
def tMk (K : PySem.W.Frag) (c : Str) (t : TE) : L2.St → Hp → XK → Prop := fun σ H Q => t σ H fun v H1 => ∃ i, v = .int i ∧ ∀ cls dd H2, Same H1 H2 → XRep K H2 cls dd c i → Q cls dd H2
structure CxtS (S : Sig) (Γ : Gam) (Wx : WX) (X : Cx) : Prop where
  c : Cxt S Γ [] Wx X
  po : PassesOwn (model X.prog X.w) X.A X.env X.xe
  kf : X.env.scope.kind = .function
  stk : X.stack = X.env :: X.outer
  frm : X.env.frame = some X.env.locals
  cmg : ∀ x ∈ Γ.C, X.mg x = some (.ref (He.ga X.K x))
  exm : ∀ c x b, S.X c x = some b → x ∈ Γ.C → PySem.W.exmOne X.K (.ref (He.ga X.K c)) (.ref (He.ga X.K x)) = some b ∧ XfC X.K (He.ga X.K c) ∧ PySem.W.findIn X.K (.ref (He.ga X.K c)) "at" = some none
  mke : ∀ pn xe c, c ∈ Γ.C → glb Γ.sc c = true → nodb c = true → ∀ (x : Expr) (t : TE) (p pos : Pos), okX x = true → PE (X.tr pn xe) x t → PMk (X.tr pn xe) (.Call (.Name c p) [x] [] pos) (tMk X.K c t)
section
variable {S : Sig} {Γ : Gam} {Wx : WX} {X : Cx}
theorem CxtS.at {W : List Nat} (C : CxtS S Γ Wx X) (h : ∀ i ∈ W, i ∈ Γ.W) : Cxt S Γ W Wx X := { C.c with sub := h }
theorem CxtS.hN (C : CxtS S Γ Wx X) : X.N.Nodup := by rw [C.c.N]; exact C.c.nd
theorem CxtS.nth (C : CxtS S Γ Wx X) {i : Nat} {y : Str} (h : Γ.N[i]? = some y) : X.N[i]? = some y := by rw [C.c.N]; exact h
theorem CxtS.tk (C : CxtS S Γ Wx X) {e : E} {x : Expr} (h : chkE Γ e x = true) : PE X x (fun σ H Q => ∃ W, PW' Γ (esc e) W ∧ tE S Wx X.K W e σ H Q) := PE.un fun W p => (allE S e Γ W Wx X (C.at p.1) x h).1.tk p.2
theorem CxtS.lk (C : CxtS S Γ Wx X) {e : E} {x : Expr} (h : chkE Γ e x = true) : PE X x (fun σ H Q => ∃ W, PW' Γ (pk e) W ∧ tP S Wx X.K W e σ H Q) := PE.un fun W p => (allE S e Γ W Wx X (C.at p.1) x h).1.lk p.2
theorem CxtS.tt (C : CxtS S Γ Wx X) {e : E} {x : Expr} (h : chkE Γ e x = true) (t : tOk e = true) : PT X x (fun σ H Q => ∃ W, PW' Γ (pk e) W ∧ tT S Wx X.K W e σ H Q) := PT.un fun W p => (allE S e Γ W Wx X (C.at p.1) x h).2 t p.2

/-! ### name = value -/
theorem swB_spec {y : Str} {py : Pos} {elt : Expr} {gs : List Comprehension} {scope : Scope} {pos : Pos} {l : Nat} {env : PySem.Env} (hk : env.scope.kind = .function) : swapsWith (.ListComp elt gs scope pos) (some (.Name y py)) l env = pure (swB env.scope y py (.ListComp elt gs scope pos)) := by
  have hb : env.blockKind = .function := by unfold PySem.Env.blockKind; rw [hk] <;> rfl
  have hkk : (env.kindOf y == some NameKind.local) = decide (env.scope.names.lookup y = some .local) := by
    show (env.scope.names.lookup y == some NameKind.local) = _
    rw [Bool.eq_iff_iff]
    simp
  unfold swapsWith
  simp only [hb, hkk, Expr.pos]
  unfold swB
  have : (ScopeKind.function == ScopeKind.function) = true := rfl
  simp only [this, Bool.true_and, Bool.and_assoc]
theorem lc_of {e : E} {x : Expr} (h : chkE Γ e x = true) (l : isLC x = true) : ∃ elt tg it cs own, e = .comp elt tg it cs own := by
  cases e <;> first | exact ⟨_, _, _, _, _, rfl⟩ | skip
  all_goals cases x <;> first | (simp [chkE] at h; done) | (simp [isLC] at l; done)
theorem asg_ps {W : List Nat} (C : CxtS S Γ Wx X) {e : E} {v : Expr} {i : Nat} {y : Str} {py pos : Pos} (hi : Γ.N[i]? = some y) (hy : stOk Γ y = true) (hv : chkE Γ e v = true) (p : PW' Γ (esc e) W) :
    PS X (.Assign [.Name y py] v pos) (tAsg (tE S Wx X.K W e) (gName i)) ∧ (isF e = true → PS X (.Assign [.Name y py] v pos) (tAsg (tF S Wx X.K W e) (gName i))) := by
  have hn := (allE S e Γ W Wx X (C.at p.1) v hv).1
  obtain ⟨g1, g2⟩ := C.c.sto y hy
  by_cases l : isLC v = true
  · obtain ⟨elt, tg, it, cs, own, rfl⟩ := lc_of hv l
    cases v <;> first | (simp [isLC] at l; done) | (simp [chkE] at hv; done) | skip
    rename_i ex gens sc cp
    cases sw : swB X.env.scope y py (.ListComp ex gens sc cp) with
    | false =>
      have hs : swapsWith (.ListComp ex gens sc cp) (some (.Name y py)) pos.line X.env = pure false := by rw [swB_spec C.kf, sw]
      exact ⟨ps_set C.hN (C.nth hi) g1 (hn.tk p.2) hs g2, fun f => ps_set C.hN (C.nth hi) g1 (hn.nw f p.2) hs g2⟩
    | true =>
      have hs : swapsWith (.ListComp ex gens sc cp) (some (.Name y py)) pos.line X.env = pure true := by rw [swB_spec C.kf, sw]
      have hl : X.env.scope.names.lookup y = some .local := by
        unfold swB at sw
        simp only [Bool.and_eq_true, decide_eq_true_eq] at sw
        exact sw.1
      obtain ⟨t', _, q, k⟩ := comp_key (C.at p.1) hv (fun t i h n => allIt S it Γ W Wx X false (C.at p.1) t i h n) (fun Γ' X' C' ifs h n => (allEo S cs Γ' W W0 X' C').2 ifs h n) (fun Γ' X' C' y h => (allE S elt Γ' W W0 X' C' y h).1) p.2
      have q := q i y py pos (C.nth hi) hl hs
      exact ⟨PS.mono q fun D σ H z => k _ _ _ (comp_EF z), fun _ => PS.mono q fun D σ H z => k _ _ _ z⟩
  · have l' : isLC v = false := by simpa using l
    have hs := swaps_of (okX_of hv) l' (some (.Name y py)) pos.line X.env
    exact ⟨ps_set C.hN (C.nth hi) g1 (hn.tk p.2) hs g2, fun f => ps_set C.hN (C.nth hi) g1 (hn.nw f p.2) hs g2⟩
theorem snd_set (C : CxtS S Γ Wx X) {i : Nat} {e : E} {x : Stmt} (h : chkS Γ (.set i e) x = true) : PS X x (tS S Wx X.K Γ (.set i e)) := by
  cases x <;> first | (simp [chkS] at h; done) | skip
  rename_i ts v pos
  rcases ts with _ | ⟨t, ts⟩ <;> first | (simp [chkS] at h; done) | skip
  cases t <;> first | (simp [chkS] at h; done) | skip
  cases ts <;> first | (simp [chkS] at h; done) | skip
  rename_i y py
  simp only [chkS, Bool.and_eq_true, decide_eq_true_eq] at h
  obtain ⟨h1, h2, h3⟩ := h
  refine PS.mono (PS.un (P := PW' Γ (esc e)) (t := fun W => tAsg (tE S Wx X.K W e) (gName i)) fun W p => (asg_ps C h1 h2 h3 (py := py) (pos := pos) p).1) fun D σ H q => ?_
  obtain ⟨F, Oc, H0, s, f, r, j⟩ := q
  simp only [evS] at j
  obtain ⟨O, k1, k2, k3⟩ := r.un f (i :: esc e)
  refine ⟨dl s.1 (i :: esc e), ⟨r.subd _, ndj_dl fun _ z => List.mem_cons_of_mem _ z⟩, s.2, O, H0, k3, JS.jg f r j fun d _ jd v H' sm rv => ?_⟩
  exact jd _ _ ⟨⟨O, f.lift _ _ _ _ (Lift.same sm) k1, k2, (k3.same sm).set (fun z => (mem_dl.mp z).2 (List.mem_cons_self ..)) rv⟩, r.subd _⟩
theorem snd_setF (C : CxtS S Γ Wx X) {i : Nat} {e : E} {x : Stmt} (h : chkS Γ (.setF i e) x = true) : PS X x (tS S Wx X.K Γ (.setF i e)) := by
  cases x <;> first | (simp [chkS] at h; done) | skip
  rename_i ts v pos
  rcases ts with _ | ⟨t, ts⟩ <;> first | (simp [chkS] at h; done) | skip
  cases t <;> first | (simp [chkS] at h; done) | skip
  cases ts <;> first | (simp [chkS] at h; done) | skip
  rename_i y py
  simp only [chkS, Bool.and_eq_true, decide_eq_true_eq] at h
  obtain ⟨h1, h2, h3, h4, h5⟩ := h
  refine PS.mono (PS.un (P := PW' Γ (esc e)) (t := fun W => tAsg (tF S Wx X.K W e) (gName i)) fun W p => (asg_ps C h1 h2 h3 (py := py) (pos := pos) p).2 h4) fun D σ H q => ?_
  obtain ⟨F, Oc, H0, s, f, r, j⟩ := q
  simp only [evS] at j
  obtain ⟨O, k1, k2, k3⟩ := r.un f (i :: esc e)
  refine ⟨dl s.1 (i :: esc e), ⟨r.subd _, ndj_dl fun _ z => List.mem_cons_of_mem _ z⟩, s.2, O, H0, k3, JS.jg f r j fun d _ jd => ?_⟩
  split at jd
  · rename_i c
    simp only [Bool.and_eq_true, decide_eq_true_eq] at c
    refine ⟨c.1, fun p H' n sm o => ?_⟩
    obtain ⟨q1, q2⟩ := k3.take (fun z => (mem_dl.mp z).2 (List.mem_cons_self ..)) c.2 n sm o
    refine jd _ _ ⟨⟨_, f.lift _ _ _ _ q2 k1, fun a z => .inl (k2 a z), q1⟩, fun j hj => ?_⟩
    rcases List.mem_cons.mp hj with z | z
    · rw [z]; exact h5
    · exact r.subd _ j z
  · exact jd.elim
/-- the two of a swap -/
theorem swp2 {y z : Str} {p q pt p2 : Pos} {kt k2 : Nat} {a b : Expr} {env : PySem.Env} (hk : env.scope.kind = .function) (hy : env.scope.names.lookup y = some .local) (hz : env.scope.names.lookup z = some .local) (ne : y ≠ z) (oa : okX a = true) (ob : okX b = true)
    (l : (p.line == q.line) = true) (f1 : [a, b].all (foldedForSure 8) = false) (f2 : [a, b].all (constantsAlone 8) = false) :
    swappedStores [.Tuple [.Name y p, .Name z q] kt pt] (.Tuple [a, b] k2 p2) env = pure (some [y, z]) := by
  have hb : env.blockKind = .function := by unfold PySem.Env.blockKind; rw [hk] <;> rfl
  have h1 : (env.kindOf y == some NameKind.local) = true := by
    show (env.scope.names.lookup y == some NameKind.local) = true
    rw [hy] <;> rfl
  have h2 : (env.kindOf z == some NameKind.local) = true := by
    show (env.scope.names.lookup z == some NameKind.local) = true
    rw [hz] <;> rfl
  have hq : (q.line == p.line) = true := by
    rw [beq_iff_eq] at l ⊢
    exact l.symm
  have hst : ([a, b].any fun | .Starred .. => true | _ => false) = false := by
    cases a <;> first | (simp [okX] at oa; done) | skip
    all_goals cases b <;> first | (simp [okX] at ob; done) | rfl
  have hp : (p.line == p.line) = true := by simp
  have hd : (z == y) = false := by simpa using fun e : z = y => ne e.symm
  have e1 : ([Expr.Name y p, Expr.Name z q].filterMap fun
    | .Name id pos => if env.kindOf id == some .local && pos.line == p.line then some id else none
    | _ => none) = [y, z] := by
    simp only [List.filterMap_cons, List.filterMap_nil, h1, h2, hp, hq, Bool.and_self, if_true]
  have e2 : ([y, z].eraseDups.length != 2) = false := by
    have : [y, z].eraseDups = [y, z] := by
      simp only [List.eraseDups, List.eraseDupsBy, List.eraseDupsBy.loop, List.any_cons, List.any_nil, hd, Bool.or_false]
      rfl
    rw [this] <;> rfl
  unfold swappedStores
  refine (if_neg ?_).trans ((if_neg ?_).trans ((if_neg ?_).trans ((if_neg ?_).trans ((if_neg ?_).trans ?_))))
  · show ¬ ((!(true || false) || false || env.blockKind != .function) = true)
    rw [hb]
    decide
  · exact Bool.eq_false_iff.mp hst
  · have key : ∀ l : List Str, l = [y, z] → ¬ ((l.length != [Expr.Name y p, Expr.Name z q].length || l.eraseDups.length != l.length) = true) := fun l e => by
      rw [e]
      show ¬ ((false || [y, z].eraseDups.length != 2) = true)
      rw [e2]
      decide
    exact key _ e1
  · exact Bool.eq_false_iff.mp f1
  · exact Bool.eq_false_iff.mp f2
  · exact congrArg (fun l => (pure (some l) : Sem (Option (List Str)))) e1
def isSt : Expr → Bool
  | .Starred .. => true
  | _ => false
theorem isSt_of {e : Expr} (h : okX e = true) : isSt e = false := by cases e <;> first | rfl | (simp [okX] at h)
theorem swp3 {y z w : Str} {p q r pt p2 : Pos} {kt k2 : Nat} {a b c : Expr} {env : PySem.Env} (hk : env.scope.kind = .function) (hy : env.scope.names.lookup y = some .local) (hz : env.scope.names.lookup z = some .local) (hw : env.scope.names.lookup w = some .local) (n1 : y ≠ z) (n2 : y ≠ w) (n3 : z ≠ w) (oa : okX a = true) (ob : okX b = true) (oc : okX c = true)
    (l : (p.line == q.line) = true) (l2 : (p.line == r.line) = true) (f1 : [a, b, c].all (foldedForSure 8) = false) (f2 : [a, b, c].all (constantsAlone 8) = false) :
    swappedStores [.Tuple [.Name y p, .Name z q, .Name w r] kt pt] (.Tuple [a, b, c] k2 p2) env = pure (some [y, z, w]) := by
  have hb : env.blockKind = .function := by unfold PySem.Env.blockKind; rw [hk] <;> rfl
  have loc : ∀ {u : Str}, env.scope.names.lookup u = some .local → (env.kindOf u == some NameKind.local) = true := fun {u} e => by
    show (env.scope.names.lookup u == some NameKind.local) = true
    rw [e] <;> rfl
  have lq : (q.line == p.line) = true := by
    rw [beq_iff_eq] at l ⊢
    exact l.symm
  have lr : (r.line == p.line) = true := by
    rw [beq_iff_eq] at l2 ⊢
    exact l2.symm
  have hst : ([a, b, c].any fun | .Starred .. => true | _ => false) = false := by
    show (isSt a || (isSt b || (isSt c || false))) = false
    rw [isSt_of oa, isSt_of ob, isSt_of oc] <;> rfl
  have lp : (p.line == p.line) = true := by simp
  have d1 : (z == y) = false := by simpa using fun e : z = y => n1 e.symm
  have d2 : (w == y) = false := by simpa using fun e : w = y => n2 e.symm
  have d3 : (w == z) = false := by simpa using fun e : w = z => n3 e.symm
  have e1 : ([Expr.Name y p, Expr.Name z q, Expr.Name w r].filterMap fun
    | .Name id pos => if env.kindOf id == some .local && pos.line == p.line then some id else none
    | _ => none) = [y, z, w] := by
    simp only [List.filterMap_cons, List.filterMap_nil, loc hy, loc hz, loc hw, lp, lq, lr, Bool.and_self, if_true]
  have e2 : ([y, z, w].eraseDups.length != 3) = false := by
    have : [y, z, w].eraseDups = [y, z, w] := by
      simp only [List.eraseDups, List.eraseDupsBy, List.eraseDupsBy.loop, List.any_cons, List.any_nil, d1, d2, d3, Bool.or_false]
      rfl
    rw [this] <;> rfl
  unfold swappedStores
  refine (if_neg ?_).trans ((if_neg ?_).trans ((if_neg ?_).trans ((if_neg ?_).trans ((if_neg ?_).trans ?_))))
  · show ¬ ((!(false || true) || false || env.blockKind != .function) = true)
    rw [hb]
    decide
  · exact Bool.eq_false_iff.mp hst
  · have key : ∀ l : List Str, l = [y, z, w] → ¬ ((l.length != [Expr.Name y p, Expr.Name z q, Expr.Name w r].length || l.eraseDups.length != l.length) = true) := fun l e => by
      rw [e]
      show ¬ ((false || [y, z, w].eraseDups.length != 3) = true)
      rw [e2]
      decide
    exact key _ e1
  · exact Bool.eq_false_iff.mp f1
  · exact Bool.eq_false_iff.mp f2
  · exact congrArg (fun l => (pure (some l) : Sem (Option (List Str)))) e1
theorem snd_par3 (C : CxtS S Γ Wx X) {i j l : Nat} {es : Es} {x : Stmt} (h : chkPar3 Γ i j l es x = true) : PS X x (tS S Wx X.K Γ (.par [i, j, l] es)) := by
  unfold chkPar3 at h
  split at h
  case h_2 => cases h
  rename_i y p z q w r kt pt a b c k2 p2 pos
  simp only [Bool.and_eq_true, decide_eq_true_eq, Bool.not_eq_true'] at h
  obtain ⟨h1, h2, h3, ⟨m1, m2, m3⟩, h4, h5, h6, h7, h8, h9, h10, h11⟩ := h
  have hk := okXs_of h7
  simp only [List.all_cons, List.all_nil, Bool.and_true, Bool.and_eq_true] at hk
  have ey : X.env.scope.names.lookup y = some .local := by rw [C.c.sc]; exact h4
  have ez : X.env.scope.names.lookup z = some .local := by rw [C.c.sc]; exact h5
  have ew : X.env.scope.names.lookup w = some .local := by rw [C.c.sc]; exact h6
  have ne : ∀ {i j : Nat} {y z : Str}, Γ.N[i]? = some y → Γ.N[j]? = some z → i ≠ j → y ≠ z := fun {i j y z} a b c e => c (by
    subst e
    exact nodup_ix C.c.nd a b)
  refine PS.mono (ps_par3 C.c.calm C.hN (C.nth h1) (C.nth h2) (C.nth h3) m1 m2 m3 ey ez ew (PA.un (P := PW' Γ (escs es)) (t := fun W => tAs S Wx X.K W es) fun W p => ((allEs S es).2 Γ W Wx X (C.at p.1) _ h7).1 p.2)
    (swp3 C.kf ey ez ew (ne h1 h2 m1) (ne h1 h3 m2) (ne h2 h3 m3) hk.1 hk.2.1 hk.2.2 h8 h9 h10 h11)) fun D σ H q => ?_
  obtain ⟨F, Oc, H0, s, f, r', jj⟩ := q
  simp only [evS] at jj
  obtain ⟨O, k1, k2, k3⟩ := r'.un f ([i, j, l] ++ escs es)
  refine ⟨dl s.1 ([i, j, l] ++ escs es), ⟨r'.subd _, ndj_dl fun _ z => List.mem_append_right _ z⟩, s.2, O, H0, k3, JS.jg f r' jj fun ds e jd vs H' sm rv => ?_⟩
  have e2 := evEs_len h7 e
  rcases ds with _ | ⟨d1, _ | ⟨d2, _ | ⟨d3, _ | _⟩⟩⟩ <;> first | (simp at e2; done) | skip
  cases rv with
  | cons v1 rv =>
    cases rv with
    | cons v2 rv =>
      cases rv with
      | cons v3 rv =>
        cases rv
        refine ⟨_, _, _, rfl, jd _ _ ⟨⟨O, f.lift _ _ _ _ (Lift.same sm) k1, k2, ?_⟩, r'.subd _⟩⟩
        exact (((k3.same sm).set (fun z => (mem_dl.mp z).2 (by simp)) v1).set (fun z => (mem_dl.mp z).2 (by simp)) v2).set (fun z => (mem_dl.mp z).2 (by simp)) v3
theorem snd_par (C : CxtS S Γ Wx X) {is : List Nat} {es : Es} {x : Stmt} (h : chkS Γ (.par is es) x = true) : PS X x (tS S Wx X.K Γ (.par is es)) := by
  rcases is with _ | ⟨i, _ | ⟨j, _ | ⟨l, _ | _⟩⟩⟩ <;> first | (simp [chkS] at h; done) | skip
  case cons.cons.cons.nil => exact snd_par3 C (by simpa [chkS] using h)
  simp only [chkS] at h
  unfold chkPar at h
  split at h
  case h_2 => cases h
  rename_i y p z q kt pt a b k2 p2 pos
  simp only [Bool.and_eq_true, decide_eq_true_eq, Bool.not_eq_true'] at h
  obtain ⟨h1, h2, h3, h4, h5, h6, h7, h8, h9⟩ := h
  have hk := okXs_of h6
  simp only [List.all_cons, List.all_nil, Bool.and_true, Bool.and_eq_true] at hk
  have ey : X.env.scope.names.lookup y = some .local := by rw [C.c.sc]; exact h4
  have ez : X.env.scope.names.lookup z = some .local := by rw [C.c.sc]; exact h5
  have ne : y ≠ z := fun e => h3 (by
    subst e
    exact nodup_ix C.c.nd h1 h2)
  refine PS.mono (ps_par C.c.calm C.hN (C.nth h1) (C.nth h2) h3 ey ez (PA.un (P := PW' Γ (escs es)) (t := fun W => tAs S Wx X.K W es) fun W p => ((allEs S es).2 Γ W Wx X (C.at p.1) _ h6).1 p.2)
    (swp2 C.kf ey ez ne hk.1 hk.2 h7 h8 h9)) fun D σ H q => ?_
  obtain ⟨F, Oc, H0, s, f, r, jj⟩ := q
  simp only [evS] at jj
  obtain ⟨O, k1, k2, k3⟩ := r.un f ([i, j] ++ escs es)
  refine ⟨dl s.1 ([i, j] ++ escs es), ⟨r.subd _, ndj_dl fun _ z => List.mem_append_right _ z⟩, s.2, O, H0, k3, JS.jg f r jj fun ds e jd vs H' sm rv => ?_⟩
  have e2 := evEs_len h6 e
  rcases ds with _ | ⟨d1, _ | ⟨d2, _ | _⟩⟩ <;> first | (simp at e2; done) | skip
  cases rv with
  | cons v1 rv =>
    cases rv with
    | cons v2 rv =>
      cases rv
      refine ⟨_, _, rfl, jd _ _ ⟨⟨O, f.lift _ _ _ _ (Lift.same sm) k1, k2, ?_⟩, r.subd _⟩⟩
      refine ((k3.same sm).set (fun z => (mem_dl.mp z).2 (by simp)) v1).set (fun z => (mem_dl.mp z).2 (by simp)) v2
theorem ifn {α : Type} {c : Prop} [Decidable c] {a b : α} (h : b = a) : (if c then a else b) = a := by split <;> first | rfl | exact h
theorem snd_unp (C : CxtS S Γ Wx X) {t : Tg} {e : E} {x : Stmt} (h : chkS Γ (.unp t e) x = true) : PS X x (tS S Wx X.K Γ (.unp t e)) := by
  cases x <;> first | (simp [chkS] at h; done) | skip
  rename_i ts v pos
  rcases ts with _ | ⟨g, ts⟩ <;> first | (simp [chkS] at h; done) | skip
  cases g <;> first | (simp [chkS] at h; done) | skip
  cases ts <;> first | (simp [chkS] at h; done) | skip
  rename_i us kt pt
  simp only [chkS, Bool.and_eq_true, Bool.not_eq_true'] at h
  obtain ⟨h1, h2, h4⟩ := h
  have hw : swappedStores [.Tuple us kt pt] v X.env = pure none := by
    cases v <;> first | rfl | skip
    rename_i vs k2 p2
    have h4 : (vs.all (foldedForSure 8) || (!(us.length == 2 || us.length == 3) || us.any (notLoc Γ.sc))) = true := h4
    rw [Bool.or_eq_true, Bool.or_eq_true] at h4
    unfold swappedStores
    rcases h4 with h4 | h4 | h4
    · exact ifn (ifn (ifn (if_pos h4)))
    · refine if_pos ?_
      rw [h4] <;> rfl
    · refine ifn (ifn (if_pos ?_))
      have lt : ∀ (f : Expr → Option Str), (∀ t ∈ us, notLoc Γ.sc t = true → f t = none) → (us.filterMap f).length < us.length := fun f hf => by
        obtain ⟨t, ht, hn⟩ := List.any_eq_true.mp h4
        have gen : ∀ l : List Expr, (l.filterMap f).length ≤ l.length := fun l => List.length_filterMap_le f l
        obtain ⟨l1, l2, rfl⟩ := List.append_of_mem ht
        rw [List.filterMap_append, List.filterMap_cons, hf t ht hn, List.length_append, List.length_append, List.length_cons]
        dsimp only
        have := gen l1
        have := gen l2
        omega
      have key : ∀ f : Expr → Option Str, (∀ t ∈ us, notLoc Γ.sc t = true → f t = none) → ((us.filterMap f).length != us.length || (us.filterMap f).eraseDups.length != (us.filterMap f).length) = true := fun f hf => by
        have := lt f hf
        have e : ((us.filterMap f).length != us.length) = true := by
          rw [bne_iff_ne]
          omega
        rw [e, Bool.true_or]
      refine key _ fun t ht hn => ?_
      cases t <;> first | rfl | skip
      rename_i y yp
      have e : (X.env.kindOf y == some NameKind.local) = false := by
        have hn : (!decide (Γ.sc.names.lookup y = some .local)) = true := hn
        show (X.env.scope.names.lookup y == some NameKind.local) = false
        rw [C.c.sc]
        simpa using hn
      show (if (X.env.kindOf y == some NameKind.local && _) = true then _ else _) = none
      rw [e, Bool.false_and]
      rfl
  have hs : swapsWith v (some (.Tuple us kt pt)) pos.line X.env = pure false := by cases v <;> rfl
  refine PS.mono (ps_asg (PE.un (P := PW' Γ (esc e)) (t := fun W => tE S Wx X.K W e) fun W p => (allE S e Γ W Wx X (C.at p.1) v h2).1.tk p.2)
    (PG.un (P := PW' Γ []) (t := fun W => gT X.K W t) fun W p => snd_tg (C.at p.1) t _ h1) hs hw) fun D σ H q => ?_
  obtain ⟨F, Oc, H0, s, f, r, j⟩ := q
  simp only [evS] at j
  obtain ⟨O, k1, k2, k3⟩ := r.un f (esc e)
  refine ⟨dl s.1 (esc e), ⟨r.subd _, ndj_dl fun _ z => z⟩, s.2, O, H0, k3, JS.jg f r j fun d _ jd v H' sm rv => ?_⟩
  split at jd
  · rename_i ρ' e1
    refine ⟨dl s.1 (esc e), ⟨r.subd _, fun _ z => nomatch z⟩, s.2, O, H0, d, ρ', k3.same sm, rv, e1, fun σ' r' _ _ => ?_⟩
    exact jd _ _ ⟨⟨O, f.lift _ _ _ _ (Lift.same sm) k1, k2, r'⟩, r.subd _⟩
  · exact jd.elim
theorem snd_setIx (C : CxtS S Γ Wx X) {i : Nat} {k e : E} {x : Stmt} (h : chkS Γ (.setIx i k e) x = true) : PS X x (tS S Wx X.K Γ (.setIx i k e)) := by
  cases x <;> first | (simp [chkS] at h; done) | skip
  rename_i ts v pos
  rcases ts with _ | ⟨g, ts⟩ <;> first | (simp [chkS] at h; done) | skip
  cases g <;> first | (simp [chkS] at h; done) | skip
  rename_i o kx gp
  cases o <;> first | (simp [chkS] at h; done) | skip
  cases ts <;> first | (simp [chkS] at h; done) | skip
  rename_i y yp
  simp only [chkS, Bool.and_eq_true, decide_eq_true_eq, Bool.not_eq_true'] at h
  obtain ⟨h1, h2, h3, h4, h5, h6⟩ := h
  obtain ⟨g4, g5⟩ := nodb_of h3
  have pv : PE X (.Name y yp) (tVar i) := pe_var (C.nth h1) (vis_of C.c.sc h2) g4 g5
  have pk' := PE.un (P := PW' Γ (pk k)) (t := fun W => tP S Wx X.K W k) fun W p => (allE S k Γ W Wx X (C.at p.1) kx h4).1.lk p.2
  have pa : ∀ v, assign (.Subscript (.Name y yp) kx gp) X.env v = (do
      let ov ← holding [v] (eval (.Name y yp) X.env)
      let iv ← holding [v, ov] (eval kx X.env)
      standAt gp
      holding [v, ov, iv] (setItem ov iv v)
      release [v, ov, iv] []) := fun v => by
    have := okX_of h4
    cases kx <;> first | (simp [okX] at this; done) | rfl
  refine PS.mono (ps_asg (PE.un (P := PW' Γ (esc e)) (t := fun W => tE S Wx X.K W e) fun W p => (allE S e Γ W Wx X (C.at p.1) v h5).1.tk p.2)
    (PG.or (pg_sub pv pk' set_list pa) (pg_sub pv pk' (set_dict (by have := C.c.un; omega)) pa))
    (show swapsWith v (some (.Subscript (.Name y yp) kx gp)) pos.line X.env = pure false from swaps_of (okX_of h5) h6 _ _ _) (by cases v <;> rfl)) fun D σ H q => ?_
  obtain ⟨F, Oc, H0, s, f, r, j⟩ := q
  simp only [evS] at j
  obtain ⟨O, k1, k2, k3⟩ := r.un f (esc e ++ pk k)
  refine ⟨dl s.1 (esc e ++ pk k), ⟨r.subd _, ndj_dl fun _ z => List.mem_append_left _ z⟩, s.2, O, H0, k3, JS.jg f r j fun d _ j1 v1 H1 sm rv => ?_⟩
  split at j1
  case h_2 => exact j1.elim
  rename_i d' e3
  split at j1
  case isFalse => exact j1.elim
  rename_i hi
  have hi := of_decide_eq_true hi
  obtain ⟨a, g1, g2, g3, g4, g5⟩ := k3.own i d' hi e3
  by_cases isd : isDc d' = true
  · refine .inr ⟨_, g1, dl s.1 (esc e ++ pk k), ⟨r.subd _, ndj_dl fun _ z => List.mem_append_right _ z⟩, s.2, O, H0, k3.same sm, JS.jg f (r.same f sm) j1 fun y e2 j2 w H2 s2 rw2 => ?_⟩
    cases d' <;> first | (simp [isDc] at isd; done) | skip
    rename_i kvs
    rcases kvs with _ | ⟨⟨k0, v0⟩, kvs⟩ <;> first | exact j2.elim | skip
    simp only [putV] at j2
    by_cases c : ((keyOf k0).isSome && ((keyOf y).isSome && decide (kvs.length + 1 < sLine))) = true
    · rw [if_pos c] at j2
      simp only [Bool.and_eq_true, decide_eq_true_eq] at c
      obtain ⟨c1, c2, c3⟩ := c
      obtain ⟨ks0, hk0⟩ := Option.isSome_iff_exists.mp c1
      obtain ⟨ky, hky⟩ := Option.isSome_iff_exists.mp c2
      have ey := keyOf_kP hky
      have e0 := keyOf_kP hk0
      subst ey
      subst e0
      obtain ⟨ps, g6, g7⟩ := g4
      rcases g6 with ⟨ks, g6, rfl⟩ | ⟨ks, g6, rfl⟩
      · have lk : ∀ {ks : List (Key × V)} {kvs : List (PD × PD)}, RXp X.K O H (ks.map fun p => (kP p.1, p.2)) kvs → ks.length = kvs.length := by
          intro ks
          induction ks with
          | nil => intro kvs r; cases r; rfl
          | cons p ks ih =>
            intro kvs r
            cases r with
            | cons r1 r2 => simp [ih r2]
        have l := lk g7
        have g6' := (sm.trans s2) _ _ g6
        have wv : w = kV ky := by
          rcases ky with i | t
          · exact rw2.int
          · exact rw2.str.1
        subst wv
        refine ⟨a, _, rfl, DPut.k g6' (by rw [l, List.length_cons, ← sLine_eq]; exact c3), ?_⟩
        have k4 := k3.same (sm.trans s2)
        have L0 : Lift O H2 O (upd H2 a (.dK (putK ks ky v1))) := Lift.upd g2 g6' True.intro
        obtain ⟨q1, q2⟩ := k4.write (o := .dK (putK ks ky v1)) (d' := .dict (putP ((kP ks0, v0) :: kvs) (kP ky) d)) hi e3 g1 ⟨_, .inl ⟨_, upd_same, rfl⟩, (put_rx (rv.same s2) (g7.same (sm.trans s2))).lift L0⟩
        exact j2 _ _ ⟨⟨O, f.lift _ _ _ _ q2 (f.lift _ _ _ _ (Lift.same (sm.trans s2)) k1), k2, q1⟩, r.subd _⟩
      · exfalso
        cases ks with
        | nil => cases g7
        | cons q ks =>
          have gen : ∀ {x : PD} {ys : List (PD × V)} {kvs : List (PD × PD)}, RXp X.K O H2 ((x, q.2) :: ys) kvs → ∃ r, kvs.head? = some (x, r) := fun {x ys kvs} h => by
            cases h
            exact ⟨_, rfl⟩
          obtain ⟨r0, e0⟩ := gen (g7.same (sm.trans s2))
          have e1 : kP ks0 = PyData.tuple (q.1.map kP) := by
            have e0 := Option.some.inj e0
            exact congrArg Prod.fst e0
          rcases ks0 with i | t <;> simp [kP] at e1
    · rw [if_neg c] at j2
      exact j2.elim
  · refine .inl ⟨_, g1, dl s.1 (esc e ++ pk k), ⟨r.subd _, ndj_dl fun _ z => List.mem_append_right _ z⟩, s.2, O, H0, k3.same sm, JS.jg f (r.same f sm) j1 fun y e2 j2 w H2 s2 rw2 => ?_⟩
    cases d' <;> first | exact j2.elim | (exfalso; exact isd rfl) | skip
    cases y <;> first | exact j2.elim | skip
    rename_i ds n
    simp only [putV] at j2
    cases e4 : ixN ds.length n with
    | none => rw [e4] at j2; exact j2.elim
    | some m =>
      rw [e4] at j2
      obtain ⟨xs, g6, g7⟩ := g4
      cases rw2.int
      have g6' := (sm.trans s2) _ _ g6
      refine ⟨a, xs, n, m, rfl, rfl, g6', by rw [g7.length]; exact e4, ?_⟩
      have k4 := k3.same (sm.trans s2)
      have L0 : Lift O H2 O (upd H2 a (.lst (xs.set m v1))) := Lift.upd g2 g6' True.intro
      obtain ⟨q1, q2⟩ := k4.write (o := .lst (xs.set m v1)) (d' := .list (ds.set m d)) hi e3 g1 ⟨_, upd_same, ((g7.same (sm.trans s2)).set (rv.same s2) m).lift L0⟩
      exact j2 _ _ ⟨⟨O, f.lift _ _ _ _ q2 (f.lift _ _ _ _ (Lift.same (sm.trans s2)) k1), k2, q1⟩, r.subd _⟩
theorem snd_app (C : CxtS S Γ Wx X) {i : Nat} {e : E} {x : Stmt} (h : chkS Γ (.app i e) x = true) : PS X x (tS S Wx X.K Γ (.app i e)) := by
  cases x <;> first | (simp [chkS] at h; done) | skip
  rename_i v pos
  cases v <;> first | (simp [chkS] at h; done) | skip
  rename_i fn as kws cp
  cases fn <;> first | (simp [chkS] at h; done) | skip
  rename_i o m ap
  cases o <;> first | (simp [chkS] at h; done) | skip
  rcases as with _ | ⟨v, _ | _⟩ <;> first | (simp [chkS] at h; done) | skip
  cases kws <;> first | (simp [chkS] at h; done) | skip
  rename_i y yp
  simp only [chkS, Bool.and_eq_true, decide_eq_true_eq] at h
  obtain ⟨rfl, h1, h2, h3, h4, h5⟩ := h
  obtain ⟨g4, g5⟩ := nodb_of h3
  have pv : PE X (.Name y yp) (tVar i) := pe_var (C.nth h1) (vis_of C.c.sc h2) g4 g5
  have ok := okX_of h4
  have pa : PA X [v] (tCons (fun σ H Q => ∃ W, PW' Γ (esc e) W ∧ tE S Wx X.K W e σ H Q) tNil) := pa1 ok (C.tk h4)
  have st := star_of ok [] X.env
  refine PS.mono (ps_expr (pe_bm PySem.F.plainAttrs_list PySem.F.slot_list_append PySem.F.type_list_append mt_append pv pa rfl (by rw [st]; rfl) h5 st rfl) rfl) fun D σ H q => ?_
  obtain ⟨F, Oc, H0, s, f, r, j⟩ := q
  simp only [evS] at j
  obtain ⟨O, k1, k2, k3⟩ := r.un f (esc e)
  split at j
  case h_2 => exact j.elim
  rename_i ds e3
  split at j
  case isFalse => exact j.elim
  rename_i hi
  have hi := of_decide_eq_true hi
  obtain ⟨a, g1, g2, g3, g4, g5⟩ := k3.own i _ hi e3
  obtain ⟨xs, g6, g7⟩ := g4
  refine ⟨_, g1, .inl ⟨rfl, xs, .inl (.inl g6)⟩, ?_⟩
  show tCons _ tNil σ H _
  refine ⟨dl s.1 (esc e), ⟨r.subd _, ndj_dl fun _ z => z⟩, s.2, O, H0, k3, JS.jg f r j fun y e2 j2 w H2 s2 rw2 => ?_⟩
  split at j2
  case isFalse => exact j2.elim
  rename_i hl
  have hl := of_decide_eq_true hl
  have g6' := s2 _ _ g6
  refine ⟨a, xs, w, rfl, rfl, g6', by rw [g7.length, ← sLine_eq]; exact hl, ?_⟩
  have k4 := k3.same s2
  have L0 : Lift O H2 O (upd H2 a (.lst (xs ++ [w]))) := Lift.upd g2 g6' True.intro
  obtain ⟨q1, q2⟩ := k4.write (o := .lst (xs ++ [w])) (d' := .list (ds ++ [y])) hi e3 g1 ⟨_, upd_same, ((g7.same s2).append (.cons rw2 .nil)).lift L0⟩
  exact j2 _ _ ⟨⟨O, f.lift _ _ _ _ q2 (f.lift _ _ _ _ (Lift.same s2) k1), k2, q1⟩, r.subd _⟩
def rExtR : V → List V → Hp → VK → Prop := fun x vs H Q => ∃ l b xs zs, x = .ref l ∧ vs = [.ref b] ∧ H l = some (.lst xs) ∧ Rd H b (.lst zs) ∧ xs.length + zs.length ≤ sizeLine ∧ Q .non (upd H l (.lst (xs ++ zs)))
theorem mt_extR : MtM X "list.extend" rExtR := by
  intro pins s σ H x vs v us Q I rx rv h
  obtain ⟨l, b, xs, zs, rfl, rfl, hH, hB, hz, q⟩ := h
  cases rx
  obtain ⟨u, rfl, ru⟩ := rv.one
  cases ru
  obtain ⟨z, its, n, r, hl, e⟩ := I.lstM hH
  obtain ⟨z2, its2, n2, r2, hl2, e2⟩ := lstR_ok hB I.hok
  have few : its.toArray.size + its2.toArray.size ≤ sizeLine := by rw [List.size_toArray, List.size_toArray]; omega
  have lng : ¬ (!its.toArray.isEmpty && Builtin.List.listTooLong (its.toArray.size + its2.toArray.size)) = true := by
    rw [notLongL few, Bool.and_false]; decide
  refine call_meets F.slot_list_extend ⟨_, e, rfl⟩ F.entry_list_extend (F.args_list_extend_2 _ _) (AutoSeq1.list_extend_list_list_0 l its.toArray n b its2.toArray n2 lng (by rw [List.size_toArray]; omega) (by omega)) ⟨e, e2, ?_⟩
  exact ⟨.non, _, I.lset (its' := its ++ its2) hH e (by simp) (r.append r2) (by rw [List.length_append]; omega), rfl, q⟩
theorem snd_ext (C : CxtS S Γ Wx X) {i : Nat} {e : E} {x : Stmt} (h : chkS Γ (.ext i e) x = true) : PS X x (tS S Wx X.K Γ (.ext i e)) := by
  cases x <;> first | (simp [chkS] at h; done) | skip
  rename_i v pos
  cases v <;> first | (simp [chkS] at h; done) | skip
  rename_i fn as kws cp
  cases fn <;> first | (simp [chkS] at h; done) | skip
  rename_i o m ap
  cases o <;> first | (simp [chkS] at h; done) | skip
  rcases as with _ | ⟨v, _ | _⟩ <;> first | (simp [chkS] at h; done) | skip
  cases kws <;> first | (simp [chkS] at h; done) | skip
  rename_i y yp
  simp only [chkS, Bool.and_eq_true, decide_eq_true_eq] at h
  obtain ⟨rfl, h1, h2, h3, h4, h5⟩ := h
  obtain ⟨g4, g5⟩ := nodb_of h3
  have pv : PE X (.Name y yp) (tVar i) := pe_var (C.nth h1) (vis_of C.c.sc h2) g4 g5
  have ok := okX_of h4
  have pa : PA X [v] (tCons (fun σ H Q => ∃ W, PW' Γ (esc e) W ∧ tE S Wx X.K W e σ H Q) tNil) := pa1 ok (C.tk h4)
  have st := star_of ok [] X.env
  refine PS.mono (ps_expr (pe_bm PySem.F.plainAttrs_list PySem.F.slot_list_extend PySem.F.type_list_extend mt_extR pv pa rfl (by rw [st]; rfl) h5 st rfl) rfl) fun D σ H q => ?_
  obtain ⟨F, Oc, H0, s, f, r, j⟩ := q
  simp only [evS] at j
  obtain ⟨O, k1, k2, k3⟩ := r.un f (esc e)
  split at j
  case h_2 => exact j.elim
  rename_i ds e3
  split at j
  case isFalse => exact j.elim
  rename_i hi
  have hi := of_decide_eq_true hi
  obtain ⟨a, g1, g2, g3, g4, g5⟩ := k3.own i _ hi e3
  obtain ⟨xs, g6, g7⟩ := g4
  refine ⟨_, g1, .inl ⟨rfl, xs, .inl (.inl g6)⟩, ?_⟩
  show tCons _ tNil σ H _
  refine ⟨dl s.1 (esc e), ⟨r.subd _, ndj_dl fun _ z => z⟩, s.2, O, H0, k3, JS.jg f r j fun y e2 j2 w H2 s2 rw2 => ?_⟩
  cases y <;> first | exact j2.elim | skip
  rename_i es
  have j2 : JS F Γ Wx X.K Oc H0 D (if decide (ds.length + es.length ≤ sLine) = true then .nx (dl s.1 (esc e), s.2.set i (some (.list (ds ++ es)))) else .bad) := j2
  split at j2
  case isFalse => exact j2.elim
  rename_i hl
  have hl := of_decide_eq_true hl
  have g6' := s2 _ _ g6
  cases rw2 with
  | lst ho hr rr =>
    rename_i b zs
    refine ⟨a, b, xs, zs, rfl, rfl, g6', hr, by rw [g7.length, rr.length, ← sLine_eq]; exact hl, ?_⟩
    have k4 := k3.same s2
    have L0 : Lift O H2 O (upd H2 a (.lst (xs ++ zs))) := Lift.upd g2 g6' True.intro
    obtain ⟨q1, q2⟩ := k4.write (o := .lst (xs ++ zs)) (d' := .list (ds ++ es)) hi e3 g1 ⟨_, upd_same, ((g7.same s2).append rr).lift L0⟩
    exact j2 _ _ ⟨⟨O, f.lift _ _ _ _ q2 (f.lift _ _ _ _ (Lift.same s2) k1), k2, q1⟩, r.subd _⟩
end
end Fe
set_option Elab.async false
set_option linter.all false
set_option maxRecDepth 100000
set_option maxHeartbeats 4000000
/-! Fe, part J: the theorem of all statements. -/
namespace Fe
open PySem PySem.Spec PyProof.Rows L2
section
variable {S : Sig} {Γ : Gam} {Wx : WX} {X : Cx}
theorem RX.lessO {K : PySem.W.Frag} {O Oc : Addr → Prop} {H : Hp} {v : V} {d : PD} (h : ∀ a, Oc a → O a) (r : RX K O H v d) : RX K Oc H v d := r.less h
theorem snd_ret (C : CxtS S Γ Wx X) {e : E} {x : Stmt} (h : chkS Γ (.ret e) x = true) : PS X x (tS S Wx X.K Γ (.ret e)) := by
  cases x <;> first | (simp [chkS] at h; done) | skip
  rename_i v pos
  cases v <;> first | (simp [chkS] at h; done) | skip
  rename_i v
  simp only [chkS] at h
  refine PS.mono (ps_ret (C.tk h)) fun D σ H q => ?_
  obtain ⟨F, Oc, H0, s, f, r, j⟩ := q
  simp only [evS] at j
  obtain ⟨O, k1, k2, k3⟩ := r.un f (esc e)
  refine ⟨dl s.1 (esc e), ⟨r.subd _, ndj_dl fun _ z => z⟩, s.2, O, H0, k3, JS.jg f r j fun y e2 j2 w H2 s2 rw2 => ?_⟩
  exact j2 w H2 (k3.sam.trans s2) (rw2.less k2)
theorem snd_retN {x : Stmt} (h : chkS Γ .retN x = true) : PS X x (tS S Wx X.K Γ .retN) := by
  cases x <;> first | (simp [chkS] at h; done) | skip
  rename_i v pos
  cases v <;> first | (simp [chkS] at h; done) | skip
  refine PS.mono ps_retN fun D σ H q => ?_
  obtain ⟨F, Oc, H0, s, f, r, j⟩ := q
  simp only [evS] at j
  obtain ⟨O, k1, k2, k3⟩ := r.ex
  exact j .non H k3.sam .non
theorem snd_ex (C : CxtS S Γ Wx X) {e : E} {x : Stmt} (h : chkS Γ (.ex e) x = true) : PS X x (tS S Wx X.K Γ (.ex e)) := by
  cases x <;> first | (simp [chkS] at h; done) | skip
  rename_i v pos
  have h' : chkE Γ e v = true ∧ isLC v = false := by
    cases v <;> first | (simp only [chkS, Bool.and_eq_true, Bool.not_eq_true'] at h; exact h) | skip
  obtain ⟨h1, h2⟩ := h'
  refine PS.mono (ps_expr (C.tk h1) (swaps_of (okX_of h1) h2 _ _ _)) fun D σ H q => ?_
  obtain ⟨F, Oc, H0, s, f, r, j⟩ := q
  simp only [evS] at j
  obtain ⟨O, k1, k2, k3⟩ := r.un f (esc e)
  refine ⟨dl s.1 (esc e), ⟨r.subd _, ndj_dl fun _ z => z⟩, s.2, O, H0, k3, JS.jg f r j fun y e2 j2 w H2 s2 rw2 => ?_⟩
  exact j2 _ _ ⟨⟨O, f.lift _ _ _ _ (Lift.same s2) k1, k2, k3.same s2⟩, r.subd _⟩
theorem snd_rai (C : CxtS S Γ Wx X) {c : Str} {e : E} {x : Stmt} (h : chkRai Γ c e x = true) : PS X x (tS S Wx X.K Γ (.rai c e)) := by
  unfold chkRai at h
  split at h
  case h_2 => cases h
  rename_i y yp v cp pos
  simp only [Bool.and_eq_true, decide_eq_true_eq] at h
  obtain ⟨rfl, h2, h3, h4, h5⟩ := h
  have hm := C.mke X.pn X.xe c h2 h3 h4 v _ yp cp (okX_of h5) (C.tk h5)
  refine PS.mono (L2.ps_raise C.c.calm C.c.tk hm) fun D σ H q => ?_
  obtain ⟨F, Oc, H0, s, f, r, j⟩ := q
  simp only [evS] at j
  obtain ⟨O, k1, k2, k3⟩ := r.un f (esc e)
  refine ⟨dl s.1 (esc e), ⟨r.subd _, ndj_dl fun _ z => z⟩, s.2, O, H0, k3, (JS.jg f r j fun y e2 j2 => j2).bind.imp fun y e2 j2 w H2 s2 rw2 => ?_⟩
  cases y <;> first | exact j2.elim | skip
  cases rw2
  rename_i i
  refine ⟨i, rfl, fun cls dd H3 s3 x => ?_⟩
  exact j2 σ H3 cls dd ⟨⟨O, f.lift _ _ _ _ (Lift.same (s2.trans s3)) k1, k2, k3.same (s2.trans s3)⟩, r.subd _⟩ x
theorem JS.nx {F : (Addr → Prop) → Hp → Prop} {K : PySem.W.Frag} {Oc : Addr → Prop} {H0 : Hp} {D : Ends} {a : SR} {g : Sta → SR} {N : L2.St → Hp → Prop} (j : JS F Γ Wx K Oc H0 D (match a with | .nx s' => g s' | z => z))
    (k : ∀ s', JS F Γ Wx K Oc H0 D (g s') → ∀ σ H, RelS F Γ K Oc H0 s' σ H → N σ H) : JS F Γ Wx K Oc H0 { D with nx := N } a := by
  cases a with
  | nx s' => exact k s' j
  | rt d => exact j
  | bk s' => exact j
  | ct s' => exact j
  | exc c i s' => exact j
  | bad => exact j
theorem snd_nil : PSs X [] (tSs S Wx X.K Γ .nil) := PSs.mono pss_nil fun D σ H q => by
  obtain ⟨F, Oc, H0, s, f, r, j⟩ := q
  simp only [evSs] at j
  exact j σ H r
theorem snd_cons {a : Sm} {r : Ss} {x : Stmt} {xs : List Stmt} (h1 : PS X x (tS S Wx X.K Γ a)) (h2 : PSs X xs (tSs S Wx X.K Γ r)) : PSs X (x :: xs) (tSs S Wx X.K Γ (.cons a r)) := PSs.mono (pss_cons h1 h2) fun D σ H q => by
  obtain ⟨F, Oc, H0, s, f, rl, j⟩ := q
  simp only [evSs] at j
  exact ⟨F, Oc, H0, s, f, rl, j.nx fun s' j' σ' H' r' => ⟨F, Oc, H0, s', f, r', j'⟩⟩
theorem snd_ifs (C : CxtS S Γ Wx X) {c : E} {a b : Ss} {x : Expr} {p q : List Stmt} {pos : Pos} (h1 : chkE Γ c x = true) (h2 : tOk c = true) (ha : PSs X p (tSs S Wx X.K Γ a)) (hb : PSs X q (tSs S Wx X.K Γ b)) : PS X (.If x p q pos) (tS S Wx X.K Γ (.ifs c a b)) := by
  refine PS.mono (ps_if (C.tt h1 h2) ha hb) fun D σ H z => ?_
  obtain ⟨F, Oc, H0, s, f, r, j⟩ := z
  simp only [evS] at j
  obtain ⟨O, k1, k2, k3⟩ := r.un f (pk c)
  refine ⟨dl s.1 (pk c), ⟨r.subd _, ndj_dl fun _ z => z⟩, s.2, O, H0, k3, (JS.jg f r j fun k e2 j2 => j2).bind.imp fun y e2 j2 => ?_⟩
  cases y <;> first | exact j2.elim | skip
  rename_i k
  refine ⟨k, rfl, fun H' sm => ?_⟩
  have r' : RelS F Γ X.K Oc H0 (dl s.1 (pk c), s.2) σ H' := ⟨⟨O, f.lift _ _ _ _ (Lift.same sm) k1, k2, k3.same sm⟩, r.subd _⟩
  cases k with
  | true => exact ⟨F, Oc, H0, _, f, r', j2⟩
  | false => exact ⟨F, Oc, H0, _, f, r', j2⟩
theorem snd_whl (C : CxtS S Γ Wx X) {n : Nat} {c : E} {b : Ss} {x : Expr} {p : List Stmt} {pos : Pos} (h1 : chkE Γ c x = true) (h2 : tOk c = true) (hb : PSs X p (tSs S Wx X.K Γ b)) : PS X (.While x p [] pos) (tS S Wx X.K Γ (.whl n c b)) := by
  refine PS.mono (ps_while C.po (C.tt h1 h2) hb) fun D σ H z => ?_
  obtain ⟨F, Oc, H0, s, f, r, j⟩ := z
  simp only [evS] at j
  refine ⟨fun m σ H => ∃ s, RelS F Γ X.K Oc H0 s σ H ∧ JS F Γ Wx X.K Oc H0 D (whGo (pk c) (fun ρ => (evE S c ρ).bind boolOf) (evSs S b) m s), ⟨n, s, r, j⟩, ?_⟩
  rintro m σ H ⟨s, r, j⟩
  cases m with
  | zero => exact j.elim
  | succ m =>
    simp only [whGo] at j
    obtain ⟨O, k1, k2, k3⟩ := r.un f (pk c)
    refine ⟨dl s.1 (pk c), ⟨r.subd _, ndj_dl fun _ z => z⟩, s.2, O, H0, k3, (JS.jg f r j fun k e2 j2 => j2).bind.imp fun y e2 j2 => ?_⟩
    cases y <;> first | exact j2.elim | skip
    rename_i k
    refine ⟨k, rfl, fun H' sm => ?_⟩
    have r' : RelS F Γ X.K Oc H0 (dl s.1 (pk c), s.2) σ H' := ⟨⟨O, f.lift _ _ _ _ (Lift.same sm) k1, k2, k3.same sm⟩, r.subd _⟩
    cases k with
    | false => exact j2 σ H' r'
    | true =>
      have j2 : JS F Γ Wx X.K Oc H0 D (match evSs S b (dl s.1 (pk c), s.2) with
        | .nx s' => whGo (pk c) (fun ρ => (evE S c ρ).bind boolOf) (evSs S b) m s'
        | .ct s' => whGo (pk c) (fun ρ => (evE S c ρ).bind boolOf) (evSs S b) m s'
        | .bk s' => .nx s'
        | r => r) := j2
      show ∃ N : L2.St → Hp → Prop, _
      refine ⟨fun σ H => ∃ s, RelS F Γ X.K Oc H0 s σ H ∧ JS F Γ Wx X.K Oc H0 D (whGo (pk c) (fun ρ => (evE S c ρ).bind boolOf) (evSs S b) m s), fun σ' H' z => ⟨m, by omega, z⟩, F, Oc, H0, _, f, r', ?_⟩
      cases e3 : evSs S b (dl s.1 (pk c), s.2) with
      | nx s' => rw [e3] at j2; exact fun σ H r => ⟨s', r, j2⟩
      | ct s' => rw [e3] at j2; exact fun σ H r => ⟨s', r, j2⟩
      | bk s' => rw [e3] at j2; exact j2
      | rt d => rw [e3] at j2; exact j2
      | exc c i s' => rw [e3] at j2; exact j2
      | bad => rw [e3] at j2; exact j2
theorem snd_for (C : CxtS S Γ Wx X) {t : Tg} {it : It} {b : Ss} {tg x : Expr} {p : List Stmt} {pos : Pos} (h1 : chkIt Γ it tg x = true) (h2 : chkTg Γ t tg = true) (hb : PSs X p (tSs S Wx X.K Γ b)) : PS X (.For tg x p [] pos) (tS S Wx X.K Γ (.for_ t it b)) := by
  refine PS.mono (ps_for C.po C.c.calm (PI.un (P := PW' Γ (escItM true it)) (t := fun W => tI S Wx X.K W true it) fun W pw => allIt S it Γ W Wx X true (C.at pw.1) tg x h1 pw.2)
    (PG.un (P := PW' Γ []) (t := fun W => gT X.K W t) fun W p => snd_tg (C.at p.1) t _ h2) hb (folded_of (chkIt_okX h1) X.env)) fun D σ H z => ?_
  obtain ⟨F, Oc, H0, s, f, r, j⟩ := z
  simp only [evS] at j
  obtain ⟨O, k1, k2, k3⟩ := r.un f (escItM true it)
  refine ⟨dl s.1 (escItM true it), ⟨r.subd _, ndj_dl fun _ z => z⟩, s.2, O, H0, k3, JS.jg f r j fun items e2 j2 J H1 s1 sa => ?_⟩
  obtain ⟨roots, Keep, src, kp, rt⟩ := sa
  have rt := rt rfl
  subst rt
  let F' : (Addr → Prop) → Hp → Prop := fun O H => F O H ∧ Keep O H
  have f' : Frm F' Oc H0 := ⟨fun O H O' H' L z => ⟨f.lift _ _ _ _ L z.1, src.lift _ _ _ _ L (fun _ z => nomatch z) z.2⟩, f.dom⟩
  have back : ∀ {s σ H}, RelS F' Γ X.K Oc H0 s σ H → RelS F Γ X.K Oc H0 s σ H := fun z => by
    obtain ⟨⟨O, q1, q2, q3⟩, q4⟩ := z
    exact ⟨⟨O, q1.1, q2, q3⟩, q4⟩
  refine ⟨fun i m σ H => m = items.length - i ∧ i ≤ items.length ∧ ∃ s, RelS F' Γ X.K Oc H0 s σ H ∧ JS F Γ Wx X.K Oc H0 D (forGo t (evSs S b) (items.drop i) s), ⟨items.length, by simp, Nat.zero_le _, _, ⟨⟨O, ⟨f.lift _ _ _ _ (Lift.same s1) k1, kp⟩, k2, k3.same s1⟩, r.subd _⟩, by simpa using j2⟩, ?_⟩
  rintro i m σ H ⟨rfl, hi, s, r, j⟩
  obtain ⟨O, ⟨q1, q2⟩, q3, q4⟩ := r.ex
  by_cases c : i < items.length
  · refine .inr ⟨src.go _ i H q2 c, fun σ H => ∃ s, RelS F' Γ X.K Oc H0 s σ H ∧ JS F Γ Wx X.K Oc H0 D (forGo t (evSs S b) (items.drop (i + 1)) s), fun σ' H' z => ⟨items.length - (i + 1), by omega, rfl, c, z⟩, fun y H2 hy => ?_⟩
    obtain ⟨d, e3, s3, ry⟩ := src.yld _ i H y H2 q2 c hy
    have ed : items.drop i = d :: items.drop (i + 1) := by
      rw [List.drop_eq_getElem_cons c]
      have : items[i]? = some items[i] := by simp [c]
      rw [this] at e3
      rw [Option.some.inj e3]
    rw [ed] at j
    simp only [forGo] at j
    split at j
    · exact j.elim
    · rename_i ρ1 e4
      refine ⟨s.1, ⟨r.sub, fun _ z => nomatch z⟩, s.2, O, H0, d, ρ1, q4.same s3, ry, e4, fun σ' r' _ _ => ?_⟩
      refine ⟨F', Oc, H0, (s.1, ρ1), f', ⟨⟨O, ⟨f.lift _ _ _ _ (Lift.same s3) q1, src.lift _ _ _ _ (Lift.same s3) (fun _ z => nomatch z) q2⟩, q3, r'⟩, r.sub⟩, ?_⟩
      cases e5 : evSs S b (s.1, ρ1) with
      | nx s' => rw [e5] at j; exact fun σ H r => ⟨s', r, j⟩
      | ct s' => rw [e5] at j; exact fun σ H r => ⟨s', r, j⟩
      | bk s' => rw [e5] at j; exact fun σ H r => j σ H (back r)
      | rt d => rw [e5] at j; exact j
      | exc c i s' => rw [e5] at j; exact fun σ H cls dd r => j σ H cls dd (back r)
      | bad => rw [e5] at j; exact j
  · have ei : i = items.length := by omega
    subst ei
    rw [List.drop_length] at j
    exact .inl ⟨src.stop _ _ H q2 (Nat.le_refl _), j σ H (back r)⟩
end
end Fe
set_option Elab.async false
set_option linter.all false
set_option maxRecDepth 100000
set_option maxHeartbeats 4000000
/-! Fe, part K: super().__init__(x) over ValueError. -/
namespace PySem
namespace Vsx
abbrev veT : List Value := [.type "ValueError", .type "Exception", .type "BaseException", .type "object"]
abbrev mwr (x : Addr) : Obj := { cls := .type "method-wrapper", dict := none, data := .fields #[.builtin "ValueError.__init__", .ref x], slots := #[] }
theorem type_vi : typeOf (.builtin "ValueError.__init__") = pure (.type "wrapper_descriptor") := by
  show builtinType _ = _
  rw [builtinType_eq_fast]
  kernel_rfl
theorem nac_vi : (kfb_private% "nameAndClass") (Value.builtin "ValueError.__init__") = (pure (("__init__" : Str), Value.type "ValueError") : Sem (Str × Value)) := by kernel_rfl
theorem along_vi (K : W.Frag) : W.alongIn K "__init__" veT = some (some (.builtin "ValueError.__init__")) := by kernel_rfl
section
open PySem.W
variable {prog : Program} {w : World} {M : Model} {A : Around} {E : Value → Shared → Prop} {hp : Heap} {gs : Array GenState} {dn : Drawn} {tk : Nat} {os : OsState}
theorem get_vi {x C : Addr} {P : Fin → Shared → Prop} (isE : W.Looks M hp (isInstance (.ref x) (.type "ValueError")) true) (k : P (.done (.ret (.ref hp.objs.size))) ⟨hp.push (mwr x), gs, dn, tk, os⟩) :
    wpAny M A (Builtin.«wrapper_descriptor.__get__» ⟨[.builtin "ValueError.__init__", .ref x, .ref C], []⟩) P E ⟨hp, gs, dn, tk, os⟩ := by
  unfold Builtin.«wrapper_descriptor.__get__»
  refine wpAny_bind (wpAny_of_eq (a := (.builtin "ValueError.__init__", some (.ref x), some (.ref C))) (by first | rfl | kernel_rfl) ?_)
  show wpAny M A ((kfb_private% "checkInstance") (.builtin "ValueError.__init__") (.ref x) >>= fun _ => newFields "method-wrapper" [.builtin "ValueError.__init__", .ref x] >>= fun r => ret r) P E _
  refine wpAny_bind ?_
  show wpAny M A ((kfb_private% "nameAndClass") (.builtin "ValueError.__init__") >>= _) _ E _
  refine wpAny_bind (wpAny_of_eq nac_vi ?_)
  show wpAny M A (isInstance (.ref x) (.type "ValueError") >>= _) _ E _
  refine wpAny_bind (isE.at (KFB.if_not rfl (wpAny_pure (wpAny_bind (wpAny_newObj_type (wpAny_pure k))))))
theorem sup_vi {so D x C : Addr} {l₀ l : List Value} {K : Frag} {name : Str} {tok : Tok} {Q : Fin → Shared → Prop}
    (isS : hp.get? so = some { cls := .type "super", dict := none, data := .fields #[.ref D, .ref x, .ref C], slots := #[] }) (opq : W.Looks (model prog w) hp (opaqueClassAbove (.ref C)) none)
    (mro : W.Looks (model prog w) hp (mroOf (.ref C)) l₀) (cut : (l₀.dropWhile (· != .ref D)).drop 1 = l) (X : K.In hp)
    (fnd : alongIn K name l = some (some (.builtin "ValueError.__init__"))) (xC : x ≠ C) (nm : (name == ("__class__" : Str)) = false) (isE : W.Looks (model prog w) hp (isInstance (.ref x) (.type "ValueError")) true)
    (k : Q (.done (.ret (.ref hp.objs.size))) ⟨hp.push (mwr x), gs, dn, tk, os⟩) :
    wpAny (model prog w) A (Builtin.«super.__getattribute__» ⟨[.ref so, .str name tok], []⟩) Q E ⟨hp, gs, dn, tk, os⟩ := by
  have lk := ESX.slot_wd.lookup
  have ne : (Value.ref x == Value.ref C) = false := by simp [xC]
  have t1 := type_vi
  have t2 : Shared.TypeIs ⟨hp, gs, dn, tk, os⟩ (.builtin "ValueError.__init__") "wrapper_descriptor" := type_vi
  have ed : ({ cls := .type "super", dict := none, data := .fields #[.ref D, .ref x, .ref C], slots := #[] } : Obj).data = .fields #[.ref D, .ref x, .ref C] := rfl
  have p0 : (#[.ref D, .ref x, .ref C] : Array Value)[0]? = some (.ref D) := rfl
  have p1 : (#[.ref D, .ref x, .ref C] : Array Value)[1]? = some (.ref x) := rfl
  have p2 : (#[.ref D, .ref x, .ref C] : Array Value)[2]? = some (.ref C) := rfl
  unfold Builtin.«super.__getattribute__»
  repeat (first
    | (with_reducible refine wpAny_field isS ed p0 ?_) | (with_reducible refine wpAny_field isS ed p1 ?_) | (with_reducible refine wpAny_field isS ed p2 ?_)
    | (with_reducible refine ks_wpAny_notOpaque opq ?_)
    | (with_reducible refine Looks.at mro ?_; rw [cut])
    | (refine ks_forIn_along X (fun _ _ => rfl) rfl ?_ fnd)
    | (with_reducible refine wpAny_call_entry ESX.slot_wd t2 ESX.entry_wd ?_ (ESX.args_wd _ _ _))
    | (with_reducible refine get_vi isE ?_)
    | (with_reducible refine ⟨_, rfl, ?_⟩)
    | (simp only [nm, ne, Bool.or_false, Bool.false_eq_true, if_false])
    | wp_step
    | dsimp only)
  all_goals exact k
theorem meth_vi {so D x C : Addr} {l₀ l : List Value} {K : Frag} {name : Str} {pl : Sem Bool} {Q : Value × List Value → Shared → Prop}
    (isS : hp.get? so = some { cls := .type "super", dict := none, data := .fields #[.ref D, .ref x, .ref C], slots := #[] }) (opq : W.Looks (model prog w) hp (opaqueClassAbove (.ref C)) none)
    (mro : W.Looks (model prog w) hp (mroOf (.ref C)) l₀) (cut : (l₀.dropWhile (· != .ref D)).drop 1 = l) (X : K.In hp)
    (fnd : alongIn K name l = some (some (.builtin "ValueError.__init__"))) (xC : x ≠ C) (nm : (name == ("__class__" : Str)) = false) (isE : W.Looks (model prog w) hp (isInstance (.ref x) (.type "ValueError")) true)
    (k : Q (.ref hp.objs.size, []) ⟨hp.push (mwr x), gs, dn, tk + 1, os⟩) :
    wpAny (model prog w) A (getMethod (.ref so) name pl) Q E ⟨hp, gs, dn, tk, os⟩ := by
  have lk := F.ks_slot_super_ga.lookup
  have can := F.ks_canon_super_ga
  have ty : ∀ t', (⟨hp, gs, dn, t', os⟩ : Shared).TypeIs (.ref so) "super" := fun _ => ⟨_, isS, rfl⟩
  unfold getMethod
  refine wpAny_bind (wpAny_specialOf (ty _) lk ?_)
  show wpAny _ _ (if (Manifest.canonical "super.__getattribute__" != "object.__getattribute__") = true then _ else _) _ _ _
  rw [if_pos can]
  unfold getAttr getAttrBy
  refine wpAny_bind (wpAny_bind (wpAny_mkText (wpAny_holding (wpAny_bind (wpAny_typeOf (ty _) (wpAny_bind (wpAny_of_eq lk ?_)))))))
  show wpAny _ _ (getAttrByItsOwn (.ref so) (.str name tk) (.type "super") (.builtin "super.__getattribute__") true false) _ _ _
  unfold getAttrByItsOwn hookBefore callGetattribute boundAndCalled
  refine wpAny_bind (wpAny_of_eq (show (if onTheHeap (.type "super") then typeLookup (.type "super") "__getattr__" else pure none) = pure none from rfl) ?_)
  refine wpAny_bind (wpAny_attempt (wpAny_holding ?_))
  show wpAny _ _ (bindSpecial (.builtin "super.__getattribute__") (.ref so) >>= _) _ _ _
  refine wpAny_bind (wpAny_of_eq (F.ks_slot_super_ga.bind _) ?_)
  refine wpAny_mono (Q := fun v s' => v = .ref hp.objs.size ∧ s' = ⟨hp.push (mwr x), gs, dn, tk + 1, os⟩) (E := fun _ _ => False)
    (wpAny_call_entry F.ks_slot_super_ga (ty _) F.ks_entry_super_ga (sup_vi isS opq mro cut X fnd xC nm isE ⟨_, rfl, rfl, rfl⟩) (F.ks_gaArgs_super _ _)) (fun v s' e => ?_) fun _ _ z => z.elim
  obtain ⟨e1, e2⟩ := e
  subst e1
  subst e2
  exact wpAny_pure (wpAny_pure k)
end
section
open PySem.W PySem.Calls PyProof.Rows
variable {prog : Program} {w : World} {M : Model} {A : Around} {E : Value → Shared → Prop} {s : Shared}
theorem cw_mwr {pos : Pos} {u x : Addr} {first : List Value} {args : List (Bool × Sem Value)} {Q : Value → Shared → Prop} (pl : args.any (·.1) = false)
    (h : wpAny M A (evalArgs (.ref u) true args []) (fun a s₁ => s₁.heap.get? u = some (mwr x) ∧ wpAny M A (call (.ref u) (first ++ a.pos) a.kw) Q E s₁) E s) : wpAny M A (callWith pos (.ref u) first args []) Q E s := by
  unfold callWith
  refine wpAny_bind (wpAny_holding (wpAny_mono h (fun a s₁ q => wpAny_bind (wpAny_standAt ?_)) fun _ _ z => z))
  obtain ⟨at_, cl⟩ := q
  simp only [pl, List.any_nil, Bool.or_false]
  refine wpAny_bind (m := keeperOf (.ref u)) ?_
  unfold keeperOf
  refine wpAny_bind (wpAny_load at_ ?_)
  simp only [mwr, show (Value.type "method-wrapper" != Value.type "method") = true by decide, show (Value.type "method-wrapper" == Value.type "builtin_function_or_method" || Value.type "method-wrapper" == Value.type "method-wrapper") = true by decide, if_true]
  exact wpAny_pure (wpAny_bind (wpAny_mono cl (fun r s₂ z => wpAny_bind (wpAny_holding (wpAny_point (wpAny_pure z)))) fun _ _ z => z))
theorem cw_bound {pos : Pos} {u x : Addr} {first : List Value} {env : Env} {e : Expr} {rest : List Expr} {Q : Value → Shared → Prop}
    (h : wpAny M A (spliced (backTo pos (starEach (e :: rest) env))) (fun vs s₁ => s₁.heap.get? u = some (mwr x) ∧ wpAny M A (call (.ref u) (first ++ vs)) Q E s₁) E s)
    (he : starEach (e :: rest) env = (false, eval e env) :: starEach rest env := by rfl) (pl : (backTo pos (starEach rest env)).any (·.1) = false := by rfl) :
    wpAny M A (callWith pos (.ref u) first (backTo pos (starEach (e :: rest) env)) []) Q E s := by
  rw [he] at h ⊢
  exact cw_mwr (x := x) (by show (false || (backTo pos (starEach rest env)).any (·.1)) = false; rw [pl]; rfl) (evalArgs_plain h)
end
section
variable {prog : Program} {w : World} {A : Around} {E : Value → Shared → Prop} {hp : Heap} {gs : Array GenState} {dn : Drawn} {tk : Nat} {os : OsState}
variable {nm q : Str} {C N : Addr} {bs bm : List Value} {hdct : Bool} {sn : List Str} {sub : List Value} {ab : Bool} {col : Option Bool} {dd : Option Addr} {k0 k1 k2 k3 k5 : Option Value}
theorem call_mwr {u e t0 : Addr} {rest : List Value} {Q : Value → Shared → Prop}
    (hC : hp.get? C = some (excClassObj nm q C N bs bm hdct sn sub ab col dd k0 k1 k2 k3 k5 "ValueError.__new__")) (he : hp.get? e = some (HandSPX.excO C t0)) (hu : hp.get? u = some (mwr e)) (few : rest.length ≤ sizeLine)
    (k : ∀ h' t1, (∀ b o, b ≠ e → hp.get? b = some o → h'.get? b = some o) → h'.get? e = some (HandSPX.excO C t1) → Q .none ⟨h', gs, dn, tk, os⟩) :
    wpAny (model prog w) A (call (.ref u) rest) Q E ⟨hp, gs, dn, tk, os⟩ := by
  refine wpAny_call (codeAny_of_tree ?_)
  show wpAny _ A.in1 (callAny (.ref u) ⟨rest, []⟩) _ _ _
  simp only [callAny]
  refine wpAny_bind (wpAny_load hu ?_)
  simp only [mwr, show (Value.type "method-wrapper" == Value.type "method" || Value.type "method-wrapper" == Value.type "builtin_function_or_method" || Value.type "method-wrapper" == Value.type "method-wrapper") = true by decide, if_true]
  refine W.KFB.if_so (by decide) ?_
  refine wpAny_bind (ESX.check_bound F.excBase_ValueError hC he rfl ?_)
  refine wpAny_bind (wpAny_pure (wpAny_pure ?_))
  refine ⟨Code.quiet_builtin _ (by decide +kernel), codeAny_builtin F.excBase_ValueError.initEntry ?_⟩
  rw [Around.under_plainId F.excBase_ValueError.init.plain _]
  wp_walk
  refine k _ hp.objs.size (fun b o ne ho => ?_) ?_
  · exact (Heap.get?_update_other _ _ (Ne.symm ne)).trans (Heap.get?_push_of_some _ ho)
  · refine (Heap.get?_update_self _ (Heap.get?_push_of_some _ he) rfl).trans ?_
    rfl
end
end Vsx
end PySem
set_option Elab.async false
set_option linter.all false
set_option maxRecDepth 100000
set_option maxHeartbeats 4000000
/-! Fe, part L: the own errors' __init__; raising and catching. -/
namespace Fe
open PySem PySem.Spec PyProof.Rows L2
/-- what must be seen of the class D whose __init__ is f, with its cell cc and its code at ca -/
structure IniF (P : Program) (K : PySem.W.Frag) (mg : Str → Option Value) (D f cc ca : Addr) (name qual : Str) (params : Arguments) (scope : Scope) (body : List Stmt) : Prop where
  lk : ∃ oc od osl kV doc pm an ct, K.lookup f = some ⟨oc, od, .func (PySem.W.ksFn name qual params body scope .none kV doc pm an (.ref ca) ct cc), osl⟩
  hcd : PySem.W.codeIn K (.ref ca) qual = true
  code : ∃ ccl cdd vs ccs file tf, K.lookup ca = some ⟨ccl, cdd, .fields vs, ccs⟩ ∧ vs[2]? = some (.str file tf) ∧ ((P.main.file : Str) == file) = true
  cell : ∃ cl cld csl, K.lookup cc = some ⟨cl, cld, .cell (some (.ref D)), csl⟩
  cls : ∃ cd, PySem.W.clsIn K D = some cd
  top : (P.main.scope.names.lookup ("super" : Str)).isSome = false
  sup : mg "super" = none
  par : ∃ ar, (params.posonlyargs ++ params.args).head? = some ar ∧ ar.arg = ("self" : Str)
  scp : NdefX.NScope [("self" : Str), "at", "__class__"] [("self" : Str), "at"] [("__class__" : Str)] scope
  ks : scope.names.lookup ("super" : Str) = some .globalImplicit
  bod : ∃ p0 p1 p2 p3 p4 p5 p6 p7 p8 p9, body = [.Expr (.Call (.Attribute (.Call (.Name "super" p0) [] [] p1) "__init__" p2) [.Name "at" p3] [] p4) p5, .Assign [.Attribute (.Name "self" p6) "at" p7] (.Name "at" p8) p9] ∧
    ∃ pl : PySem.Env → Sem Bool, ∀ env : PySem.Env, eval (.Call (.Attribute (.Call (.Name "super" p0) [] [] p1) "__init__" p2) [.Name "at" p3] [] p4) env = (do
      let ov ← attributeBase (.Call (.Name "super" p0) [] [] p1) "__init__" env (eval (.Call (.Name "super" p0) [] [] p1) env)
      standAt p2.atName
      let (f, first) ← holding [ov] (getMethod ov "__init__" (pl env))
      callWith p4 f first (backTo p4 (starEach [.Name "at" p3] env)) [])
  opq : PySem.W.nsIn K cStatics "thirdparty.any" = some none
/-- .. of a class C below it -/
structure SubF (K : PySem.W.Frag) (D C : Addr) : Prop where
  ex : OexC K C
  sub : PySem.W.mroIn K C (.ref D) = some true
  ve : PySem.W.mroIn K C (.type "ValueError") = some true
  cut : ∃ cd, PySem.W.clsIn K C = some cd ∧ (cd.mro.dropWhile (· != .ref D)).drop 1 = PySem.Vsx.veT
  at_ : PySem.W.findIn K (.ref C) "at" = some none
def spI (K : PySem.W.Frag) (D : Addr) : Sp := fun vs H Q _ => ∃ (a C : Addr) (i : Int), vs = [.ref a, .int i] ∧ SubF K D C ∧ H a = some (exo a C none) ∧
  ∀ d, H d = none → d ≠ a → Q .non (upd (upd H d (exd d [("at", .int i)])) a (exo a C (some d)))
theorem ini_ok {CX : CXT} {P : Program} {w : World} {K : PySem.W.Frag} {mg : Str → Option Value} {base : Heap} {k : Nat} {D f cc ca : Addr} {name qual : Str} {params : Arguments} {scope : Scope} {body : List Stmt}
    (F : IniF P K mg D f cc ca name qual params scope body) : ∃ fd, FnOk P w K mg base CX (k + 1) f fd [("self" : Str), "at"] (spI K D) ∧ fd.params = params ∧ (∃ o, K.lookup f = some o ∧ o.data = .func fd) := by
  obtain ⟨oc, od, osl, kV, doc, pm, an, ct, lk⟩ := F.lk
  refine ⟨_, ⟨fun vs H Q E q => ?_, fun A outer s H args us vs Q E hr e0 hb r hsp => ?_⟩, rfl, _, lk, rfl⟩
  · obtain ⟨a, C, i, rfl, _⟩ := q
    rfl
  obtain ⟨a, C, i, rfl, T, ea, q⟩ := hsp
  have KX : K.In s.heap := e0.mod.kin.keeps fun b o e => (e0.bs b o e).1
  have lim : s.heap.NoLimit := e0.mod.nolimit.keeps fun b o e => (e0.bs b o e).1
  obtain ⟨cl, cld, csl, hcell⟩ := F.cell
  have S := F.scp
  refine PySem.ks_codeAny_call_defAt (fd := PySem.W.ksFn name qual params body scope .none kV doc pm an (.ref ca) ct cc) (body := body) hr.depth (KX _ _ lk) rfl lim (PySem.W.codeRec_of KX F.hcd) rfl hb S.nocell (fun ⟨n, v⟩ hy => S.par n (List.of_mem_zip hy).1) (fun h₁ hns kp => ?_) S.co S.gen S.kind
  obtain ⟨p0, p1, p2, p3, p4, p5, p6, p7, p8, p9, ebd, plm, hpl⟩ := F.bod
  let NFn : NdefX.NF := ⟨name, qual, params, body, scope, [("__class__", cc)], ca⟩
  have cl1 : ∀ {y : Str} {c : Addr}, NFn.cl.lookup y = some c → y = ("__class__" : Str) ∧ c = cc := fun {y c} e => by
    have e : List.lookup y [(("__class__" : Str), cc)] = some c := e
    cases h : (y == ("__class__" : Str)) with
    | true =>
      simp only [List.lookup, h] at e
      exact ⟨by simpa using h, (Option.some.inj e).symm⟩
    | false =>
      simp only [List.lookup, h] at e
      cases e
  have hcc : ∃ v, s.heap.IsCell cc v := ⟨_, _, KX _ _ hcell, rfl⟩
  have ncc : H cc = none := (e0.bs _ _ (e0.mod.kin _ _ hcell)).2
  have C0 : NdefX.CellsAt NFn.cl [("__class__" : Str)] [some (.ref D)] s.heap H := by
    refine ⟨rfl, fun y c e => ?_, fun x y c e1 e2 => (cl1 e1).1.trans (cl1 e2).1.symm, fun i y e => ?_⟩
    · rw [(cl1 e).2]; exact ⟨ncc, hcc⟩
    · cases i with
      | zero =>
        have e : some ("__class__" : Str) = some y := e
        cases e
        refine ⟨cc, rfl, fun v ev => ?_⟩
        have ev : some (some (V.ref D)) = some (some v) := ev
        cases ev
        exact ⟨.ref D, rfl, ⟨_, KX _ _ hcell, rfl⟩⟩
      | succ i => simp at e
  have I : Inv (NdefX.ncx CX P w K mg base [("self" : Str), "at", "__class__"] NFn f A outer s H E) [] (NdefX.startF [("self" : Str), "at", "__class__"] [.ref a, .int i] [some (.ref D)]) H { s with heap := h₁, toks := s.toks + ([("self" : Str), "at"].zip us).length } :=
    NdefX.inv_startN S hr.hd e0 rfl r C0 hns kp
  have kse : scope.names.lookup ("self" : Str) = some .local := S.par _ (by simp)
  have kat : scope.names.lookup ("at" : Str) = some .local := S.par _ (by simp)
  have kcl : scope.names.lookup ("__class__" : Str) = some .free := S.frk _ (by simp)
  obtain ⟨ccl, cdd, cvs, ccs, file, tf, hcode, hvs, hfile⟩ := F.code
  obtain ⟨ar, hp, har⟩ := F.par
  obtain ⟨mb, b1, b2⟩ := I.mod.blt
  obtain ⟨cd, hD⟩ := F.cls
  obtain ⟨oD, hD1, hD2⟩ : ∃ oD, h₁.get? D = some oD ∧ oD.data = .cls cd := by
    unfold PySem.W.clsIn at hD
    split at hD
    · rename_i ho
      cases hD
      exact ⟨_, I.kIn _ _ ho, rfl⟩
    · cases hD
  obtain ⟨t0, hoa⟩ := exo_at I.hok ea
  obtain ⟨m, hm1, hm2⟩ := I.loc
  obtain ⟨u0, ru0, l0⟩ := hm2 0 ("self" : Str) (.ref a) rfl rfl (.inl kse)
  obtain rfl : u0 = Value.ref a := ru0
  have l0 : m ("self" : Str) = some (.ref a) := by
    rcases l0 with ⟨_, z⟩ | ⟨z, _⟩
    · exact z
    · have z : scope.names.lookup ("self" : Str) = some .cell ∨ scope.names.lookup ("self" : Str) = some .free := z
      rw [kse] at z
      rcases z with z | z <;> cases z
  obtain ⟨cdC, hcC, cut⟩ := T.cut
  show PySem.wpAt (model P w) (A.deeper (NdefX.envF NFn f s.heap.objs.size)) (.func body (NdefX.envF NFn f s.heap.objs.size)) (execs body (NdefX.envF NFn f s.heap.objs.size)) _ _ _
  rw [ebd]
  refine PySem.ks_wpAt_execs_cons (PySem.ks_wpAt_Expr_any (PySem.ks_wpAt_MethodCall (PySem.ks_wpAt_super_base F.ks kcl (by decide) rfl (I.kIn _ _ lk) rfl hp rfl (I.kIn _ _ hcode) rfl hvs hfile F.top ?_) (hpl _)) I.quiet)
  refine PySem.W.ks_loadName_global S.kind F.ks (Calls.loadGlobal_builtin (I.mod.glob.keeps I.bk) F.sup (b1.keeps I.bk) ((b2 ("super" : Str) (by decide)).trans PyProof.Rows.Boot.«super») ⟨rfl, ?_⟩)
  refine wpAny_loadName_free S.kind kcl rfl ⟨_, I.kIn _ _ hcell, rfl⟩ ?_
  rw [har]
  refine wpAny_loadName_local S.kind kse hm1 l0 ?_
  refine PySem.ks_wpAny_isType_cls hD1 hD2 ⟨rfl, ?_⟩
  have KX1 : K.In h₁ := I.kIn
  refine PySem.ks_wpAny_call_super hD1 hD2 hoa rfl (fun c => by intro z; cases z) (PySem.W.looks_mroIn KX1 T.sub) (fun h' eS kp' => ?_)
  have eS' := eS
  have hoa' := kp' _ _ hoa
  have KX2 : K.In h' := KX1.keeps kp'
  have I1 : Inv (NdefX.ncx CX P w K mg base [("self" : Str), "at", "__class__"] NFn f A outer s H E) [] (NdefX.startF [("self" : Str), "at", "__class__"] [.ref a, .int i] [some (.ref D)]) H { s with heap := h', toks := s.toks + ([("self" : Str), "at"].zip us).length } := I.kept kp'
  have aC : a ≠ C := PySem.W.ks_ne KX2 (ox := _) (odx := none) ⟨hoa', rfl, rfl, trivial⟩ hcC
  have J : PySem.W.InstAt h' a _ C none := ⟨hoa', rfl, rfl, trivial⟩
  have isE : PySem.W.Looks (model P w) h' (isInstance (.ref a) (.type "ValueError")) true := J.type.andThen (PySem.W.looks_mroIn KX2 T.ve)
  refine PySem.Vsx.meth_vi eS (PySem.W.looks_opaque KX2 F.opq) (l₀ := cdC.mro) ((PySem.W.looks_clsIn KX2 hcC).andThen .now) cut KX2 (PySem.Vsx.along_vi K) aC rfl isE ?_
  refine PySem.Vsx.cw_bound (x := a) ?_
  let X := NdefX.ncx CX P w K mg base [("self" : Str), "at", "__class__"] NFn f A outer s H E
  have I2 : Inv X [] (NdefX.startF [("self" : Str), "at", "__class__"] [.ref a, .int i] [some (.ref D)]) H ⟨h'.push (PySem.Vsx.mwr a), s.gens, s.drawn, s.toks + ([("self" : Str), "at"].zip us).length + 1, s.os⟩ :=
    (I1.kept (t' := s.toks + ([("self" : Str), "at"].zip us).length + 1) fun b o e => Heap.get?_push_of_some _ e)
  have hu2 : (h'.push (PySem.Vsx.mwr a)).get? h'.objs.size = some (PySem.Vsx.mwr a) := Heap.get?_push_at rfl rfl
  have I3 : Inv X [(h'.objs.size, PySem.Vsx.mwr a)] (NdefX.startF [("self" : Str), "at", "__class__"] [.ref a, .int i] [some (.ref D)]) H ⟨h'.push (PySem.Vsx.mwr a), s.gens, s.drawn, s.toks + ([("self" : Str), "at"].zip us).length + 1, s.os⟩ := I2.pins_of fun p hp => by
    have hp : p = (h'.objs.size, PySem.Vsx.mwr a) := by simpa using hp
    subst hp
    exact ⟨hu2, I1.hok.fresh (Nat.le_refl _), Nat.ne_of_gt I1.lt, I1.nofs (Nat.le_refl _), fun v z => by cases z⟩
  have pat : PE X (.Name "at" p3) (tVar 1) := pe_var (X := X) (i := 1) rfl (.inl kat)
  refine thn ((pa1 (X := X) (x := .Name "at" p3) rfl pat).run p4 _ _ _ H (fun vs H' => vs = [.int i] ∧ H' = H) I3 ⟨_, rfl, rfl, rfl⟩) fun us4 s4 ⟨vs4, H4, I4, r4, e4, e5⟩ => ?_
  subst e4
  subst e5
  obtain ⟨g1, _⟩ := I4.pin (h'.objs.size, PySem.Vsx.mwr a) (List.mem_append_right _ (List.mem_cons_self ..))
  refine ⟨g1, ?_⟩
  obtain ⟨nm, qq, N, bs, bm, sn, sub, ab, col, dd, k0, k1, k2, k3, k5, hC, hbm⟩ := T.ex.cls
  obtain ⟨t4, ho4⟩ := exo_at I4.hok ea
  obtain ⟨hp4, gs4, dn4, tk4, os4⟩ := s4
  have few : us4.length ≤ sizeLine := by
    rw [← Paired.length r4, sizeLine_eq]
    simp
  refine PySem.Vsx.call_mwr (I4.kIn _ _ hC) ho4 g1 few fun h5 t5 k5' hx5 => ?_
  have I5 := I4.write (t' := tk4) (x := a) (e := a) (o := exo a C none) (by rw [ea]; exact True.intro) (.inl rfl) k5' ⟨_, hx5⟩ (exo_ok hx5)
  have eu : upd H4 a (exo a C none) = H4 := by
    funext b
    by_cases z : b = a
    · rw [z, upd_same, ea]
    · exact upd_ne z
  rw [eu] at I5
  have I6 : Inv X [] (NdefX.startF [("self" : Str), "at", "__class__"] [.ref a, .int i] [some (.ref D)]) H4 ⟨h5, gs4, dn4, tk4, os4⟩ := I5.pins_of fun p z => nomatch z
  have pse : PE X (.Name "self" p6) (tVar 0) := pe_var (X := X) (i := 0) rfl (.inl kse)
  have pa8 : PE X (.Name "at" p8) (tVar 1) := pe_var (X := X) (i := 1) rfl (.inl kat)
  have pso : PSs X [.Assign [.Attribute (.Name "self" p6) "at" p7] (.Name "at" p8) p9] (tOst X.K "at" (tVar 0) (tVar 1)) := pss_one (ps_ost pse pa8)
  have run := pso.run [] _ _ _ { nx := fun _ H' => Q .non H', rt := Q } I6 ⟨_, rfl, _, rfl, a, C, rfl, T.ex, T.at_, .inl ⟨ea, fun d n ne => q d n ne⟩⟩
  refine wpAt_of_wpAny (wpAny_mono run (fun fl s' hs => ?_) fun e s' hs => hs)
  have fin : ∀ {σ' : L2.St} {H' : Hp} {v : V} {u : Value}, Inv X [] σ' H' s' → RelV v u → Q v H' → CE outer P w H4 s Q u s' := fun {σ' H' v u} J rv q => ⟨v, H', J.os, J.bare, J.base, J.hok, rv, q⟩
  cases fl with
  | ret u =>
    obtain ⟨v, σ', H', J, rv, q⟩ := hs
    exact fin J rv q
  | next =>
    obtain ⟨σ', H', J, q⟩ := hs
    exact fin (v := V.non) (u := Value.none) J rfl q
  | brk =>
    obtain ⟨_, _, _, z⟩ := hs
    exact z.elim
  | cont =>
    obtain ⟨_, _, _, z⟩ := hs
    exact z.elim
end Fe
set_option Elab.async false
set_option linter.all false
set_option maxRecDepth 100000
set_option maxHeartbeats 4000000
/-! Fe, part M: raise and try. -/
namespace Fe
open PySem PySem.Spec PyProof.Rows L2

/-! ### raise -/
/-- a reading, closed upwards -/
def clT (t : TE) : TE := fun σ H Q => ∃ Q0 : VK, t σ H Q0 ∧ ∀ v H', Q0 v H' → Q v H'
theorem PE.cl {X : Cx} {e : Expr} {t : TE} (h : PE X e t) : PE X e (clT t) := ⟨fun pins s σ H Q I ⟨Q0, z, k⟩ => thn (h.run pins s σ H Q0 I z) fun _ _ ⟨v, H', I', r, q⟩ => ⟨v, H', I', r, k v H' q⟩⟩
theorem mk_ok {CX : CXT} {X : Cx} {c : Str} {k : Nat} {D fI : Addr} {fd : FuncData} {x : Expr} {t : TE} {p pos : Pos} (T : SubF X.K D (He.ga X.K c)) (iC : PySem.W.findIn X.K (.ref (He.ga X.K c)) "__init__" = some (some (.ref fI))) (tI : PySem.W.typeIn X.K (.ref fI) = some (.type "function"))
    (F1 : FnOk X.prog X.w X.K X.mg X.base CX k fI fd [("self" : Str), "at"] (spI X.K D)) (hr : Room (k + 1) X.A) (hb : Binds X.K fd [("self" : Str), "at"] []) (hx : Passes CX X (fun _ _ _ => False)) (hg : Gl X c) (hm : X.mg c = some (.ref (He.ga X.K c))) (hd : (c == ("__debug__" : Str)) = false)
    (ok : okX x = true) (h : PE X x t) : PMk X (.Call (.Name c p) [x] [] pos) (tMk X.K c t) := by
  have q := pmk_oex (p := p) (pos := pos) T.ex iC tI F1 hr hb (.nil : Vals [] []) hx hg hm (pa1 ok (PE.cl h)) hd (star_of ok [] X.env)
  intro pins s σ H Q I z
  refine q pins s σ H Q I ⟨_, z, fun v H1 ⟨i, e, z⟩ => ⟨by simp, fun a na => ⟨a, _, i, by rw [e]; rfl, T, upd_same, fun d nd ne => ⟨rfl, d, _, upd_same, (upd_ne ne).trans upd_same, ?_, ?_⟩⟩⟩⟩
  · rw [upd_ne ne] at nd
    exact nd
  · have nd : H1 d = none := by rw [upd_ne ne] at nd; exact nd
    refine z _ _ _ (fun b u hb => ?_) ⟨d, rfl, rfl, upd_same⟩
    have b1 : b ≠ d := ne_of_none hb nd
    have b2 : b ≠ a := ne_of_none hb na
    rw [upd_ne b1, del_ne b2, upd_ne b2, upd_ne b1, upd_ne b2]
    exact hb

/-! ### try, with several clauses that name the error -/
abbrev TCl := Addr → Value → Option Addr → TS
def outE (i : Nat) (D : Ends) : Ends := { nx := fun σ H => D.nx (σ.set i none) H, rt := D.rt, bk := fun σ H => D.bk (σ.set i none) H, ct := fun σ H => D.ct (σ.set i none) H }
/-- what the clauses wish of an error, one after the other -/
def wAll (K : PySem.W.Frag) (i : Nat) (Wo : WX) (D : Ends) : List (Value × TCl) → WX
  | [] => Wo
  | (c, t) :: r => fun cls d σ H => ∃ b, PySem.W.exmOne K cls c = some b ∧ (b = true → ∀ a, H a = none → t a cls d (outE i D) (σ.set i (some (.ref a))) H) ∧ (b = false → wAll K i Wo D r cls d σ H)
inductive HdAs (X : Cx) (n : Str) : List ExceptHandler → List (Value × TCl) → Prop
  | nil : HdAs X n [] []
  | cons {x : Str} {c : Value} {t : TCl} {st : Stmt} {sts : List Stmt} {p q : Pos} {hs : List ExceptHandler} {l : List (Value × TCl)} (nm : Names X x c)
      (su : ∀ (a : Addr) (oe : Obj) (cls : Value) (d : Option Addr) (pn : List (Addr × Obj)), Zc cls d oe → (∃ vs, oe.data = .fields vs) → PSs (X.suite a ((a, oe) :: pn)) (st :: sts) (t a cls d)) (r : HdAs X n hs l) :
      HdAs X n (.ExceptHandler (some (.Name x p)) (some n) (st :: sts) q :: hs) ((c, t) :: l)
theorem ps_tries {X : Cx} {n : Str} {i : Nat} {body : List Stmt} {h₀ : ExceptHandler} {hds : List ExceptHandler} {l : List (Value × TCl)} {pos : Pos} {tb : WX → TS} {Wo : WX}
    (hs : X.stack = X.env :: X.outer) (hf : X.env.frame = some X.env.locals) (hN : X.N.Nodup) (hi : X.N[i]? = some n) (hl : X.env.kindOf n = some .local) (tk : Takes X Wo)
    (hb : ∀ (W : WX) (pn : List (Addr × Obj)) (xe : Value → Shared → Prop), Takes (X.tr pn xe) W → PassesOwn (model X.prog X.w) X.A X.env xe → PSs (X.tr pn xe) body (tb W))
    (hh : HdAs X n (h₀ :: hds) l) : PS X (.Try body (h₀ :: hds) [] [] pos) (fun D σ H => tb (wAll X.K i Wo D l) D σ H) := by
  refine ⟨fun pins s σ H D I h => ?_⟩
  have okX := I.ok
  have fr : X.A.frames = some (X.env :: X.outer) := by rw [okX.frames, hs]
  have loc : Loc X.env.scope n := .inl hl
  refine wpAny_Try_except (wpAny_mono ((hb (wAll X.K i Wo D l) (X.pn ++ pins) (fun e s1 => wpAny (model X.prog X.w) X.A (noteFrame e X.env) (fun _ s2 => wpAny (model X.prog X.w) X.A (setFlight e none) (fun _ s3 =>
    wpAny (model X.prog X.w) X.A (handleBy e X.env (h₀ :: hds)) (SP X pins D) X.xe s3) X.xe s2) X.xe s1) (fun u s' xx => ?_) PassesOwn.looking).run [] s σ H D (I.toTry _) h) (fun f s1 sp => ?_) (fun e s1 he => he))
  · obtain ⟨a, B, sJ, pins1, τ, G, cls, d, rfl, J1, nb, up, sky, na, os, ag, want⟩ := xx
    have J : Inv X pins τ G sJ := J1.ofTry okX
    have sky1 : Sky B (X.env :: X.outer) a (Zc cls d) X.env.locals s'.heap := by rw [← hs]; exact sky
    show wpAny (model X.prog X.w) X.A (noteFrame (.ref a) X.env) _ _ _
    refine Sky.land Zc.steady fr hf sky1 fun k3 land upk => ?_
    have J3 : Inv X pins τ G { s' with heap := k3 } := J.landed nb land.1 (up.trans upk) os ag
    obtain ⟨ob3, fv3, g3, z3, f3⟩ := land.there
    have nofr : a ∉ frs (X.env :: X.outer) := fun mm => by
      obtain ⟨_, o2, e2, nd⟩ := land.2.2.1.mem mm
      rw [g3] at e2
      cases e2
      exact nd _ f3
    have aL : a ≠ X.env.locals := fun z => nofr (List.mem_filterMap.mpr ⟨X.env, List.mem_cons_self, by rw [hf, z]⟩)
    have aF : a ∉ X.fs := fun mm => by
      obtain ⟨e2, m2, q2⟩ := List.mem_filterMap.mp mm
      exact nofr (List.mem_filterMap.mpr ⟨e2, List.mem_cons_of_mem _ m2, q2⟩)
    have S3 := J3.suite g3 f3 na aL aF
    have go : ∀ {hs1 : List ExceptHandler} {l1 : List (Value × TCl)}, HdAs X n hs1 l1 → wAll X.K i Wo D l1 cls d τ G → wpAny (model X.prog X.w) X.A (handleBy (.ref a) X.env hs1) (SP X pins D) X.xe { s' with heap := k3 } := by
      intro hs1 l1 hk
      induction hk with
      | nil =>
        intro want
        refine wpAny_handleBy_nil ?_
        obtain ⟨_, _, _, oe, vs, T, oT, _, ge, _, de, v1, _⟩ := id land
        unfold PySem.passOn
        refine wpAny_bind (wpAny_field ge de v1 ?_)
        have nn : ¬ ((Value.ref T == Value.none) = true) := by simp
        rw [if_neg nn]
        have last : wpAny (model X.prog X.w) X.A (setFlight (.ref a) X.env.frame) (fun _ s4 => wpAny (model X.prog X.w) X.A (throw (.ref a) : Sem Flow) (SP X pins D) X.xe s4) X.xe { s' with heap := k3 } := by
          rw [hf]
          exact HandSPX.setFlight_upZ land fun k4 fly up4 => wpAny_throw (tk _ _ ⟨a, B, sJ, pins, τ, G, cls, d, rfl, J, nb, (up.trans upk).trans up4, .inr (.inr (by rw [hs]; exact fly)), na, os, ag, want⟩)
        first
          | exact wpAny_bind (wpAny_pure (wpAny_bind last))
          | exact wpAny_bind last
      | @cons x c t st sts p q hs2 l2 nm su r ih =>
        intro want
        obtain ⟨b, eb, yes, no⟩ := want
        refine wpAny_handleBy_cons (codeAny_handlers_test ?_) (by intro z; cases z)
        have ty : PySem.W.Looks (model X.prog X.w) k3 (typeOf (.ref a)) cls := fun A Q E s k z => wpAny_typeOf_ref (k _ _ g3) (by rw [z3.1]; exact z)
        have isX := PySem.W.exm_one (M := model X.prog X.w) (J3.kIn) ty eb
        have name : ∀ {Q : Value → Shared → Prop} {E : Value → Shared → Prop}, Q c { s' with heap := k3 } → wpAny (model X.prog X.w) (X.A.mark (some (.ref a))) (eval (.Name x p) X.env) Q E { s' with heap := k3 } := fun {Q E} z => by
          obtain ⟨e1, e2, e3 | ⟨e3, e4, e5⟩⟩ := nm
          · exact ld_glob (X := X.suite a ((a, ob3) :: (X.pn ++ pins))) S3 e1 e3 z e2
          · exact ld_blt (X := X.suite a ((a, ob3) :: (X.pn ++ pins))) S3 e1 e3 e4 z e5 e2
        refine name (isX.here ?_)
        cases b with
        | false =>
          show wpAny _ X.A (handleBy (.ref a) X.env hs2) _ _ _
          exact ih (no rfl)
        | true =>
          refine codeAny_handlers_suite_as (HandSPX.lands_againZ land fun k4 land4 up4 => ?_)
          have J4 : Inv X pins τ G { s' with heap := k4 } := J.landed nb land4.1 ((up.trans upk).trans up4) os ag
          obtain ⟨ob4, fv4, g4, z4, f4⟩ := land4.there
          refine store_ok (X := X.suite a ((a, ob4) :: (X.pn ++ pins))) (v := .ref a) (J4.suite g4 f4 na aL aF) hN hi loc rfl (fun s5 S5 => ?_) (.inr hl)
          refine wpAny_mono ((su a ob4 cls d (X.pn ++ pins) z4 ⟨_, f4⟩).run [] s5 _ G _ S5 (yes rfl a na)) (fun f s6 sp => ?_) (fun _ _ z => z.elim)
          have stop : ∀ {σ6 : L2.St} {H6 : Hp} {Q : Shared → Prop}, Inv (X.suite a ((a, ob4) :: (X.pn ++ pins))) [] σ6 H6 s6 → (∀ s7, Inv X pins (σ6.set i none) H6 s7 → Q s7) →
              wpAny (model X.prog X.w) X.A (do bindName X.env n .none; unbindBehindTheSuite X.env n q) (fun _ s7 => Q s7) X.xe s6 := fun {σ6 H6 Q} S6 k => gone_ok (S6.unsuite okX) hN hi hl k
          cases f with
          | next => obtain ⟨σ6, H6, S6, q6⟩ := sp; exact stop S6 fun s7 J7 => ⟨_, _, J7, q6⟩
          | brk => obtain ⟨σ6, H6, S6, q6⟩ := sp; exact stop S6 fun s7 J7 => ⟨_, _, J7, q6⟩
          | cont => obtain ⟨σ6, H6, S6, q6⟩ := sp; exact stop S6 fun s7 J7 => ⟨_, _, J7, q6⟩
          | ret u => obtain ⟨v6, σ6, H6, S6, r6, q6⟩ := sp; exact stop S6 fun s7 J7 => ⟨_, _, _, J7, r6, q6⟩
    exact go hh want
  · cases f with
    | next => obtain ⟨τ, G, J, q⟩ := sp; exact wpAny_execs_nil ⟨τ, G, J.ofTry okX, q⟩
    | brk => obtain ⟨τ, G, J, q⟩ := sp; exact ⟨τ, G, J.ofTry okX, q⟩
    | cont => obtain ⟨τ, G, J, q⟩ := sp; exact ⟨τ, G, J.ofTry okX, q⟩
    | ret u => obtain ⟨v, τ, G, J, r, q⟩ := sp; exact ⟨v, τ, G, J.ofTry okX, r, q⟩
end Fe
set_option Elab.async false
set_option linter.all false
set_option maxRecDepth 100000
set_option maxHeartbeats 4000000
/-! Fe, part N: try; the theorem of all statements. -/
namespace Fe
open PySem PySem.Spec PyProof.Rows L2
section
variable {S : Sig} {Γ : Gam} {Wx : WX} {X : Cx}
/-- e.at in a clause's suite -/
def tAt (S : Sig) (K : PySem.W.Frag) (x : Str) (i : Nat) (a : Addr) (cls : Value) (d : Option Addr) : TE := fun σ H Q => ∃ c, S.X c x ≠ none ∧ tXf a cls d (He.ga K c) "at" (tVar i) σ H Q
def tHr (S : Sig) (K : PySem.W.Frag) (x : Str) (i : Nat) : Hr → TCl
  | .at => fun a cls d => tRet (tAt S K x i a cls d)
  | .pair z => fun a cls d => tRet (tTup (tCons (tC (.str z)) (tCons (tAt S K x i a cls d) tNil)))
theorem at_pe (C : CxtS S Γ Wx X) {x n : Str} {i : Nat} (hx : x ∈ Γ.C) (hn : Γ.N[i]? = some n) (hl : Γ.sc.names.lookup n = some .local) (hd : nodb n = true) {a : Addr} {oe : Obj} {cls : Value} {d : Option Addr} {pn : List (Addr × Obj)} (hz : Zc cls d oe) (hf : ∃ vs, oe.data = .fields vs) {p q : Pos} :
    PE (X.suite a ((a, oe) :: pn)) (.Attribute (.Name n p) "at" q) (tAt S X.K x i a cls d) := by
  obtain ⟨d1, d2⟩ := nodb_of hd
  have pv : PE (X.suite a ((a, oe) :: pn)) (.Name n p) (tVar i) := pe_var (X := X.suite a ((a, oe) :: pn)) (C.nth hn) (.inl (by show X.env.scope.names.lookup n = _; rw [C.c.sc]; exact hl)) d1 d2
  refine ⟨fun pins s σ H Q I ⟨c, hc, z⟩ => ?_⟩
  cases e : S.X c x with
  | none => exact absurd e hc
  | some b =>
    obtain ⟨_, f1, f2⟩ := C.exm c x b e hx
    exact (pe_xf f1 f2 hz hf pv).run pins s σ H Q I z
theorem hd_as (C : CxtS S Γ Wx X) {i : Nat} {n : Str} (hn : Γ.N[i]? = some n) : ∀ {hs : List (Str × Hr)} {hds : List ExceptHandler}, chkHds Γ i hs hds = true → HdAs X n hds (hs.map fun p => (Value.ref (He.ga X.K p.1), tHr S X.K p.1 i p.2))
  | [], [], _ => .nil
  | [], _ :: _, h => by simp [chkHds] at h
  | _ :: _, [], h => by simp [chkHds] at h
  | (x, h) :: r, e :: es, k => by
    simp only [chkHds, Bool.and_eq_true] at k
    obtain ⟨k1, k2⟩ := k
    unfold chkHd at k1
    split at k1
    case h_2 => cases k1
    rename_i y yp m ex rp q
    simp only [Bool.and_eq_true, decide_eq_true_eq] at k1
    obtain ⟨rfl, k3, k4, k5, k6, k7, k8, k9, k10⟩ := k1
    obtain rfl : n = m := by
      rw [hn] at k6
      exact Option.some.inj k6
    obtain ⟨d1, d2⟩ := nodb_of k5
    refine .cons ⟨glb_of C.c.sc k4, d1, .inl (C.cmg y k3)⟩ (fun a oe cls d pn hz hf => ?_) (hd_as C hn k2)
    have pa : ∀ {p q : Pos}, PE (X.suite a ((a, oe) :: pn)) (.Attribute (.Name n p) "at" q) (tAt S X.K y i a cls d) := at_pe C k3 hn k7 k8 hz hf
    cases h with
    | «at» =>
      unfold chkHr at k10
      split at k10
      · simp only [Bool.and_eq_true, decide_eq_true_eq] at k10
        obtain ⟨rfl, rfl⟩ := k10
        exact pss_one (ps_ret pa)
      · rename_i z; cases z
      · cases k10
    | pair z =>
      unfold chkHr at k10
      split at k10
      · rename_i z; cases z
      · rename_i z' _ _ _ _ _ _ _ _ hz'
        cases hz'
        simp only [Bool.and_eq_true, decide_eq_true_eq] at k10
        obtain ⟨rfl, _, rfl, rfl⟩ := k10
        exact pss_one (ps_ret (pe_tup (pa_cons pe_str (pa_cons pa pa_nil rfl) rfl)))
      · cases k10
theorem CxtS.tr (C : CxtS S Γ Wx X) {W : WX} {pn : List (Addr × Obj)} {xe : Value → Shared → Prop} (tk : Takes (X.tr pn xe) W) (po : PassesOwn (model X.prog X.w) X.A X.env xe) : CxtS S Γ W (X.tr pn xe) where
  c := ⟨C.c.sub, C.c.calm, C.c.sc, C.c.N, C.c.nd, tk, C.c.un, C.c.sto, C.c.fn, C.c.con, C.c.bui, C.c.rng, C.c.zip, C.c.enu⟩
  po := po
  kf := C.kf
  stk := C.stk
  frm := C.frm
  cmg := C.cmg
  exm := C.exm
  mke := C.mke
theorem hds_nm {i : Nat} {hs : List (Str × Hr)} {e : ExceptHandler} {es : List ExceptHandler} (h : chkHds Γ i hs (e :: es) = true) : ∃ n, Γ.N[i]? = some n ∧ Γ.sc.names.lookup n = some .local ∧ i ∉ Γ.W := by
  cases hs with
  | nil => simp [chkHds] at h
  | cons a r =>
    obtain ⟨x, k⟩ := a
    simp only [chkHds, Bool.and_eq_true] at h
    obtain ⟨h, _⟩ := h
    unfold chkHd at h
    split at h
    · simp only [Bool.and_eq_true, decide_eq_true_eq] at h
      obtain ⟨_, _, _, _, h1, h2, _, h3, _⟩ := h
      exact ⟨_, h1, h2, h3⟩
    · cases h
theorem tri_want (C : CxtS S Γ Wx X) {F : (Addr → Prop) → Hp → Prop} {Oc : Addr → Prop} {H0 : Hp} {D : Ends} {i : Nat} (hi : i ∉ Γ.W) {c : Str} {k : Int} {s : Sta} (il : i < s.2.length) : ∀ {hs : List (Str × Hr)} {hds : List ExceptHandler}, chkHds Γ i hs hds = true → JS F Γ Wx X.K Oc H0 D (triGo S.X c k s hs) →
    ∀ σ H cls dd, RelS F Γ X.K Oc H0 s σ H → XRep X.K H cls dd c k → wAll X.K i Wx D (hs.map fun p => (Value.ref (He.ga X.K p.1), tHr S X.K p.1 i p.2)) cls dd σ H
  | [], _, _, j => fun σ H cls dd r x => j σ H cls dd r x
  | _ :: _, [], h, _ => by simp [chkHds] at h
  | (x, h) :: r, e :: es, hk, j => fun σ H cls dd rl xr => by
    simp only [chkHds, Bool.and_eq_true] at hk
    obtain ⟨k1, k2⟩ := hk
    have hx : x ∈ Γ.C ∧ (∀ z, h = .pair z → PyData.strOk z = true) := by
      unfold chkHd at k1
      split at k1
      · simp only [Bool.and_eq_true, decide_eq_true_eq] at k1
        obtain ⟨_, h1, _, _, _, _, _, _, h2⟩ := k1
        refine ⟨h1, fun z e => ?_⟩
        subst e
        unfold chkHr at h2
        split at h2
        · rename_i z; cases z
        · rename_i hz'
          cases hz'
          simp only [Bool.and_eq_true, decide_eq_true_eq] at h2
          exact h2.2.1
        · cases h2
      · cases k1
    simp only [triGo] at j
    cases e1 : S.X c x with
    | none => rw [e1] at j; exact j.elim
    | some b =>
      rw [e1] at j
      obtain ⟨g1, g2, g3⟩ := C.exm c x b e1 hx.1
      obtain ⟨dx, rfl, rfl, x3⟩ := xr
      refine ⟨b, g1, fun eb a na => ?_, fun eb => ?_⟩
      · subst eb
        obtain ⟨O, q1, q2, q3⟩ := rl.ex
        have il' : i < σ.length := by rw [q3.len]; exact il
        have hs : (σ.set i (some (V.ref a)))[i]? = some (some (.ref a)) := by rw [get_set, if_pos rfl, if_pos il']
        have base : ∀ {Q : VK}, Q (.int k) H → tAt S X.K x i a (.ref (He.ga X.K c)) (some dx) (σ.set i (some (.ref a))) H Q := fun {Q} q => ⟨c, by rw [e1]; simp, _, hs, rfl, rfl, dx, _, .int k, rfl, x3, by simp [List.lookup], q⟩
        cases h with
        | «at» => exact base (j (.int k) H q3.sam (.int k))
        | pair z =>
          refine base ⟨by rw [sizeLine_eq]; simp, fun p np => ?_⟩
          exact j _ _ (q3.sam.trans (same_new np)) (.tup (.inl (.inl upd_same)) (.cons (.str z (hx.2 z rfl)) (.cons (.int k) .nil)))
      · subst eb
        exact tri_want C hi il k2 j σ H _ _ rl ⟨dx, rfl, rfl, x3⟩
theorem snd_tri (C : CxtS S Γ Wx X) {b : Ss} {i : Nat} {hs : List (Str × Hr)} {p : List Stmt} {hds : List ExceptHandler} {pos : Pos} (h1 : chkHds Γ i hs hds = true) (h2 : hds.isEmpty = false) (hb : ∀ (W : WX) (X' : Cx), CxtS S Γ W X' → PSs X' p (tSs S W X'.K Γ b)) :
    PS X (.Try p hds [] [] pos) (tS S Wx X.K Γ (.tri b i hs)) := by
  cases hds with
  | nil => cases h2
  | cons e es =>
    obtain ⟨n, n1, n2, n3⟩ := hds_nm h1
    refine PS.mono (ps_tries (tb := fun W => tSs S W X.K Γ b) C.stk C.frm C.hN (C.nth n1) (by show X.env.scope.names.lookup n = _; rw [C.c.sc]; exact n2) C.c.tk (fun W pn xe tk po => hb W (X.tr pn xe) (C.tr tk po)) (hd_as C n1 h1)) fun D σ H q => ?_
    obtain ⟨F, Oc, H0, s, f, r, j⟩ := q
    refine ⟨F, Oc, H0, s, f, r, ?_⟩
    simp only [evS] at j
    cases e1 : evSs S b s with
    | nx s' => rw [e1] at j; exact j
    | rt d => rw [e1] at j; exact j
    | bk s' => rw [e1] at j; exact j
    | ct s' => rw [e1] at j; exact j
    | bad => rw [e1] at j; exact j
    | exc c k s' =>
      rw [e1] at j
      have j : JS F Γ Wx X.K Oc H0 D (if decide (i < s'.2.length) = true then triGo S.X c k s' hs else .bad) := j
      split at j
      · rename_i il
        exact tri_want C n3 (of_decide_eq_true il) h1 j
      · exact j.elim
end
/-! ### all of them -/
mutual
theorem allS (S : Sig) : ∀ (a : Sm) (Γ : Gam) (Wx : WX) (X : Cx), CxtS S Γ Wx X → ∀ x, chkS Γ a x = true → PS X x (tS S Wx X.K Γ a)
  | .set i e, Γ, Wx, X, C, x, h => snd_set C h
  | .setF i e, Γ, Wx, X, C, x, h => snd_setF C h
  | .par is es, Γ, Wx, X, C, x, h => snd_par C h
  | .unp t e, Γ, Wx, X, C, x, h => snd_unp C h
  | .setIx i k e, Γ, Wx, X, C, x, h => snd_setIx C h
  | .app i e, Γ, Wx, X, C, x, h => snd_app C h
  | .ext i e, Γ, Wx, X, C, x, h => snd_ext C h
  | .ret e, Γ, Wx, X, C, x, h => snd_ret C h
  | .retN, Γ, Wx, X, C, x, h => snd_retN h
  | .ex e, Γ, Wx, X, C, x, h => snd_ex C h
  | .rai c e, Γ, Wx, X, C, x, h => snd_rai C (by simpa [chkS] using h)
  | .ifs c a b, Γ, Wx, X, C, x, h => by
    cases x <;> first | (simp [chkS] at h; done) | skip
    simp only [chkS, Bool.and_eq_true] at h
    exact snd_ifs C h.1 h.2.1 (allSs S a Γ Wx X C _ h.2.2.1) (allSs S b Γ Wx X C _ h.2.2.2)
  | .for_ t it b, Γ, Wx, X, C, x, h => by
    cases x <;> first | (simp [chkS] at h; done) | skip
    rename_i tg y p q pos
    cases q <;> first | (simp [chkS] at h; done) | skip
    simp only [chkS, Bool.and_eq_true] at h
    exact snd_for C h.1 h.2.1 (allSs S b Γ Wx X C _ h.2.2)
  | .whl n c b, Γ, Wx, X, C, x, h => by
    cases x <;> first | (simp [chkS] at h; done) | skip
    rename_i y p q pos
    cases q <;> first | (simp [chkS] at h; done) | skip
    simp only [chkS, Bool.and_eq_true] at h
    exact snd_whl C h.1 h.2.1 (allSs S b Γ Wx X C _ h.2.2)
  | .tri b i hs, Γ, Wx, X, C, x, h => by
    cases x <;> first | (simp [chkS] at h; done) | skip
    rename_i p hds q r pos
    cases q <;> first | (simp [chkS] at h; done) | skip
    cases r <;> first | (simp [chkS] at h; done) | skip
    simp only [chkS, Bool.and_eq_true, Bool.not_eq_true'] at h
    exact snd_tri C h.1 h.2.1 fun W X' C' => allSs S b Γ W X' C' _ h.2.2
  | .pass, Γ, Wx, X, C, x, h => by
    cases x <;> first | (simp [chkS] at h; done) | skip
    refine PS.mono ps_pass fun D σ H q => ?_
    obtain ⟨F, Oc, H0, s, f, r, j⟩ := q
    simp only [evS] at j
    exact j σ H r
  | .brk, Γ, Wx, X, C, x, h => by
    cases x <;> first | (simp [chkS] at h; done) | skip
    refine PS.mono ps_break fun D σ H q => ?_
    obtain ⟨F, Oc, H0, s, f, r, j⟩ := q
    simp only [evS] at j
    exact j σ H r
  | .cont, Γ, Wx, X, C, x, h => by
    cases x <;> first | (simp [chkS] at h; done) | skip
    refine PS.mono ps_continue fun D σ H q => ?_
    obtain ⟨F, Oc, H0, s, f, r, j⟩ := q
    simp only [evS] at j
    exact j σ H r
theorem allSs (S : Sig) : ∀ (a : Ss) (Γ : Gam) (Wx : WX) (X : Cx), CxtS S Γ Wx X → ∀ xs, chkSs Γ a xs = true → PSs X xs (tSs S Wx X.K Γ a)
  | .nil, Γ, Wx, X, C, xs, h => by
    cases xs <;> first | (simp [chkSs] at h; done) | skip
    exact snd_nil
  | .cons a r, Γ, Wx, X, C, xs, h => by
    cases xs <;> first | (simp [chkSs] at h; done) | skip
    simp only [chkSs, Bool.and_eq_true] at h
    exact snd_cons (allS S a Γ Wx X C _ h.1) (allSs S r Γ Wx X C _ h.2)
end
end Fe
set_option Elab.async false
set_option linter.all false
set_option maxRecDepth 100000
set_option maxHeartbeats 4000000
/-! Fe, part O: defs. -/
namespace Fe
open PySem PySem.Spec PyProof.Rows L2

/-! ### plain parameters -/
def plainA (a : Arguments) : Bool := a.posonlyargs.isEmpty && (a.vararg.isNone && (a.kwonlyargs.isEmpty && (a.kwarg.isNone && decide (a.args.map (·.arg)).Nodup)))
theorem zip_lookup : ∀ {ps : List Str} {us : List Value}, ps.Nodup → us.length = ps.length → (ps.filterMap fun n => ((ps.zip us).lookup n).map (n, ·)) = ps.zip us := by
  have gen : ∀ (ps : List Str) (us : List Value) (l : List (Str × Value)), ps.Nodup → us.length = ps.length → (∀ n ∈ ps, l.lookup n = none) → (ps.filterMap fun n => ((l ++ ps.zip us).lookup n).map (n, ·)) = ps.zip us := by
    intro ps
    induction ps with
    | nil => intro us l _ _ _; rfl
    | cons p ps ih =>
      intro us l nd hl hn
      cases us with
      | nil => simp at hl
      | cons u us =>
        have nd' := List.nodup_cons.mp nd
        have e1 : (l ++ (p, u) :: ps.zip us).lookup p = some u := by
          have h0 := hn p (List.mem_cons_self ..)
          have : ∀ l : List (Str × Value), l.lookup p = none → (l ++ (p, u) :: ps.zip us).lookup p = some u := by
            intro l
            induction l with
            | nil => intro _; simp [List.lookup]
            | cons q l ih2 =>
              intro h
              obtain ⟨a, b⟩ := q
              simp only [List.lookup, List.cons_append] at h ⊢
              split at h
              · cases h
              · exact ih2 h
          exact this l h0
        have e2 : ∀ n, n ≠ p → (l ++ (p, u) :: ps.zip us).lookup n = ((l ++ [(p, u)]) ++ ps.zip us).lookup n := fun n _ => by simp
        rw [List.zip_cons_cons, List.filterMap_cons, e1]
        have e3 := ih us (l ++ [(p, u)]) nd'.2 (by simpa using hl) fun n hm => by
          have ne : n ≠ p := fun e => nd'.1 (e ▸ hm)
          have h0 := hn n (List.mem_cons_of_mem _ hm)
          have : ∀ l : List (Str × Value), l.lookup n = none → (l ++ [(p, u)]).lookup n = none := by
            intro l
            induction l with
            | nil =>
              intro _
              have : (n == p) = false := by simpa using ne
              simp [List.lookup, this]
            | cons q l ih2 =>
              intro h
              obtain ⟨a, b⟩ := q
              simp only [List.lookup, List.cons_append] at h ⊢
              split at h
              · cases h
              · exact ih2 h
          exact this l h0
        simp only [Option.map_some]
        rw [List.append_assoc] at e3
        simp only [List.cons_append, List.nil_append] at e3
        rw [e3]
  intro ps us nd hl
  exact gen ps us [] nd hl fun _ _ => rfl
theorem zip_some {n : Str} : ∀ {ps : List Str} {us : List Value}, us.length = ps.length → n ∈ ps → ((ps.zip us).lookup n).isNone = false
  | [], _, _, h => by cases h
  | p :: ps, [], hl, _ => by simp at hl
  | p :: ps, u :: us, hl, h => by
    rw [List.zip_cons_cons]
    simp only [List.lookup]
    split
    · rfl
    · rename_i e
      rcases List.mem_cons.mp h with z | z
      · rw [z] at e; simp at e
      · exact zip_some (by simpa using hl) z
theorem bind_plain {x qual : Str} {a : Arguments} {body : List Stmt} {scope : Scope} {kV doc pm : Value} {an : Option Addr} {cdv ct : Value} {cl : List (Str × Addr)} (h : plainA a = true) (us : List Value) (hl : us.length = (a.args.map (·.arg)).length) :
    bindArgs (PySem.W.fnX x qual a body scope cl .none kV doc pm an cdv ct) ⟨us, []⟩ = pure ((a.args.map (·.arg)).zip us) := by
  obtain ⟨po, as, va, ko, kd, kw, df⟩ := a
  simp only [plainA, Bool.and_eq_true, decide_eq_true_eq] at h
  obtain ⟨h1, h2, h3, h4, h5⟩ := h
  cases po <;> first | cases h1 | skip
  cases va <;> first | cases h2 | skip
  cases ko <;> first | cases h3 | skip
  cases kw <;> first | cases h4 | skip
  have hl : us.length = (as.map (·.arg)).length := hl
  have h5 : (as.map (·.arg)).Nodup := h5
  have e1 : ((as.map (·.arg)).filter fun n => (((as.map (·.arg)).zip us).lookup n).isNone) = [] := by
    rw [List.filter_eq_nil_iff]
    intro n hn
    rw [zip_some hl hn]
    decide
  have e0 : seqItems? Value.none = pure none := rfl
  unfold bindArgs
  have e2 : (as.map (·.arg)).length - ([] : List Value).length = (as.map (·.arg)).length := rfl
  have e3 : decide (us.length > (as.map (·.arg)).length) = false := decide_eq_false (by omega)
  simp only [List.map_nil, List.nil_append, List.append_nil, e0, pure_bind, List.forIn_nil, e3, Bool.false_and, Bool.false_eq_true, if_false, Option.getD_none, List.drop_nil, List.length_nil, Nat.sub_zero, List.take_length, e1, List.isEmpty_nil, Bool.not_true, List.drop_length, List.zip_nil_right, zip_lookup h5 hl]
/-! ### a program -/
structure Df where
  x : Str
  np : Nat
  N : List Str
  W : List Nat
  b : Ss
structure Pg where
  T : List Df
  G : List (Str × PD)
  X : Str → Str → Option Bool
def env0 (d : Df) (ds : List PD) : Env := ds.map some ++ List.replicate (d.N.length - ds.length) none
def fin : SR → R PD
  | .nx _ => .ok .none
  | .rt v => .ok v
  | .exc c i _ => .exc c i
  | _ => .bad
/-- the i-th def at depth n -/
def evF (p : Pg) : Nat → Nat → List PD → R PD
  | 0, _, _ => .bad
  | n + 1, i, ds => match p.T[i]? with
    | some d => if decide (ds.length = d.np) then fin (evSs ⟨evF p n, p.G, p.X⟩ d.b ([], env0 d ds)) else .bad
    | none => .bad
abbrev sgOf (p : Pg) (n : Nat) : Sig := ⟨evF p n, p.G, p.X⟩
abbrev gamOf (p : Pg) (C : List Str) (d : Df) (sc : Scope) : Gam := ⟨d.N, sc, sc, d.W, p.T.map (·.x), C⟩
def chkDf (p : Pg) (C : List Str) (d : Df) (st : Stmt) : Bool := plainA (defArgs st) && (decide (d.N.take d.np = (defArgs st).args.map (·.arg)) && (decide (d.np ≤ d.N.length) && (C8.scC d.N (d.N.take d.np) (defScope st) && chkSs (gamOf p C d (defScope st)) d.b (defBody st))))
def blNs : List Str := ["len", "abs", "min", "max", "int", "tuple", "list", "sum", "any", "all", "sorted", "range", "zip", "enumerate"]
theorem biNm_in (b : Bi) : biNm b ∈ blNs := by cases b <;> decide
/-- what is seen of the module behind its top -/
structure Facts (P : Program) (K : PySem.W.Frag) (mg : Str → Option Value) (p : Pg) (C : List Str) (sts : List Stmt) : Prop where
  df : ∀ (i : Nat) (d : Df), p.T[i]? = some d → ∃ (st : Stmt) (fd : FuncData), sts[i]? = some st ∧ chkDf p C d st = true ∧ FunD K d.x d.x (defArgs st) (defBody st) (defScope st) [] [] (He.ga K d.x) fd
  mgf : ∀ d ∈ p.T, mg d.x = some (.ref (He.ga K d.x))
  con : ∀ x d, p.G.lookup x = some d → ∃ u v, mg x = some u ∧ RelV v u ∧ ∀ O H, RX K O H v d
  fre : ∀ x ∈ blNs, mg x = none
  cmg : ∀ x ∈ C, mg x = some (.ref (He.ga K x))
  exm : ∀ c x b, p.X c x = some b → x ∈ C → PySem.W.exmOne K (.ref (He.ga K c)) (.ref (He.ga K x)) = some b ∧ XfC K (He.ga K c) ∧ PySem.W.findIn K (.ref (He.ga K c)) "at" = some none
  ini : ∀ c ∈ C, ∃ D fI cc ca name qual params scope body, IniF P K mg D fI cc ca name qual params scope body ∧ plainA params = true ∧ params.args.map (·.arg) = [("self" : Str), "at"] ∧ SubF K D (He.ga K c) ∧
    PySem.W.findIn K (.ref (He.ga K c)) "__init__" = some (some (.ref fI)) ∧ PySem.W.typeIn K (.ref fI) = some (.type "function")
theorem start_rel {K : PySem.W.Frag} {O : Addr → Prop} {H : Hp} {N : List Str} {vs : List V} {ds : List PD} (dom : Dom O H) (r : RXs K O H vs ds) : Rel K [] O H (ds.map some ++ List.replicate (N.length - ds.length) none) (L2.start N vs) H := by
  have hl := r.length
  refine ⟨by simp [L2.start, hl], fun i d _ e => ?_, fun i d h => (nomatch h), dom, Same.refl H⟩
  unfold L2.start
  by_cases c : i < ds.length
  · rw [List.getElem?_append_left (by simpa using c), List.getElem?_map] at e
    rw [List.getElem?_append_left (by simpa [hl] using c), List.getElem?_map]
    cases e1 : ds[i]? with
    | none => rw [e1] at e; cases e
    | some d' =>
      rw [e1] at e
      have : d' = d := by simpa using e
      subst this
      obtain ⟨v, e2, rv⟩ := r.get e1
      exact ⟨v, by rw [e2] <;> rfl, rv⟩
  · rw [List.getElem?_append_right (by simpa using c), List.getElem?_replicate] at e
    split at e <;> cases e
theorem ini_all {P : Program} {w : World} {K : PySem.W.Frag} {mg : Str → Option Value} {base : Heap} {CX : CXT} {D fI cc ca : Addr} {name qual : Str} {params : Arguments} {scope : Scope} {body : List Stmt} (F : IniF P K mg D fI cc ca name qual params scope body) (h1 : plainA params = true) (h2 : params.args.map (·.arg) = [("self" : Str), "at"]) :
    ∃ fd, FnOk P w K mg base CX 1 fI fd [("self" : Str), "at"] (spI K D) ∧ Binds K fd [("self" : Str), "at"] [] := by
  obtain ⟨fd, f1, _, o, f2, f3⟩ := ini_ok (P := P) (w := w) (base := base) (CX := CX) (k := 0) F
  obtain ⟨oc, od, osl, kV, doc, pm, an, ct, lk⟩ := F.lk
  rw [lk] at f2
  cases f2
  cases f3
  refine ⟨_, f1, .all fun us hl => ?_⟩
  rw [← h2] at hl ⊢
  exact bind_plain h1 us hl
theorem fns_ok {P : Program} {w : World} {K : PySem.W.Frag} {mg : Str → Option Value} {base : Heap} {p : Pg} {C : List Str} {sts : List Stmt} (Fa : Facts P K mg p C sts) :
    ∀ (n i : Nat) (d : Df) (st : Stmt) (fd : FuncData), p.T[i]? = some d → chkDf p C d st = true → FunD K d.x d.x (defArgs st) (defBody st) (defScope st) [] [] (He.ga K d.x) fd →
      FnOk P w K mg base (L2.CX P w) (n + 2) (He.ga K d.x) fd (d.N.take d.np) (spF K (evF p n i)) ∧ Binds K fd (d.N.take d.np) [] ∧ PySem.W.keepIn K (.ref (He.ga K d.x)) = true
  | 0, i, d, st, fd, e, c, F => by
    simp only [chkDf, Bool.and_eq_true, decide_eq_true_eq] at c
    have no : ∀ {vs H Q E}, ¬ spF K (evF p 0 i) vs H Q E := fun ⟨ds, O, _, _, h⟩ => h
    refine ⟨⟨fun vs H Q E h => absurd h no, fun A outer s H args us vs Q E _ _ _ _ h => absurd h no⟩, ?_, F.kp⟩
    refine F.bindsN fun kV doc pm an cdv ct us hl => ?_
    rw [c.2.1] at hl ⊢
    exact bind_plain c.1 us hl
  | n + 1, i, d, st, fd, e, c, F => by
    simp only [chkDf, Bool.and_eq_true, decide_eq_true_eq] at c
    obtain ⟨c1, c2, c3, c4, c5⟩ := c
    have S := C8.fnScope_by c4
    have lenps : (d.N.take d.np).length = d.np := by simp [c3]
    have IH := fns_ok Fa n (w := w) (base := base)
    refine ⟨?_, ?_, F.kp⟩
    · refine F.ok S (fun vs H Q E h => ?_) (fun cdv A outer s H vs Q E hr h => ?_)
      · obtain ⟨ds, O, dom, r, h⟩ := h
        simp only [evF, e] at h
        split at h
        · rename_i dv hd
          split at hd
          · rename_i z
            rw [r.length, lenps]
            exact of_decide_eq_true z
          · cases hd
        · rename_i hd
          split at hd
          · rename_i z
            rw [r.length, lenps]
            exact of_decide_eq_true z
          · cases hd
        · exact h.elim
      · obtain ⟨ds, O, dom, r, h⟩ := h
        simp only [evF, e] at h
        have hz : ds.length = d.np := by
          by_cases z : ds.length = d.np
          · exact z
          · rw [if_neg (by simpa using z)] at h; exact h.elim
        rw [if_pos (by simpa using hz)] at h
        let X := cxOf (L2.CX P w) P w K mg base d.N d.x (defScope st) (He.ga K d.x) cdv A outer s H E
        have tk : Takes X (fun cls dd _ H => E cls dd H) := takes_of rfl rfl rfl rfl
        have Cc : CxtS (sgOf p n) (gamOf p C d (defScope st)) (fun cls dd _ H => E cls dd H) X := by
          refine ⟨⟨fun _ z => (nomatch z), rfl, rfl, rfl, S.nd, tk, (by have h := hr.un; show (A.deeper (envOfC d.x (defScope st) s.heap.objs.size (He.ga K d.x) cdv)).units + 100 < cLine; omega), fun x hx => ?_, fun g x hx => ?_, Fa.con, fun b => Fa.fre _ (biNm_in b), Fa.fre _ (by decide), Fa.fre _ (by decide), Fa.fre _ (by decide)⟩, passes_of rfl, S.kind, rfl, rfl, Fa.cmg, Fa.exm, fun pn xe c hc hg hd x t q pos ok h => ?_⟩
          · unfold stOk at hx
            split at hx
            · exact ⟨.inl (by assumption), .inl rfl⟩
            · exact ⟨.inr (by assumption), .inl rfl⟩
            · cases hx
          · simp only [List.getElem?_map] at hx
            cases e5 : p.T[g]? with
            | none => rw [e5] at hx; cases hx
            | some dg =>
              rw [e5] at hx
              have hx : dg.x = x := by simpa using hx
              subst hx
              obtain ⟨stg, fdg, _, cg, Fg⟩ := Fa.df g dg e5
              obtain ⟨o1, o2, o3⟩ := IH g dg stg fdg e5 cg Fg
              exact ⟨_, fdg, _, n + 2, o1, hr, Fa.mgf dg (List.mem_of_getElem? e5), o3, o2⟩
          · obtain ⟨D, fI, cc, ca, name, qual, params, scope, body, i1, i2, i3, i4, i5, i6⟩ := Fa.ini c hc
            obtain ⟨fdI, j1, j2⟩ := ini_all (w := w) (base := base) (CX := L2.CX P w) i1 i2 i3
            exact mk_ok (X := X.tr pn xe) i4 i5 i6 j1 (hr.mono (by omega)) j2 (passes_call (X := X.tr pn xe) (W := W0) takes0 fun _ _ _ _ z => z) (glb_of (X := X.tr pn xe) (sc := (gamOf p C d (defScope st)).sc) rfl hg) (Fa.cmg c hc) (nodb_of hd).1 ok h
        refine ⟨_, allSs (sgOf p n) d.b (gamOf p C d (defScope st)) _ X Cc _ c5, fun _ _ => True, O, H, ([], env0 d ds), ⟨fun _ _ _ _ _ z => z, dom⟩, ⟨⟨O, trivial, fun _ z => z, start_rel dom r⟩, fun _ z => (nomatch z)⟩, ?_⟩
        cases e6 : evSs (sgOf p n) d.b ([], env0 d ds) with
        | nx s' =>
          rw [e6] at h
          intro σ' H' rl
          obtain ⟨O', _, _, q3⟩ := rl.ex
          exact h .non H' q3.sam .non
        | rt v =>
          rw [e6] at h
          exact fun u H' sm rv => h u H' sm rv
        | exc c' i' s' =>
          rw [e6] at h
          intro σ' H' cls dd rl xr
          obtain ⟨O', _, _, q3⟩ := rl.ex
          exact h cls dd H' q3.sam xr
        | bk s' => rw [e6] at h; exact h.elim
        | ct s' => rw [e6] at h; exact h.elim
        | bad => rw [e6] at h; exact h.elim
    · refine F.bindsN fun kV doc pm an cdv ct us hl => ?_
      rw [c2] at hl ⊢
      exact bind_plain c1 us hl
end Fe
set_option Elab.async false
set_option linter.all false
set_option maxRecDepth 100000
set_option maxHeartbeats 4000000
/-! Fe, part P: what is seen of the heap behind the top. -/
namespace Fe
open PySem PySem.Spec PyProof.Rows L2
/-! ### classes -/
/-- who is caught by which clause: each own error with its bases -/
def subX (tab : List (Str × List Str)) (c x : Str) : Option Bool := match tab.lookup c with
  | some l => if decide (x ∈ tab.map (·.1)) then some (l.contains x) else none
  | none => none
def oexB (K : PySem.W.Frag) (C : Addr) : Bool := (match K.lookup C with
  | some ⟨.type t, _, .cls cd, sl⟩ => t == "type" && (cd.hasDict && (!cd.hasDel && ((match cd.mro with
      | .ref c :: bm => decide (c = C) && PySem.HandSPX.refsVE bm
      | _ => false) && (match sl.toList with
      | [_, _, _, _, some (.builtin b), _] => b == "ValueError.__new__"
      | _ => false))))
  | _ => false) && (He.eqO (PySem.W.findIn K (.ref C) "__setattr__") (some (some (.builtin "object.__setattr__"))) && (decide (PySem.W.subIn K (.ref C) (.type "BaseException") = some true) &&
  (decide (PySem.W.typeIn K (.ref C) = some (.type "type")) && PySem.W.keepIn K (.ref C))))
theorem oexB_ok {K : PySem.W.Frag} {C : Addr} (h : oexB K C = true) : OexC K C := by
  unfold oexB at h
  simp only [Bool.and_eq_true, decide_eq_true_eq] at h
  obtain ⟨h1, h2, h3, h4, h5⟩ := h
  refine ⟨?_, He.eqO_ok h2, h3, h4, h5⟩
  split at h1
  case h_2 => cases h1
  rename_i t dd cd sl lk
  simp only [Bool.and_eq_true, Bool.not_eq_true', beq_iff_eq] at h1
  obtain ⟨rfl, g2, g3, g4, g5⟩ := h1
  obtain ⟨nm, bs, mro, ns, qn, hd, sn, sb, ab, col, del⟩ := cd
  dsimp only at g2 g3 g4
  subst g2
  subst g3
  split at g4
  case h_2 => cases g4
  rename_i c bm
  simp only [Bool.and_eq_true, decide_eq_true_eq] at g4
  obtain ⟨rfl, g4⟩ := g4
  split at g5
  case h_2 => cases g5
  rename_i k0 k1 k2 k3 b k5 e
  have g5 := beq_iff_eq.mp g5
  subst g5
  have e : sl = #[k0, k1, k2, k3, some (.builtin "ValueError.__new__"), k5] := by
    rw [← e] <;> simp
  subst e
  exact ⟨nm, qn, ns, bs, bm, sn, sb, ab, col, dd, k0, k1, k2, k3, k5, lk, g4⟩
def subB (K : PySem.W.Frag) (D C : Addr) : Bool := oexB K C && (decide (PySem.W.mroIn K C (.ref D) = some true) && (decide (PySem.W.mroIn K C (.type "ValueError") = some true) && ((match PySem.W.clsIn K C with
  | some cd => decide ((cd.mro.dropWhile (· != .ref D)).drop 1 = PySem.Vsx.veT)
  | none => false) && He.eqO (PySem.W.findIn K (.ref C) "at") (some none))))
theorem subB_ok {K : PySem.W.Frag} {D C : Addr} (h : subB K D C = true) : SubF K D C := by
  unfold subB at h
  simp only [Bool.and_eq_true, decide_eq_true_eq] at h
  obtain ⟨h1, h2, h3, h4, h5⟩ := h
  refine ⟨oexB_ok h1, h2, h3, ?_, He.eqO_ok h5⟩
  split at h4
  · exact ⟨_, by assumption, of_decide_eq_true h4⟩
  · cases h4
/-! ### the errors' __init__ -/
def iniAt (K : PySem.W.Frag) (D : Str) : Addr := He.ma K (He.ga K D) "__init__"
def celAt (K : PySem.W.Frag) (D : Str) : Addr := match K.lookup (iniAt K D) with
  | some ⟨_, _, .func fd, _⟩ => (match fd.closure with
    | [(_, c)] => c
    | _ => 0)
  | _ => 0
def codAt (K : PySem.W.Frag) (D : Str) : Addr := match K.lookup (iniAt K D) with
  | some ⟨_, _, .func fd, _⟩ => (match fd.code with
    | .ref c => c
    | _ => 0)
  | _ => 0
abbrev FnI : Type := Option (Str × Str × Arguments × FuncBody × Scope × Addr × List Str × Addr)
def fnI (K : PySem.W.Frag) (D : Str) : FnI := match K.lookup (iniAt K D) with
  | some ⟨_, _, .func fd, _⟩ => some (fd.name, fd.qualname, fd.params, fd.body, fd.scope, fd.globals, fd.closure.map (·.1), fd.builtins)
  | _ => none
def valI (qual : Str) (st : Stmt) : FnI := some ("__init__", qual, defArgs st, .stmts (defBody st), defScope st, mainGlobals, ["__class__"], builtinsNs)
def iniB (file : Str) (K : PySem.W.Frag) (D qual : Str) : Bool := (match K.lookup (iniAt K D) with
  | some ⟨_, _, .func fd, _⟩ => (match fd.code, fd.defaults with
    | .ref _, .none => true
    | _, _ => false)
  | _ => false) && (PySem.W.codeIn K (.ref (codAt K D)) qual && ((match K.lookup (codAt K D) with
  | some ⟨_, _, .fields vs, _⟩ => (match (vs[2]? : Option Value) with
    | some (.str z _) => file == z
    | _ => false)
  | _ => false) && ((match K.lookup (celAt K D) with
  | some ⟨_, _, .cell (some (.ref c)), _⟩ => decide (c = He.ga K D)
  | _ => false) && ((PySem.W.clsIn K (He.ga K D)).isSome && (He.eqO (PySem.W.nsIn K mainGlobals "super") (some none) && (He.eqO (PySem.W.nsIn K cStatics "thirdparty.any") (some none) && decide (PySem.W.typeIn K (.ref (iniAt K D)) = some (.type "function"))))))))
/-- of the text alone -/
structure IniS (P : Program) (st : Stmt) : Prop where
  top : (P.main.scope.names.lookup ("super" : Str)).isSome = false
  par : ∃ ar, ((defArgs st).posonlyargs ++ (defArgs st).args).head? = some ar ∧ ar.arg = ("self" : Str)
  scp : NdefX.NScope [("self" : Str), "at", "__class__"] [("self" : Str), "at"] [("__class__" : Str)] (defScope st)
  ks : (defScope st).names.lookup ("super" : Str) = some .globalImplicit
  bod : ∃ p0 p1 p2 p3 p4 p5 p6 p7 p8 p9, defBody st = [.Expr (.Call (.Attribute (.Call (.Name "super" p0) [] [] p1) "__init__" p2) [.Name "at" p3] [] p4) p5, .Assign [.Attribute (.Name "self" p6) "at" p7] (.Name "at" p8) p9] ∧
    ∃ pl : PySem.Env → Sem Bool, ∀ env : PySem.Env, eval (.Call (.Attribute (.Call (.Name "super" p0) [] [] p1) "__init__" p2) [.Name "at" p3] [] p4) env = (do
      let ov ← attributeBase (.Call (.Name "super" p0) [] [] p1) "__init__" env (eval (.Call (.Name "super" p0) [] [] p1) env)
      standAt p2.atName
      let (f, first) ← holding [ov] (getMethod ov "__init__" (pl env))
      callWith p4 f first (backTo p4 (starEach [.Name "at" p3] env)) [])
  pla : plainA (defArgs st) = true
  arg : (defArgs st).args.map (·.arg) = [("self" : Str), "at"]
theorem iniF_of {P : Program} {K : PySem.W.Frag} {h : Heap} {mg : Str → Option Value} {D qual : Str} {st : Stmt} (X : K.In h) (G : h.Ns mainGlobals mg) (S : IniS P st) (e : fnI K D = valI qual st) (b : iniB P.main.file K D qual = true) :
    IniF P K mg (He.ga K D) (iniAt K D) (celAt K D) (codAt K D) "__init__" qual (defArgs st) (defScope st) (defBody st) := by
  unfold iniB at b
  simp only [Bool.and_eq_true, decide_eq_true_eq] at b
  obtain ⟨b0, b1, b2, b3, b4, b5, b6, b7⟩ := b
  refine ⟨?_, b1, ?_, ?_, ?_, S.top, He.free_ok X G (x := "super") b5, S.par, S.scp, S.ks, S.bod, He.eqO_ok b6⟩
  · unfold fnI valI at e
    split at e
    case h_2 => cases e
    rename_i oc od fd osl lk
    rw [lk] at b0
    dsimp only at b0
    split at b0
    case h_2 => cases b0
    rename_i c hc hd
    have hce : celAt K D = (match fd.closure with | [(_, c)] => c | _ => 0) := by
      unfold celAt
      rw [lk] <;> rfl
    have hco : codAt K D = c := by
      unfold codAt
      rw [lk]
      dsimp only
      rw [hc] <;> rfl
    obtain ⟨nm, ql, pr, bd, sc, gl, cl, df, kd, dc, pm, an, cd, ct, bt⟩ := fd
    dsimp only at hc hd hce e
    subst hc
    subst hd
    simp only [Option.some.injEq, Prod.mk.injEq] at e
    obtain ⟨rfl, rfl, rfl, rfl, rfl, rfl, e7, rfl⟩ := e
    rcases cl with _ | ⟨⟨y, c2⟩, _ | _⟩ <;> first | (simp at e7; done) | skip
    have e7 : y = "__class__" := by simpa using e7
    subst e7
    rw [hce, hco]
    exact ⟨oc, od, osl, kd, dc, pm, an, ct, lk⟩
  · split at b2
    case h_2 => cases b2
    rename_i lk
    split at b2
    case h_2 => cases b2
    rename_i e2
    exact ⟨_, _, _, _, _, _, lk, e2, b2⟩
  · split at b3
    case h_2 => cases b3
    rename_i lk
    have b3 := of_decide_eq_true b3
    subst b3
    exact ⟨_, _, _, lk⟩
  · exact Option.isSome_iff_exists.mp b4
end Fe
namespace Fe
open PySem PySem.Spec PyProof.Rows L2
/-! ### constants -/
mutual
def valB (K : PySem.W.Frag) : Value → PD → Bool
  | u, .none => (match u with | .none => true | _ => false)
  | u, .bool b => (match u with | .bool c => b == c | _ => false)
  | u, .int i => (match u with | .int j _ => decide (i = j) | _ => false)
  | u, .str x => (match u with | .str y _ => decide (x = y) && PyData.strOk x | _ => false)
  | u, .tuple ds => (match u with
    | .ref a => (match K.lookup a with
      | some ⟨.type c, _, .seq its _, _⟩ => c == "tuple" && (decide (its.size ≤ sizeLine) && valBs K its.toList ds)
      | _ => false)
    | _ => false)
  | _, _ => false
def valBs (K : PySem.W.Frag) : List Value → List PD → Bool
  | us, [] => us.isEmpty
  | us, d :: ds => (match us with
    | u :: r => valB K u d && valBs K r ds
    | [] => false)
end
mutual
theorem valB_ok {K : PySem.W.Frag} : ∀ (d : PD) (u : Value), valB K u d = true → ∃ v, RelV v u ∧ ∀ O H, RX K O H v d
  | .none, u, h => by
    cases u <;> first | (simp [valB] at h; done) | exact ⟨.non, rfl, fun _ _ => .non⟩
  | .bool b, u, h => by
    cases u <;> first | (simp [valB] at h; done) | skip
    simp only [valB, beq_iff_eq] at h
    subst h
    exact ⟨.bl b, rfl, fun _ _ => .bl b⟩
  | .int i, u, h => by
    cases u <;> first | (simp [valB] at h; done) | skip
    simp only [valB, decide_eq_true_eq] at h
    subst h
    exact ⟨.int i, ⟨_, rfl⟩, fun _ _ => .int i⟩
  | .str x, u, h => by
    cases u <;> first | (simp [valB] at h; done) | skip
    simp only [valB, Bool.and_eq_true, decide_eq_true_eq] at h
    obtain ⟨rfl, h⟩ := h
    exact ⟨.str x, ⟨_, rfl⟩, fun _ _ => .str x h⟩
  | .tuple ds, u, h => by
    cases u <;> first | (simp [valB] at h; done) | skip
    rename_i a
    simp only [valB] at h
    split at h
    case h_2 => cases h
    rename_i c od its n sl lk
    simp only [Bool.and_eq_true, decide_eq_true_eq, beq_iff_eq] at h
    obtain ⟨rfl, h1, h2⟩ := h
    obtain ⟨vs, g1, g2⟩ := valBs_ok ds its.toList h2
    exact ⟨.ref a, rfl, fun O H => .tup (.inr ⟨_, its, n, lk, rfl, rfl, h1, g1⟩) (g2 O H)⟩
  | .list ds, u, h => by simp [valB] at h
  | .dict ds, u, h => by simp [valB] at h
theorem valBs_ok {K : PySem.W.Frag} : ∀ (ds : List PD) (us : List Value), valBs K us ds = true → ∃ vs, Vals vs us ∧ ∀ O H, RXs K O H vs ds
  | [], us, h => by
    cases us with
    | nil => exact ⟨[], .nil, fun _ _ => .nil⟩
    | cons _ _ => simp [valBs] at h
  | d :: ds, us, h => by
    cases us with
    | nil => simp [valBs] at h
    | cons u us =>
      simp only [valBs, Bool.and_eq_true] at h
      obtain ⟨v, g1, g2⟩ := valB_ok d u h.1
      obtain ⟨vs, g3, g4⟩ := valBs_ok ds us h.2
      exact ⟨v :: vs, .cons g1 g3, fun O H => .cons (g2 O H) (g4 O H)⟩
end
def conB (K : PySem.W.Frag) (c : Str × PD) : Bool := match PySem.W.nsIn K mainGlobals c.1 with
  | some (some u) => valB K u c.2
  | _ => false
/-! ### all of it -/
structure Hd where
  p : Pg
  tab : List (Str × List Str)
  D : Str
  qual : Str
  file : Str
  ini : Stmt
  sts : List Stmt
def Hd.C (h : Hd) : List Str := h.tab.map (·.1)
def dfOf (d : Df) (st : Stmt) : He.DefD := ⟨(d.x, none), d.x, d.x, defArgs st, defBody st, defScope st, [], []⟩
def Hd.dds (h : Hd) : List He.DefD := (h.p.T.zip h.sts).map fun z => dfOf z.1 z.2
def Hd.ok (h : Hd) (K : PySem.W.Frag) : Bool := h.p.T.all (fun d => (He.Fa.glo d.x).ok K) && (h.p.G.all (conB K) && (blNs.all (fun x => (He.Fa.free x).ok K) && (h.C.all (fun c => (He.Fa.glo c).ok K && (subB K (He.ga K h.D) (He.ga K c) && (xfB K (He.ga K c) &&
  (He.eqO (PySem.W.findIn K (.ref (He.ga K c)) "__init__") (some (some (.ref (iniAt K h.D)))) && h.C.all fun x => decide (PySem.W.exmOne K (.ref (He.ga K c)) (.ref (He.ga K x)) = subX h.tab c x))))) && (iniB h.file K h.D h.qual && h.dds.all fun d => d.ok K))))
abbrev AlF : Type := Bool × List He.FnW × FnI
def Hd.obs (h : Hd) (K : PySem.W.Frag) : AlF := (h.ok K, h.dds.map fun d => He.fnW K d.at_, fnI K h.D)
def Hd.val (h : Hd) : AlF := (true, h.dds.map He.DefD.val, valI h.qual h.ini)
/-- no lists -/
def isLst (o : Obj) : Bool := match o.cls with
  | .type c => c == "list"
  | _ => false
def NoL (K : PySem.W.Frag) : Prop := ∀ a o, K.lookup a = some o → isLst o = false
def frF (n : Nat) (g : Addr → Option Obj) : PySem.W.Frag := He.frG g ((He.asD g n ++ [cStatics]).filter fun a => match g a with
  | some o => !isLst o
  | none => false)
theorem frF_nol (n : Nat) (g : Addr → Option Obj) : NoL (frF n g) := by
  have key : ∀ (as : List Addr) (a : Addr) (o : Obj), (He.frG g as).lookup a = some o → a ∈ as := by
    intro as
    induction as with
    | nil => intro a o h; cases h
    | cons b as ih =>
      intro a o h
      unfold He.frG at h ih
      rw [List.filterMap_cons] at h
      cases e : g b with
      | none =>
        rw [e] at h
        exact List.mem_cons_of_mem _ (ih a o h)
      | some ob =>
        rw [e] at h
        simp only [Option.map_some, List.lookup] at h
        split at h
        · rename_i z
          have : a = b := by simpa using z
          rw [this]
          exact List.mem_cons_self ..
        · exact List.mem_cons_of_mem _ (ih a o h)
  intro a o h
  have m := key _ a o h
  have e := He.frG_at _ h
  have f := (List.mem_filter.mp m).2
  rw [e] at f
  simpa using f
def Hd.obsG (h : Hd) (n : Nat) (g : Addr → Option Obj) : AlF := h.obs (frF n g)
def Hd.Says (h : Hd) (K : PySem.W.Frag) : Prop := NoL K ∧ h.obs K = h.val
theorem frF_in {n : Nat} {h : Heap} : (frF n h.get?).In h := He.frG_in
def Hd.hook (h : Hd) (n : Nat) : PySem.W.Hook where
  α := AlF
  obs := fun s => h.obsG n s.heap.get?
  val := fun _ => h.val
  says := fun _ hp => ∃ K : PySem.W.Frag, K.In hp ∧ h.Says K
  of := fun _ _ e => ⟨_, frF_in, frF_nol _ _, e⟩
  keeps := fun _ _ _ ⟨K, hK, c⟩ k => ⟨K, PySem.W.Frag.In.keeps hK k, c⟩
theorem Hd.obsG_eq {h : Hd} {n : Nat} {g : Addr → Option Obj} {s : Shared} (e : ∀ a, g a = s.heap.get? a) : h.obsG n g = (h.hook n).obs s := by
  have : g = s.heap.get? := funext e
  rw [this]
  rfl
/-- of the text alone -/
structure Hd.Stat (h : Hd) (P : Program) : Prop where
  len : h.sts.length = h.p.T.length
  chk : ((h.p.T.zip h.sts).all fun z => chkDf h.p h.C z.1 z.2) = true
  sub : h.p.X = subX h.tab
  ini : IniS P h.ini
  file : h.file = P.main.file
theorem Hd.facts {h : Hd} {P : Program} {K : PySem.W.Frag} {hp : Heap} {mg : Str → Option Value} (X : K.In hp) (G : hp.Ns mainGlobals mg) (S : h.Stat P) (c : h.Says K) : Facts P K mg h.p h.C h.sts := by
  obtain ⟨_, c⟩ := c
  unfold Hd.obs Hd.val at c
  simp only [Prod.mk.injEq] at c
  obtain ⟨c1, c2, c3⟩ := c
  unfold Hd.ok at c1
  simp only [Bool.and_eq_true, List.all_eq_true] at c1
  obtain ⟨k1, k2, k3, k4, k5, k6⟩ := c1
  have iF : IniF P K mg (He.ga K h.D) (iniAt K h.D) (celAt K h.D) (codAt K h.D) "__init__" h.qual (defArgs h.ini) (defScope h.ini) (defBody h.ini) := iniF_of X G S.ini c3 (by rw [← S.file]; exact k5)
  refine ⟨fun i d e => ?_, fun d hd => He.glo_ok X G (k1 d hd), fun x d e => ?_, fun x hx => He.free_ok X G (k3 x hx), fun x hx => He.glo_ok X G (k4 x hx).1, fun c x b e hx => ?_, fun c hc => ?_⟩
  · have il : i < h.p.T.length := by
      by_cases z : i < h.p.T.length
      · exact z
      · rw [List.getElem?_eq_none (by omega)] at e; cases e
    obtain ⟨st, e2⟩ : ∃ st, h.sts[i]? = some st := ⟨h.sts[i]'(by rw [S.len]; exact il), by simp [S.len, il]⟩
    have ez : (h.p.T.zip h.sts)[i]? = some (d, st) := by rw [List.getElem?_zip_eq_some]; exact ⟨e, e2⟩
    have ed : h.dds[i]? = some (dfOf d st) := by
      unfold Hd.dds
      rw [List.getElem?_map, ez] <;> rfl
    have e3 : He.fnW K (dfOf d st).at_ = (dfOf d st).val := by
      have := congrArg (fun l => l[i]?) c2
      simp only [List.getElem?_map, ed, Option.map_some, Option.some.injEq] at this
      exact this
    obtain ⟨fd, F⟩ := He.DefD.funD e3 (k6 _ (List.mem_of_getElem? ed))
    exact ⟨st, fd, e2, List.all_eq_true.mp S.chk _ (List.mem_of_getElem? ez), F⟩
  · have m : (x, d) ∈ h.p.G := PySem.mem_of_lookup e
    have q := k2 _ m
    unfold conB at q
    split at q
    · rename_i u e2
      obtain ⟨v, g1, g2⟩ := valB_ok d u q
      exact ⟨u, v, PySem.W.mg_of X G e2, g1, g2⟩
    · cases q
  · rw [S.sub] at e
    have hc : c ∈ h.C := by
      unfold subX at e
      split at e
      · rename_i l el
        exact List.mem_map.mpr ⟨_, PySem.mem_of_lookup el, rfl⟩
      · cases e
    obtain ⟨_, q1, q2, q3, q4⟩ := k4 c hc
    exact ⟨(of_decide_eq_true (q4 x hx)).trans e, xfB_ok q2, (subB_ok q1).at_⟩
  · obtain ⟨_, q1, q2, q3, q4⟩ := k4 c hc
    have ti : PySem.W.typeIn K (.ref (iniAt K h.D)) = some (.type "function") := by
      have k5 := k5
      unfold iniB at k5
      simp only [Bool.and_eq_true, decide_eq_true_eq] at k5
      exact k5.2.2.2.2.2.2.2
    exact ⟨_, _, _, _, _, _, _, _, _, iF, S.ini.pla, S.ini.arg, subB_ok q1, He.eqO_ok q3, ti⟩

/-! ### the law's def -/
theorem noE {P : Program} {w : World} {K : PySem.W.Frag} {mg : Str → Option Value} {base : Heap} {k : Nat} {f : Addr} {fd : FuncData} {ps : List Str} {sp : Sp} (F : FnOk P w K mg base (L2.CX P w) k f fd ps sp) :
    FnOk P w K mg base L2.CX0 k f fd ps (fun vs H Q _ => sp vs H Q fun _ _ _ => False) where
  len := fun vs H Q E h => F.len _ _ _ _ h
  run := fun A outer s H args us vs Q E hr e0 hb r h => codeAny_mono (F.run A outer s H args us vs Q _ hr e0 hb r h) fun r s' z => by
    cases r with
    | error e =>
      obtain ⟨_, _, _, _, _, _, _, _, _, _, _, _, z⟩ := z
      exact z.elim
    | ok fl =>
      cases fl <;> exact z
theorem rxs_ints {K : PySem.W.Frag} {O : Addr → Prop} {H : Hp} : ∀ ns : List Int, RXs K O H (ns.map V.int) (ns.map PyData.int)
  | [] => .nil
  | n :: ns => .cons (.int n) (rxs_ints ns)
theorem law_sp {K : PySem.W.Frag} (nl : NoL K) {F : List PD → R PD} {H : Hp} {a : Addr} {ns : List Int} (hS : SqL K H a (ns.map V.int)) (h : F [.list (ns.map PyData.int)] = .ok (.bool true)) :
    spF K F [.ref a] H (fun v _ => v = .bl true) fun _ _ _ => False := by
  refine ⟨[.list (ns.map PyData.int)], fun _ => False, fun _ z => z.elim, .cons ?_ .nil, ?_⟩
  · rcases hS with hS | ⟨o, its, n, lk, hc, _⟩
    · exact .lst (fun z => z) hS (rxs_ints ns)
    · have := nl a o lk
      unfold isLst at this
      rw [hc] at this
      simp at this
  · rw [h]
    intro v H' _ r
    cases r
    rfl
/-- the law's def, at the depth n, the i-th: where it answers True -/
theorem law_fn {h : Hd} {P : Program} {w : World} {K : PySem.W.Frag} {hp : Heap} {mg : Str → Option Value} {f : Addr} {n i : Nat} {d : Df} (X : K.In hp) (G : hp.Ns mainGlobals mg) (S : h.Stat P) (c : h.Says K) (e : h.p.T[i]? = some d) (hf : mg d.x = some (.ref f)) (hn : d.N.take d.np = [("script" : Str)])
    (law : ∀ ns : List Int, ns.length ≤ 63 → evF h.p n i [.list (ns.map PyData.int)] = .ok (.bool true)) :
    ∃ (fd : FuncData) (sp : Sp), (∀ (s : Shared) (u : Value), BindsTo s fd ⟨[u], []⟩ [(("script" : Str), u)]) ∧ (∀ (H : Hp) (a : Addr) (ns : List Int), ns.length ≤ 63 → Only H → SqL K H a (ns.map V.int) → sp [.ref a] H (fun v _ => v = .bl true) fun _ _ _ => False) ∧
      ∀ base : Heap, K.In base → base.Ns mainGlobals mg → FnOk P w K mg base L2.CX0 (n + 2) f fd ["script"] sp := by
  have Fa := Hd.facts X G S c
  obtain ⟨st, fd, _, c1, F⟩ := Fa.df i d e
  have e2 := hf.symm.trans (Fa.mgf d (List.mem_of_getElem? e))
  cases e2
  have c2 := c1
  simp only [chkDf, Bool.and_eq_true, decide_eq_true_eq] at c2
  refine ⟨fd, fun vs H Q _ => spF K (evF h.p n i) vs H Q fun _ _ _ => False, fun s u => ?_, fun H a ns hl _ hS => law_sp c.1 hS (law ns hl), fun base _ _ => ?_⟩
  · have b := FunD.bindsA (ps := ["script"]) F (fun kV doc pm an cdv ct us hl => by
      have q := c2.2.1
      rw [hn] at q
      rw [q] at hl ⊢
      exact bind_plain c2.1 us hl)
    exact b s [u] rfl
  · have q := (fns_ok Fa (w := w) (base := base) n i d st fd e c1 F).1
    rw [hn] at q
    exact noE q
end Fe
set_option Elab.async false
set_option linter.all false
set_option maxRecDepth 100000
set_option maxHeartbeats 4000000
namespace Fe
open PySem PySem.Spec PyProof.Rows L2
section
variable {α β : Type}
theorem bok (a : α) (f : α → R β) : (R.ok a).bind f = f a := rfl
theorem bexc (c : Str) (i : Int) (f : α → R β) : (R.exc c i : R α).bind f = .exc c i := rfl
theorem bbad (f : α → R β) : (R.bad : R α).bind f = .bad := rfl
theorem sok (a : α) (s : Sta) (f : α → SR) : (R.ok a).s s f = f a := rfl
theorem sexc (c : Str) (i : Int) (s : Sta) (f : α → SR) : (R.exc c i : R α).s s f = .exc c i s := rfl
theorem sbad (s : Sta) (f : α → SR) : (R.bad : R α).s s f = .bad := rfl
end
theorem fnx (s : Sta) : fin (.nx s) = .ok .none := rfl
theorem frt (d : PD) : fin (.rt d) = .ok d := rfl
theorem fexc (c : Str) (i : Int) (s : Sta) : fin (.exc c i s) = .exc c i := rfl
theorem iO (i : Int) : intOf (.int i) = .ok i := rfl
theorem bO (b : Bool) : boolOf (.bool b) = .ok b := rfl
theorem vadd (i j : Int) : binV .add (.int i) (.int j) = .ok (.int (i + j)) := rfl
theorem vsub (i j : Int) : binV .sub (.int i) (.int j) = .ok (.int (i - j)) := rfl
theorem vmul (i j : Int) (h : i.natAbs.log2 + j.natAbs.log2 < 1000000) : binV .mul (.int i) (.int j) = .ok (.int (i * j)) := by
  show (if decide (i.natAbs.log2 + j.natAbs.log2 < 1000000) = true then _ else _) = _
  rw [if_pos (by simpa using h)]
theorem vfdiv (i j : Int) (h : j ≠ 0) (h2 : j.natAbs.log2 < 9000) : binV .fdiv (.int i) (.int j) = .ok (.int (i.fdiv j)) := by
  show (if decide (j ≠ 0 ∧ j.natAbs.log2 < 9000) = true then _ else _) = _
  rw [if_pos (by simpa using ⟨h, h2⟩)]
theorem vmod (i j : Int) (h : j ≠ 0) : binV .mod (.int i) (.int j) = .ok (.int (i.fmod j)) := by
  show (if decide (j ≠ 0) = true then _ else _) = _
  rw [if_pos (by simpa using h)]
theorem clt (i j : Int) : cmpV .lt (.int i) (.int j) = .ok (.bool (decide (i < j))) := rfl
theorem cle (i j : Int) : cmpV .le (.int i) (.int j) = .ok (.bool (decide (i ≤ j))) := rfl
theorem cgt (i j : Int) : cmpV .gt (.int i) (.int j) = .ok (.bool (decide (j < i))) := rfl
theorem cge (i j : Int) : cmpV .ge (.int i) (.int j) = .ok (.bool (decide (j ≤ i))) := rfl
theorem ceqi (i j : Int) : cmpV .eq (.int i) (.int j) = .ok (.bool (decide (i = j))) := by
  show (if eqOk (.int i) (.int j) = true then R.ok (PyData.bool (PyData.eqv (.int i) (.int j))) else .bad) = _
  have : eqOk (.int i) (.int j) = true := rfl
  rw [if_pos this]
  have e : PyData.eqv (.int i) (.int j) = decide (i = j) := by
    show (i == j) = _
    rw [Bool.eq_iff_iff]; simp
  rw [e]
theorem cnei (i j : Int) : cmpV .ne (.int i) (.int j) = .ok (.bool (!decide (i = j))) := by
  show (if eqOk (.int i) (.int j) = true then R.ok (PyData.bool (!PyData.eqv (.int i) (.int j))) else .bad) = _
  have : eqOk (.int i) (.int j) = true := rfl
  rw [if_pos this]
  have e : PyData.eqv (.int i) (.int j) = decide (i = j) := by
    show (i == j) = _
    rw [Bool.eq_iff_iff]; simp
  rw [e]
theorem babs (i : Int) : biV .abs [.int i] = .ok (.int i.natAbs) := rfl
theorem bint (i : Int) : biV .int [.int i] = .ok (.int i) := rfl
theorem bintt : biV .int [.bool true] = .ok (.int 1) := rfl
theorem bintf : biV .int [.bool false] = .ok (.int 0) := rfl
theorem cintt : biV .int [.bool (decide True)] = .ok (.int 1) := rfl
theorem blen (l : List PD) : biV .len [.list l] = .ok (.int l.length) := rfl
abbrev P (n d : Int) : PD := .tuple [.int n, .int d]
theorem ix0 (n d : Int) : ixV (P n d) (.int 0) = .ok (.int n) := rfl
theorem ix1 (n d : Int) : ixV (P n d) (.int 1) = .ok (.int d) := rfl

/-! ### defs that all laws have -/
def lwDraws1 : Ss := .cons (.ifs (.cmp .gt (.var 3) (.int 0)) (.cons (.app 1 (.bin .mod (.bi .int (.cons (.var 3) (.nil))) (.int 65536))) (.cons (.set 3 (.bin .fdiv (.var 3) (.int 65536))) (.nil))) (.nil)) (.nil)
def lwDraws2 : Ss := .cons (.set 3 (.bi .abs (.cons (.ix (.var 0) (.var 2)) (.nil)))) (.cons (.ifs (.cmp .ge (.var 3) (.bin .pow (.int 10) (.int 18))) (.cons (.for_ (.nm 4) (.r1 (.int 60)) (lwDraws1)) (.nil)) (.cons (.set 5 (.bin .mod (.bi .int (.cons (.bin .add (.bin .mul (.var 3) (.int 48271)) (.bin .mul (.bin .add (.var 2) (.int 1)) (.int 69621))) (.nil))) (.int 2147483647))) (.cons (.set 5 (.bin .mod (.bi .int (.cons (.bin .add (.bin .add (.bin .mul (.var 5) (.int 16807)) (.bin .mul (.int 11) (.var 2))) (.int 5)) (.nil))) (.int 2147483629))) (.cons (.app 1 (.bin .mod (.bi .int (.cons (.var 5) (.nil))) (.int 65536))) (.cons (.app 1 (.bin .mod (.bi .int (.cons (.bin .fdiv (.var 5) (.int 65536)) (.nil))) (.int 32768))) (.nil)))))) (.nil))
def lwDraws : Ss := .cons (.setF 1 (.lst (.nil))) (.cons (.for_ (.nm 2) (.r1 (.bi .min2 (.cons (.int 63) (.cons (.bi .len (.cons (.var 0) (.nil))) (.nil))))) (lwDraws2)) (.cons (.ret (.var 1)) (.nil)))
def dDraws : Df := ⟨"_law_draws", 1, ["script", "draws", "k", "rest", "turn", "stirred"], [1], lwDraws⟩
def lwMix : Ss := .cons (.set 3 (.int 0)) (.cons (.ifs (.cmp .gt (.bi .len (.cons (.var 0) (.nil))) (.int 0)) (.cons (.set 3 (.ix (.var 0) (.bin .mod (.bi .int (.cons (.var 1) (.nil))) (.bi .len (.cons (.var 0) (.nil)))))) (.nil)) (.nil)) (.cons (.ifs (.cmp .lt (.var 1) (.bi .len (.cons (.var 0) (.nil)))) (.cons (.ret (.bin .mod (.bi .int (.cons (.var 3) (.nil))) (.var 2))) (.nil)) (.nil)) (.cons (.ret (.bin .mod (.bi .int (.cons (.bin .fdiv (.bi .int (.cons (.bin .add (.bin .mul (.var 3) (.int 7919)) (.bin .mul (.var 1) (.int 104729))) (.nil))) (.int 3)) (.nil))) (.var 2))) (.nil))))
def dMix : Df := ⟨"_law_mix", 3, ["draws", "k", "many", "cell"], [], lwMix⟩
def lwCommon1 : Ss := .cons (.ifs (.cmp .gt (.var 3) (.int 0)) (.cons (.par [2, 3] (.cons (.var 3) (.cons (.bin .mod (.bi .int (.cons (.var 2) (.nil))) (.var 3)) (.nil)))) (.nil)) (.nil)) (.nil)
def lwCommon : Ss := .cons (.par [2, 3] (.cons (.bi .abs (.cons (.var 0) (.nil))) (.cons (.bi .abs (.cons (.var 1) (.nil))) (.nil)))) (.cons (.for_ (.nm 4) (.r1 (.int 400)) (lwCommon1)) (.cons (.ret (.bi .max2 (.cons (.int 1) (.cons (.var 2) (.nil))))) (.nil)))
def dCommon : Df := ⟨"_law_common", 2, ["a", "b", "one", "two", "turn"], [], lwCommon⟩
def lwLow (j : Nat) : Ss := .cons (.set 2 (.bin .mul (.call j (.cons (.var 0) (.cons (.var 1) (.nil)))) (.ix (.lst (.cons (.int 1) (.cons (.neg (.int 1)) (.nil)))) (.bi .int (.cons (.cmp .lt (.var 1) (.int 0)) (.nil)))))) (.cons (.ret (.tup (.cons (.bin .fdiv (.var 0) (.var 2)) (.cons (.bin .fdiv (.var 1) (.var 2)) (.nil))))) (.nil))
def dLow (j : Nat) : Df := ⟨"_law_low", 2, ["n", "d", "common"], [], lwLow j⟩
/-! ### common -/
theorem fmodN (a b : Nat) : Int.fmod (a : Int) (b : Int) = ((a % b : Nat) : Int) := by
  rw [Int.fmod_eq_emod_of_nonneg _ (by omega)]
  rfl
theorem half {a b m : Nat} (h : b < 2 ^ (m + 1)) (hb : 0 < b) (hr : 0 < a % b) : b % (a % b) < 2 ^ m := by
  have h1 : a % b < b := Nat.mod_lt _ hb
  by_cases c : a % b ≤ 2 ^ m
  · exact Nat.lt_of_lt_of_le (Nat.mod_lt _ hr) c
  · have e := Nat.mod_add_div b (a % b)
    have q : 1 ≤ b / (a % b) := (Nat.one_le_div_iff hr).mpr (Nat.le_of_lt h1)
    have : a % b * 1 ≤ a % b * (b / (a % b)) := Nat.mul_le_mul_left _ q
    have : (2:Nat) ^ (m + 1) = 2 * 2 ^ m := by rw [Nat.pow_succ]; omega
    omega
/-- Euclid's turns -/
def eu : Nat → Nat → Nat → Nat × Nat
  | 0, a, b => (a, b)
  | n + 1, a, b => if b = 0 then (a, b) else eu n b (a % b)
theorem eu_done : ∀ (m n a b : Nat), b < 2 ^ m → 2 * m ≤ n → eu n a b = (Nat.gcd a b, 0)
  | 0, n, a, b, h, _ => by
    have : b = 0 := by simpa using h
    subst this
    cases n <;> simp [eu]
  | m + 1, n, a, b, h, hn => by
    obtain ⟨n, rfl⟩ : ∃ k, n = k + 2 := ⟨n - 2, by omega⟩
    by_cases c : b = 0
    · subst c; simp [eu]
    · have hb : 0 < b := Nat.pos_of_ne_zero c
      rw [eu, if_neg c, eu]
      by_cases c2 : a % b = 0
      · rw [if_pos c2, c2]
        have : Nat.gcd a b = b := Nat.gcd_eq_right (Nat.dvd_of_mod_eq_zero c2)
        rw [this]
      · rw [if_neg c2, eu_done m n (a % b) (b % (a % b)) (half h hb (Nat.pos_of_ne_zero c2)) (by omega)]
        have e1 : Nat.gcd a b = Nat.gcd (a % b) (b % (a % b)) := by
          rw [Nat.gcd_comm a b, Nat.gcd_rec b a, Nat.gcd_rec (a % b) b, Nat.gcd_comm]
        rw [e1]
theorem dl0 (l : List Nat) : Fe.dl [] l = [] := rfl
/-- while b > 0: a, b = b, a % b -/
theorem whEu {x y : Option PD} {c : Fe.Env → R Bool} {f : Sta → SR} (hc : ∀ A B : Nat, c [x, y, some (.int A), some (.int B)] = .ok (decide (0 < B)))
    (hf : ∀ A B : Nat, 0 < B → f ([], [x, y, some (.int A), some (.int B)]) = .nx ([], [x, y, some (.int B), some (.int ((A % B : Nat) : Int))])) :
    ∀ (n m a b : Nat), b < 2 ^ m → 2 * m + 1 ≤ n → whGo [] c f n ([], [x, y, some (.int a), some (.int b)]) = .nx ([], [x, y, some (.int (Nat.gcd a b)), some (.int (0 : Nat))]) := by
  have key : ∀ (n a b : Nat), whGo [] c f (n + 1) ([], [x, y, some (.int a), some (.int b)]) = if b = 0 then .nx ([], [x, y, some (.int a), some (.int b)]) else whGo [] c f n ([], [x, y, some (.int b), some (.int ((a % b : Nat) : Int))]) := by
    intro n a b
    rw [whGo]
    simp only [hc, sok, dl0]
    by_cases h : b = 0
    · subst h
      rfl
    · have h2 : 0 < b := Nat.pos_of_ne_zero h
      have e : decide (0 < b) = true := by simpa using h2
      rw [e, if_neg h, hf a b h2]
      rfl
  have run : ∀ (n a b : Nat), (eu n a b).2 = 0 → whGo [] c f (n + 1) ([], [x, y, some (.int a), some (.int b)]) = .nx ([], [x, y, some (.int ((eu n a b).1 : Int)), some (.int (0 : Nat))]) := by
    intro n
    induction n with
    | zero =>
      intro a b h
      have h : b = 0 := h
      subst h
      rw [key, if_pos rfl] <;> rfl
    | succ n ih =>
      intro a b h
      rw [key]
      rw [eu] at h ⊢
      by_cases c : b = 0
      · rw [if_pos c, if_pos c, c]
      · rw [if_neg c] at h
        rw [if_neg c, if_neg c]
        exact ih _ _ h
  intro n m a b h hn
  obtain ⟨n, rfl⟩ : ∃ k, n = k + 1 := ⟨n - 1, by omega⟩
  have e := eu_done m n a b h (by omega)
  rw [run n a b (by rw [e]), e]
theorem forEu {x y : Option PD} {f : Sta → SR} (h0 : ∀ (A : Nat) (d : PD), f ([], [x, y, some (.int A), some (.int (0 : Nat)), some d]) = .nx ([], [x, y, some (.int A), some (.int (0 : Nat)), some d]))
    (h1 : ∀ (A B : Nat) (d : PD), 0 < B → f ([], [x, y, some (.int A), some (.int B), some d]) = .nx ([], [x, y, some (.int B), some (.int ((A % B : Nat) : Int)), some d])) :
    ∀ (L : List PD) (a b : Nat) (z : Option PD), ∃ z', forGo (.nm 4) f L ([], [x, y, some (.int a), some (.int b), z]) = .nx ([], [x, y, some (.int (eu L.length a b).1), some (.int (eu L.length a b).2), z'])
  | [], a, b, z => ⟨z, rfl⟩
  | d :: L, a, b, z => by
    rw [forGo]
    have e : tgSet (.nm 4) d [x, y, some (.int a), some (.int b), z] = some [x, y, some (.int a), some (.int b), some d] := rfl
    dsimp only
    rw [e]
    dsimp only
    by_cases c : b = 0
    · subst c
      rw [h0]
      obtain ⟨z', q⟩ := forEu h0 h1 L a 0 (some d)
      refine ⟨z', q.trans ?_⟩
      cases L <;> simp [eu]
    · rw [h1 a b d (Nat.pos_of_ne_zero c)]
      obtain ⟨z', q⟩ := forEu h0 h1 L b (a % b) (some d)
      refine ⟨z', q.trans ?_⟩
      simp only [List.length_cons, eu, if_neg c]
theorem vmax2 (i j : Int) : biV .max2 [.int i, .int j] = .ok (.int (if i < j then j else i)) := rfl
theorem ev_lcommonB {p : Pg} {i : Nat} (n : Nat) (a b : Int) (hb : b.natAbs < 2 ^ 200) (e : evF p (n + 1) i [.int a, .int b] = fin (evSs (sgOf p n) lwCommon ([], [some (.int a), some (.int b), none, none, none]))) : evF p (n + 1) i [.int a, .int b] = .ok (.int (if (1 : Int) < Nat.gcd a.natAbs b.natAbs then Nat.gcd a.natAbs b.natAbs else 1)) := by
  rw [e]
  unfold lwCommon lwCommon1
  rw [evSs]
  have e1 : evS (sgOf p n) (.par [2, 3] (.cons (.bi .abs (.cons (.var 0) (.nil))) (.cons (.bi .abs (.cons (.var 1) (.nil))) (.nil)))) ([], [some (.int a), some (.int b), none, none, none]) = .nx ([], [some (.int a), some (.int b), some (.int a.natAbs), some (.int b.natAbs), none]) := rfl
  rw [e1]
  dsimp only
  rw [evSs, evS]
  have e2 : evIt (sgOf p n) (.r1 (.int 400)) [some (.int a), some (.int b), some (.int a.natAbs), some (.int b.natAbs), none] = .ok (rngV 0 400) := rfl
  rw [e2, sok]
  have el : escItM true (.r1 (.int 400)) = [] := rfl
  rw [el, dl0]
  obtain ⟨z', q⟩ := forEu (x := some (.int a)) (y := some (.int b)) (f := evSs (sgOf p n) (.cons (.ifs (.cmp .gt (.var 3) (.int 0)) (.cons (.par [2, 3] (.cons (.var 3) (.cons (.bin .mod (.bi .int (.cons (.var 2) (.nil))) (.var 3)) (.nil)))) (.nil)) (.nil)) (.nil)))
    (fun A d => rfl) (fun A B d hB => by
      have h2 : (B : Int) ≠ 0 := by omega
      have h3 : (0 : Int) < B := by omega
      simp only [evSs, evS, evEs, evE, List.getElem?_cons_succ, List.getElem?_cons_zero, bok, sok, cgt, bO, bint, vmod _ _ h2, fmodN, dl0, setL, List.set_cons_succ, List.set_cons_zero, h3, decide_true, if_true]) (rngV 0 400) a.natAbs b.natAbs none
  rw [q]
  have hl : (rngV 0 400).length = 400 := by simp [rngV]
  rw [hl, eu_done 200 400 _ _ hb (by decide)]
  dsimp only
  rfl
theorem ev_lcommon {p : Pg} {i : Nat} (hp : p.T[i]? = some dCommon) (n : Nat) (a b : Int) (hb : b.natAbs < 2 ^ 200) : evF p (n + 1) i [.int a, .int b] = .ok (.int (if (1 : Int) < Nat.gcd a.natAbs b.natAbs then Nat.gcd a.natAbs b.natAbs else 1)) := by
  have e : evF p (n + 1) i [.int a, .int b] = fin (evSs (sgOf p n) lwCommon ([], [some (.int a), some (.int b), none, none, none])) := by
    rw [evF, hp]
    rfl
  exact ev_lcommonB n a b hb e
/-! ### lowest terms -/
def gg (a b : Int) : Int := (Nat.gcd a.natAbs b.natAbs : Nat)
def kk (a b : Int) : Int := if b < 0 then -gg a b else gg a b
def lo (a b : Int) : PD := P (a.fdiv (kk a b)) (b.fdiv (kk a b))
theorem gg_pos {a b : Int} (h : b ≠ 0) : 0 < gg a b := by
  unfold gg
  have : 0 < Nat.gcd a.natAbs b.natAbs := Nat.gcd_pos_of_pos_right _ (by omega)
  omega
theorem gg_le {a b : Int} (h : b ≠ 0) : (gg a b).natAbs ≤ b.natAbs := by
  unfold gg
  have : Nat.gcd a.natAbs b.natAbs ≤ b.natAbs := Nat.gcd_le_right _ (by omega)
  omega
theorem log_lt {i : Int} {m : Nat} (h : i.natAbs < 2 ^ m) (hm : 0 < m) : i.natAbs.log2 < m := by
  by_cases c : i.natAbs = 0
  · rw [c]; simpa using hm
  · exact (Nat.log2_lt c).mpr h
theorem kk_ok {a b : Int} (h : b ≠ 0) (hb : b.natAbs < 2 ^ 1000) : kk a b ≠ 0 ∧ (kk a b).natAbs.log2 < 9000 := by
  have h1 := gg_pos (a := a) h
  have h2 := gg_le (a := a) h
  have h3 : (kk a b).natAbs = (gg a b).natAbs := by unfold kk; split <;> omega
  refine ⟨by unfold kk; split <;> omega, ?_⟩
  rw [h3]
  exact Nat.lt_trans (log_lt (Nat.lt_of_le_of_lt h2 hb) (by decide)) (by decide)
theorem lm1 : (-1 : Int).natAbs.log2 = 0 := by decide
theorem lp1 : (1 : Int).natAbs.log2 = 0 := by decide
theorem ev_lowB {p : Pg} {i j : Nat} (n : Nat) (a b : Int) (h : b ≠ 0) (hb : b.natAbs < 2 ^ 200) (ec : evF p (n + 1) j [.int a, .int b] = .ok (.int (if (1 : Int) < Nat.gcd a.natAbs b.natAbs then Nat.gcd a.natAbs b.natAbs else 1))) (e : evF p (n + 2) i [.int a, .int b] = fin (evSs (sgOf p (n + 1)) (lwLow j) ([], [some (.int a), some (.int b), none]))) : evF p (n + 2) i [.int a, .int b] = .ok (Fe.lo a b) := by
  rw [e]
  unfold lwLow
  obtain ⟨k1, k2⟩ := kk_ok (a := a) h (Nat.lt_trans hb (Nat.pow_lt_pow_right (by decide) (by decide)))
  have g1 := gg_pos (a := a) h
  have eg : (if (1 : Int) < Nat.gcd a.natAbs b.natAbs then (Nat.gcd a.natAbs b.natAbs : Int) else 1) = gg a b := by
    unfold gg at g1 ⊢
    split <;> omega
  rw [eg] at ec
  have lg : (gg a b).natAbs.log2 < 200 := log_lt (Nat.lt_of_le_of_lt (gg_le h) hb) (by decide)
  by_cases c : b < 0
  · have ek : kk a b = gg a b * -1 := by unfold kk; rw [if_pos c]; omega
    rw [ek] at k1 k2
    have em : binV .mul (.int (gg a b)) (.int (-1)) = .ok (.int (gg a b * -1)) := vmul _ _ (by rw [lm1]; omega)
    have ei : ixV (.list [.int 1, .int (-1)]) (.int 1) = .ok (.int (-1)) := rfl
    simp only [evSs, evS, evEs, evE, List.getElem?_cons_succ, List.getElem?_cons_zero, bok, sok, clt, bO, iO, bintt, bintf, dl0, List.set_cons_succ, List.set_cons_zero, ec, c, decide_true, ei, em, vfdiv _ _ k1 k2]
    unfold lo
    rw [ek] <;> rfl
  · have ek : kk a b = gg a b * 1 := by unfold kk; rw [if_neg c]; omega
    rw [ek] at k1 k2
    have em : binV .mul (.int (gg a b)) (.int 1) = .ok (.int (gg a b * 1)) := vmul _ _ (by rw [lp1]; omega)
    have ei : ixV (.list [.int 1, .int (-1)]) (.int 0) = .ok (.int 1) := rfl
    simp only [evSs, evS, evEs, evE, List.getElem?_cons_succ, List.getElem?_cons_zero, bok, sok, clt, bO, iO, bintt, bintf, dl0, List.set_cons_succ, List.set_cons_zero, ec, c, decide_false, ei, em, vfdiv _ _ k1 k2]
    unfold lo
    rw [ek] <;> rfl
theorem ev_low {p : Pg} {i j : Nat} (hp : p.T[i]? = some (dLow j)) (hj : p.T[j]? = some dCommon) (n : Nat) (a b : Int) (h : b ≠ 0) (hb : b.natAbs < 2 ^ 200) : evF p (n + 2) i [.int a, .int b] = .ok (lo a b) := by
  have e : evF p (n + 2) i [.int a, .int b] = fin (evSs (sgOf p (n + 1)) (lwLow j) ([], [some (.int a), some (.int b), none])) := by
    rw [evF, hp]
    rfl
  exact ev_lowB n a b h hb (ev_lcommon hj n a b hb) e
/-! ### loops -/
theorem forGo_ix {t : Tg} {f : Sta → SR} (I : Nat → Sta → Prop) : ∀ (L : List PD) (j : Nat) (s : Sta), I j s → (∀ i d s, i < j + L.length → d ∈ L → I i s → ∃ ρ1 s', tgSet t d s.2 = some ρ1 ∧ f (s.1, ρ1) = .nx s' ∧ I (i + 1) s') → ∃ s', forGo t f L s = .nx s' ∧ I (j + L.length) s'
  | [], j, s, h, _ => ⟨s, rfl, h⟩
  | d :: L, j, s, h, k => by
    obtain ⟨ρ1, s', e1, e2, h'⟩ := k j d s (by simp) (List.mem_cons_self ..) h
    obtain ⟨s2, e3, h2⟩ := forGo_ix I L (j + 1) s' h' fun i d s hi hd => k i d s (by rw [List.length_cons]; omega) (List.mem_cons_of_mem _ hd)
    refine ⟨s2, ?_, by rw [List.length_cons]; have : j + (L.length + 1) = j + 1 + L.length := by omega
                       rw [this]; exact h2⟩
    rw [forGo, e1]
    dsimp only
    rw [e2]
    exact e3
theorem mem_rng {n : Nat} {d : PD} (h : d ∈ rngV 0 n) : ∃ k : Nat, k < n ∧ d = .int k := by
  simp only [rngV, List.mem_map, List.mem_range] at h
  obtain ⟨k, hk, rfl⟩ := h
  exact ⟨k, hk, by simp⟩
/-! ### draws -/
def okD (ds : List Int) : Prop := ∀ x ∈ ds, 0 ≤ x ∧ x < 65536
theorem atI_ok {ds : List Int} {i : Int} (h0 : 0 ≤ i) (h1 : i < ds.length) : ∃ x, x ∈ ds ∧ ixV (.list (ds.map PyData.int)) (.int i) = .ok (.int x) := by
  have hl : i.toNat < ds.length := by omega
  refine ⟨ds[i.toNat], List.getElem_mem hl, ?_⟩
  show (match atI (ds.map PyData.int) i with | some d => R.ok d | none => .bad) = _
  have : atI (ds.map PyData.int) i = some (.int ds[i.toNat]) := by
    unfold atI ixN
    rw [if_pos h0, if_pos (by simpa using h1)]
    simp [hl]
  rw [this]
theorem fmodR (a : Int) {b : Int} (h : 0 < b) : 0 ≤ a.fmod b ∧ a.fmod b < b := ⟨Int.fmod_nonneg_of_pos a h, Int.fmod_lt_of_pos a h⟩
theorem ev_mix {p : Pg} {i : Nat} (hp : p.T[i]? = some dMix) (n : Nat) (ds : List Int) (k many : Int) (hd : okD ds) (hk : 0 ≤ k) (hk2 : k < 10000) (hm : 0 < many) : ∃ r, evF p (n + 1) i [.list (ds.map PyData.int), .int k, .int many] = .ok (.int r) ∧ 0 ≤ r ∧ r < many := by
  have e : evF p (n + 1) i [.list (ds.map PyData.int), .int k, .int many] = fin (evSs (sgOf p n) lwMix ([], [some (.list (ds.map PyData.int)), some (.int k), some (.int many), none])) := by
    rw [evF, hp]
    rfl
  rw [e]
  unfold lwMix
  have hm0 : many ≠ 0 := by omega
  have h3 : (3 : Int).natAbs.log2 < 9000 := by decide
  have l1 : (7919 : Int).natAbs.log2 < 20 := by decide
  have l2 : (104729 : Int).natAbs.log2 < 20 := by decide
  have lk : k.natAbs.log2 < 20 := log_lt (by omega) (by decide)
  have mk : binV .mul (.int k) (.int 104729) = .ok (.int (k * 104729)) := vmul _ _ (by omega)
  by_cases c : 0 < ds.length
  · have cl : (0 : Int) < (ds.map PyData.int).length := by simpa using c
    have cl' : (0 : Int) < ds.length := by omega
    have cn : ((ds.map PyData.int).length : Int) ≠ 0 := by omega
    obtain ⟨f0, f1⟩ := fmodR k cl'
    obtain ⟨x, hx, ex⟩ := atI_ok f0 f1
    obtain ⟨x0, x1⟩ := hd x hx
    have lx : x.natAbs.log2 < 20 := log_lt (by omega) (by decide)
    have mx : binV .mul (.int x) (.int 7919) = .ok (.int (x * 7919)) := vmul _ _ (by omega)
    have ex : ixV (.list (ds.map PyData.int)) (.int (k.fmod ((ds.map PyData.int).length : Int))) = .ok (.int x) := by rw [List.length_map]; exact ex
    by_cases c2 : k < (ds.map PyData.int).length
    · refine ⟨x.fmod many, ?_, fmodR x hm⟩
      simp only [evSs, evS, evEs, evE, List.getElem?_cons_succ, List.getElem?_cons_zero, bok, sok, cgt, clt, bO, blen, bint, cl, c2, decide_true, if_true, vmod _ _ cn, vmod _ _ hm0, ex, dl0, List.set_cons_succ, List.set_cons_zero, frt]
    · refine ⟨((x * 7919 + k * 104729).fdiv 3).fmod many, ?_, fmodR _ hm⟩
      simp only [evSs, evS, evEs, evE, List.getElem?_cons_succ, List.getElem?_cons_zero, bok, sok, cgt, clt, bO, blen, bint, cl, c2, decide_true, decide_false, if_true, if_false, Bool.false_eq_true, vmod _ _ cn, vmod _ _ hm0, ex, dl0, List.set_cons_succ, List.set_cons_zero, frt, mx, mk, vadd, vfdiv _ _ (show (3 : Int) ≠ 0 by decide) h3]
  · have cl : ¬ (0 : Int) < (ds.map PyData.int).length := by simpa using c
    have c2 : ¬ k < (ds.map PyData.int).length := by omega
    have mx : binV .mul (.int 0) (.int 7919) = .ok (.int (0 * 7919)) := rfl
    refine ⟨((0 * 7919 + k * 104729).fdiv 3).fmod many, ?_, fmodR _ hm⟩
    simp only [evSs, evS, evEs, evE, List.getElem?_cons_succ, List.getElem?_cons_zero, bok, sok, cgt, clt, bO, blen, bint, cl, c2, decide_true, decide_false, if_true, if_false, Bool.false_eq_true, vmod _ _ hm0, dl0, List.set_cons_succ, List.set_cons_zero, frt, mx, mk, vadd, vfdiv _ _ (show (3 : Int) ≠ 0 by decide) h3]
abbrev Ld (ds : List Int) : PD := .list (ds.map PyData.int)
theorem snoc (ds : List Int) (x : Int) : PyData.list (ds.map PyData.int ++ [.int x]) = Ld (ds ++ [x]) := by simp [Ld]
theorem okD_snoc {ds : List Int} {x : Int} (h : okD ds) (h0 : 0 ≤ x) (h1 : x < 65536) : okD (ds ++ [x]) := by
  intro y hy
  rcases List.mem_append.mp hy with z | z
  · exact h y z
  · have : y = x := by simpa using z
    subst this
    exact ⟨h0, h1⟩
theorem sl_ok {n : Nat} (h : n < 16000000) : decide (n < sLine) = true := by
  have : sLine = 16777216 := rfl
  rw [this]
  exact decide_eq_true (by omega)
theorem abs_at (ns : List Int) (k : Nat) (h : k < ns.length) : ixV (Ld ns) (.int k) = .ok (.int ns[k]) := by
  show (match atI (ns.map PyData.int) k with | some d => R.ok d | none => .bad) = _
  have : atI (ns.map PyData.int) (k : Int) = some (.int ns[k]) := by
    unfold atI ixN
    rw [if_pos (by omega), if_pos (by simpa using h)]
    simp [h]
  rw [this]
theorem dlone (l : List Nat) (h : 1 ∉ l) : Fe.dl [1] l = [1] := by simp [Fe.dl, h]
theorem app1 {S : Sig} {e : E} {ρ : Fe.Env} {ds : List PD} {x : PD} (he : esc e = []) (hv : evE S e ρ = .ok x) (hr : ρ[1]? = some (some (.list ds))) (hl : ds.length < 16000000) : evS S (.app 1 e) ([1], ρ) = .nx ([1], ρ.set 1 (some (.list (ds ++ [x])))) := by
  rw [evS]
  dsimp only
  rw [hr, he]
  dsimp only
  rw [hv]
  have : decide (1 ∈ Fe.dl [1] []) = true := rfl
  rw [if_pos this, sok, if_pos (sl_ok hl)]
  rfl
def inA (c : Nat) (script : PD) : Nat → Sta → Prop := fun i s => ∃ (ds : List Int) (k rest turn st : Option PD), s = ([1], [some script, some (Ld ds), k, rest, turn, st]) ∧ okD ds ∧ ds.length ≤ c * i
def inB (c : Nat) (script : PD) (k st : Option PD) : Nat → Sta → Prop := fun i s => ∃ (ds : List Int) (rest : Int) (turn : Option PD), s = ([1], [some script, some (Ld ds), k, some (.int rest), turn, st]) ∧ okD ds ∧ ds.length ≤ c + i ∧ 0 ≤ rest
theorem ev_drawsB {p : Pg} {i : Nat} (n : Nat) (ns : List Int) (hn : ns.length ≤ 63) (e : evF p (n + 1) i [Ld ns] = fin (evSs (sgOf p n) lwDraws ([], [some (Ld ns), none, none, none, none, none]))) : ∃ ds : List Int, evF p (n + 1) i [Ld ns] = .ok (Ld ds) ∧ okD ds := by
  rw [e]
  unfold lwDraws
  rw [evSs]
  have e1 : evS (sgOf p n) (.setF 1 (.lst (.nil))) ([], [some (Ld ns), none, none, none, none, none]) = .nx ([1], [some (Ld ns), some (Ld []), none, none, none, none]) := rfl
  rw [e1]
  dsimp only
  rw [evSs, evS]
  have e2 : evIt (sgOf p n) (.r1 (.bi .min2 (.cons (.int 63) (.cons (.bi .len (.cons (.var 0) (.nil))) (.nil))))) [some (Ld ns), some (Ld []), none, none, none, none] = .ok (rngV 0 ns.length) := by
    have hm : (if ((ns.map PyData.int).length : Int) < 63 then ((ns.map PyData.int).length : Int) else 63) = (ns.length : Int) := by
      rw [List.length_map]
      split <;> omega
    show (if inRg (if ((ns.map PyData.int).length : Int) < 63 then ((ns.map PyData.int).length : Int) else 63) = true then R.ok (rngV 0 (if ((ns.map PyData.int).length : Int) < 63 then ((ns.map PyData.int).length : Int) else 63).toNat) else .bad) = _
    rw [hm]
    have : inRg (ns.length : Int) = true := decide_eq_true (by omega)
    rw [if_pos this] <;> simp
  rw [e2, sok]
  have el : escItM true (.r1 (.bi .min2 (.cons (.int 63) (.cons (.bi .len (.cons (.var 0) (.nil))) (.nil))))) = [] := rfl
  rw [el]
  have step : ∀ i d s, i < 0 + (rngV 0 ns.length).length → d ∈ rngV 0 ns.length → inA 60 (Ld ns) i s → ∃ ρ1 s', tgSet (.nm 2) d s.2 = some ρ1 ∧ evSs (sgOf p n) lwDraws2 (s.1, ρ1) = .nx s' ∧ inA 60 (Ld ns) (i + 1) s' := by
    rintro i d s hi hdm ⟨ds, k, rest, turn, st, rfl, hd, hl⟩
    obtain ⟨k', hk', rfl⟩ := mem_rng hdm
    have hi : i < 63 := by
      have : (rngV 0 ns.length).length = ns.length := by simp [rngV]
      omega
    refine ⟨[some (Ld ns), some (Ld ds), some (.int k'), rest, turn, st], ?_⟩
    generalize hr : ((ns[k'].natAbs : Nat) : Int) = r
    have r0 : 0 ≤ r := by omega
    have e3 : evS (sgOf p n) (.set 3 (.bi .abs (.cons (.ix (.var 0) (.var 2)) (.nil)))) ([1], [some (Ld ns), some (Ld ds), some (.int k'), rest, turn, st]) = .nx ([1], [some (Ld ns), some (Ld ds), some (.int k'), some (.int r), turn, st]) := by
      simp only [evS, evE, evEs, List.getElem?_cons_succ, List.getElem?_cons_zero, bok, sok, abs_at ns k' hk', babs, hr, List.set_cons_succ, List.set_cons_zero]
      rfl
    unfold lwDraws2
    rw [evSs, e3]
    dsimp only
    rw [evSs]
    have h65 : (65536 : Int) ≠ 0 := by decide
    have l65 : (65536 : Int).natAbs.log2 < 9000 := by decide
    have hc : evE (sgOf p n) (.cmp .ge (.var 3) (.bin .pow (.int 10) (.int 18))) [some (Ld ns), some (Ld ds), some (.int k'), some (.int r), turn, st] = .ok (.bool (decide ((10 : Int) ^ 18 ≤ r))) := rfl
    by_cases c : (10 : Int) ^ 18 ≤ r
    · rw [evS]
      dsimp only
      rw [hc, bok, bO, sok]
      simp only [c, decide_true, if_true]
      have ep : pk (.cmp .ge (.var 3) (.bin .pow (.int 10) (.int 18))) = [] := rfl
      rw [ep, evSs, evS]
      have e5 : evIt (sgOf p n) (.r1 (.int 60)) [some (Ld ns), some (Ld ds), some (.int k'), some (.int r), turn, st] = .ok (rngV 0 60) := rfl
      dsimp only
      rw [e5, sok]
      have el5 : escItM true (.r1 (.int 60)) = [] := rfl
      rw [el5]
      have step2 : ∀ j d s, j < 0 + (rngV 0 60).length → d ∈ rngV 0 60 → inB (60 * i) (Ld ns) (some (.int k')) st j s → ∃ ρ1 s', tgSet (.nm 4) d s.2 = some ρ1 ∧ evSs (sgOf p n) lwDraws1 (s.1, ρ1) = .nx s' ∧ inB (60 * i) (Ld ns) (some (.int k')) st (j + 1) s' := by
        rintro j d s hj hdm ⟨ds2, rest2, turn2, rfl, hd2, hl2, hr2⟩
        have hj : j < 60 := by
          have : (rngV 0 60).length = 60 := by simp [rngV]
          omega
        refine ⟨[some (Ld ns), some (Ld ds2), some (.int k'), some (.int rest2), some d, st], ?_⟩
        unfold lwDraws1
        obtain ⟨m0, m1⟩ := fmodR rest2 (b := 65536) (by decide)
        by_cases c2 : 0 < rest2
        · refine ⟨([1], [some (Ld ns), some (Ld (ds2 ++ [rest2.fmod 65536])), some (.int k'), some (.int (rest2.fdiv 65536)), some d, st]), rfl, ?_, _, _, _, rfl, okD_snoc hd2 m0 m1, by rw [List.length_append, List.length_singleton]; omega, Int.fdiv_nonneg (by omega) (by decide)⟩
          have ea : evE (sgOf p n) (.bin .mod (.bi .int (.cons (.var 3) (.nil))) (.int 65536)) [some (Ld ns), some (Ld ds2), some (.int k'), some (.int rest2), some d, st] = .ok (.int (rest2.fmod 65536)) := by
            simp only [evE, evEs, List.getElem?_cons_succ, List.getElem?_cons_zero, bok, bint, vmod _ _ h65]
          have eb := app1 (S := sgOf p n) (ρ := [some (Ld ns), some (Ld ds2), some (.int k'), some (.int rest2), some d, st]) rfl ea rfl (by rw [List.length_map]; omega)
          rw [snoc] at eb
          rw [evSs, evS]
          have ec : evE (sgOf p n) (.cmp .gt (.var 3) (.int 0)) [some (Ld ns), some (Ld ds2), some (.int k'), some (.int rest2), some d, st] = .ok (.bool true) := by
            simp only [evE, List.getElem?_cons_succ, List.getElem?_cons_zero, bok, cgt, c2, decide_true]
          dsimp only
          rw [ec, bok, bO, sok, if_pos rfl, show Fe.dl [1] (pk (.cmp .gt (.var 3) (.int 0))) = [1] from rfl, evSs, eb]
          simp only [evSs, evS, evE, List.getElem?_cons_succ, List.getElem?_cons_zero, bok, sok, vfdiv _ _ h65 l65, List.set_cons_succ, List.set_cons_zero]
          rfl
        · refine ⟨([1], [some (Ld ns), some (Ld ds2), some (.int k'), some (.int rest2), some d, st]), rfl, ?_, _, _, _, rfl, hd2, by omega, hr2⟩
          simp only [evSs, evS, evE, evEs, List.getElem?_cons_succ, List.getElem?_cons_zero, bok, sok, cgt, bO, c2, decide_false, Bool.false_eq_true, if_false]
          rfl
      obtain ⟨s', q, ⟨ds2, rest2, turn2, rfl, hd2, hl2, _⟩⟩ := forGo_ix (t := .nm 4) (inB (60 * i) (Ld ns) (some (.int k')) st) (rngV 0 60) 0 (Fe.dl (Fe.dl [1] []) [], [some (Ld ns), some (Ld ds), some (.int k'), some (.int r), turn, st]) ⟨ds, r, turn, rfl, hd, hl, r0⟩ step2
      rw [q]
      dsimp only
      refine ⟨_, rfl, rfl, ds2, _, _, _, _, rfl, hd2, ?_⟩
      have : (rngV 0 60).length = 60 := by simp [rngV]
      omega
    · rw [evS]
      dsimp only
      rw [hc, bok, bO, sok]
      simp only [c, decide_false, Bool.false_eq_true, if_false]
      have ep : pk (.cmp .ge (.var 3) (.bin .pow (.int 10) (.int 18))) = [] := rfl
      rw [ep, show Fe.dl [1] [] = [1] from rfl]
      have c' : r < 1000000000000000000 := by
        have : (10 : Int) ^ 18 = 1000000000000000000 := by decide
        omega
      have lr : r.natAbs.log2 < 60 := log_lt (by omega) (by decide)
      have lk : ((k' : Int) + 1).natAbs.log2 < 60 := log_lt (by omega) (by decide)
      have lk2 : ((k' : Int)).natAbs.log2 < 60 := log_lt (by omega) (by decide)
      have la : (48271 : Int).natAbs.log2 < 60 := by decide
      have lb : (69621 : Int).natAbs.log2 < 60 := by decide
      have lc : (16807 : Int).natAbs.log2 < 60 := by decide
      have le : (11 : Int).natAbs.log2 < 60 := by decide
      obtain ⟨m0, m1⟩ := fmodR (r * 48271 + (k' + 1) * 69621) (b := 2147483647) (by decide)
      generalize hu : (r * 48271 + ((k' : Int) + 1) * 69621).fmod 2147483647 = u at m0 m1
      have lu : u.natAbs.log2 < 60 := log_lt (by omega) (by decide)
      obtain ⟨w0, w1⟩ := fmodR (u * 16807 + 11 * k' + 5) (b := 2147483629) (by decide)
      generalize hw : (u * 16807 + 11 * (k' : Int) + 5).fmod 2147483629 = v at w0 w1
      have hm1 : (2147483647 : Int) ≠ 0 := by decide
      have hm2 : (2147483629 : Int) ≠ 0 := by decide
      have hm3 : (32768 : Int) ≠ 0 := by decide
      obtain ⟨x0, x1⟩ := fmodR v (b := 65536) (by decide)
      obtain ⟨y0, y1⟩ := fmodR (v.fdiv 65536) (b := 32768) (by decide)
      have s1 : evS (sgOf p n) (.set 5 (.bin .mod (.bi .int (.cons (.bin .add (.bin .mul (.var 3) (.int 48271)) (.bin .mul (.bin .add (.var 2) (.int 1)) (.int 69621))) (.nil))) (.int 2147483647))) ([1], [some (Ld ns), some (Ld ds), some (.int k'), some (.int r), turn, st]) = .nx ([1], [some (Ld ns), some (Ld ds), some (.int k'), some (.int r), turn, some (.int u)]) := by
        simp only [evS, evE, evEs, List.getElem?_cons_succ, List.getElem?_cons_zero, bok, sok, vmul _ _ (show r.natAbs.log2 + (48271 : Int).natAbs.log2 < 1000000 by omega), vadd, vmul _ _ (show ((k' : Int) + 1).natAbs.log2 + (69621 : Int).natAbs.log2 < 1000000 by omega), bint, vmod _ _ hm1, hu, List.set_cons_succ, List.set_cons_zero]
        rfl
      have s2 : evS (sgOf p n) (.set 5 (.bin .mod (.bi .int (.cons (.bin .add (.bin .add (.bin .mul (.var 5) (.int 16807)) (.bin .mul (.int 11) (.var 2))) (.int 5)) (.nil))) (.int 2147483629))) ([1], [some (Ld ns), some (Ld ds), some (.int k'), some (.int r), turn, some (.int u)]) = .nx ([1], [some (Ld ns), some (Ld ds), some (.int k'), some (.int r), turn, some (.int v)]) := by
        simp only [evS, evE, evEs, List.getElem?_cons_succ, List.getElem?_cons_zero, bok, sok, vmul _ _ (show u.natAbs.log2 + (16807 : Int).natAbs.log2 < 1000000 by omega), vadd, vmul _ _ (show (11 : Int).natAbs.log2 + ((k' : Int)).natAbs.log2 < 1000000 by omega), bint, vmod _ _ hm2, hw, List.set_cons_succ, List.set_cons_zero]
        rfl
      have ea : evE (sgOf p n) (.bin .mod (.bi .int (.cons (.var 5) (.nil))) (.int 65536)) [some (Ld ns), some (Ld ds), some (.int k'), some (.int r), turn, some (.int v)] = .ok (.int (v.fmod 65536)) := by
        simp only [evE, evEs, List.getElem?_cons_succ, List.getElem?_cons_zero, bok, bint, vmod _ _ h65]
      have eb := app1 (S := sgOf p n) (ρ := [some (Ld ns), some (Ld ds), some (.int k'), some (.int r), turn, some (.int v)]) rfl ea rfl (by rw [List.length_map]; omega)
      rw [snoc] at eb
      have ec : evE (sgOf p n) (.bin .mod (.bi .int (.cons (.bin .fdiv (.var 5) (.int 65536)) (.nil))) (.int 32768)) [some (Ld ns), some (Ld (ds ++ [v.fmod 65536])), some (.int k'), some (.int r), turn, some (.int v)] = .ok (.int ((v.fdiv 65536).fmod 32768)) := by
        simp only [evE, evEs, List.getElem?_cons_succ, List.getElem?_cons_zero, bok, bint, vmod _ _ hm3, vfdiv _ _ h65 l65]
      have ed := app1 (S := sgOf p n) (ρ := [some (Ld ns), some (Ld (ds ++ [v.fmod 65536])), some (.int k'), some (.int r), turn, some (.int v)]) rfl ec rfl (by rw [List.length_map, List.length_append, List.length_singleton]; omega)
      rw [snoc] at ed
      rw [evSs, s1]
      dsimp only
      rw [evSs, s2]
      dsimp only
      rw [evSs, eb]
      dsimp only
      simp only [List.set_cons_succ, List.set_cons_zero]
      rw [evSs, ed]
      dsimp only
      simp only [List.set_cons_succ, List.set_cons_zero]
      rw [evSs]
      dsimp only
      rw [evSs]
      refine ⟨_, rfl, rfl, _, _, _, _, _, rfl, okD_snoc (okD_snoc hd x0 x1) y0 (by omega), ?_⟩
      rw [List.length_append, List.length_append, List.length_singleton, List.length_singleton]
      omega
  obtain ⟨s', q, ⟨ds, k, rest, turn, st, rfl, hd, _⟩⟩ := forGo_ix (t := .nm 2) (inA 60 (Ld ns)) (rngV 0 ns.length) 0 (Fe.dl [1] [], [some (Ld ns), some (Ld []), none, none, none, none]) ⟨[], none, none, none, none, rfl, fun _ z => (nomatch z), by simp⟩ step
  rw [q]
  exact ⟨ds, rfl, hd⟩
theorem ev_draws {p : Pg} {i : Nat} (hp : p.T[i]? = some dDraws) (n : Nat) (ns : List Int) (hn : ns.length ≤ 63) : ∃ ds : List Int, evF p (n + 1) i [Ld ns] = .ok (Ld ds) ∧ okD ds := by
  have e : evF p (n + 1) i [Ld ns] = fin (evSs (sgOf p n) lwDraws ([], [some (Ld ns), none, none, none, none, none])) := by
    rw [evF, hp]
    rfl
  exact ev_drawsB n ns hn e
/-! ### comprehensions over known items -/
theorem compGo_map {f : PD → R (Option PD)} {g : PD → PD} : ∀ L : List PD, (∀ d ∈ L, f d = .ok (some (g d))) → compGo f L = .ok (L.map g)
  | [], _ => rfl
  | d :: L, h => by
    rw [compGo, h d (List.mem_cons_self ..)]
    dsimp only
    rw [compGo_map L fun d hd => h d (List.mem_cons_of_mem _ hd)]
    rfl
end Fe
set_option Elab.async false
set_option linter.all false
set_option maxRecDepth 100000
set_option maxHeartbeats 4000000
namespace Fe
/-- numbers of few bits -/
class Bd (x : Int) (k : outParam Nat) : Prop where
  h : x.natAbs < 2 ^ k
theorem p2le {i j : Nat} (h : i ≤ j) : 2 ^ i ≤ 2 ^ j := Nat.pow_le_pow_right (by decide) h
theorem p2s (i : Nat) : 2 ^ (i + 1) = 2 * 2 ^ i := by rw [Nat.pow_succ]; omega
instance Bd.add {a b : Int} {i j : Nat} [A : Bd a i] [B : Bd b j] : Bd (a + b) (max i j + 1) := ⟨by
  have := A.h; have := B.h
  have := p2le (Nat.le_max_left i j); have := p2le (Nat.le_max_right i j)
  rw [p2s]; omega⟩
instance Bd.sub {a b : Int} {i j : Nat} [A : Bd a i] [B : Bd b j] : Bd (a - b) (max i j + 1) := ⟨by
  have := A.h; have := B.h
  have := p2le (Nat.le_max_left i j); have := p2le (Nat.le_max_right i j)
  rw [p2s]; omega⟩
instance Bd.neg {a : Int} {i : Nat} [A : Bd a i] : Bd (-a) i := ⟨by rw [Int.natAbs_neg]; exact A.h⟩
instance Bd.mul {a b : Int} {i j : Nat} [A : Bd a i] [B : Bd b j] : Bd (a * b) (i + j) := ⟨by
  rw [Int.natAbs_mul, Nat.pow_add]
  exact Nat.mul_lt_mul'' A.h B.h⟩
instance (priority := low) Bd.lit (n : Nat) : Bd (no_index (OfNat.ofNat n)) (n.log2 + 1) := ⟨by
  show n < _
  exact Nat.lt_log2_self⟩
instance Bd.ite {c : Prop} [Decidable c] {a b : Int} {i j : Nat} [A : Bd a i] [B : Bd b j] : Bd (if c then a else b) (max i j) := ⟨by
  have := A.h; have := B.h
  have := p2le (Nat.le_max_left i j); have := p2le (Nat.le_max_right i j)
  split <;> omega⟩
theorem Bd.up {a : Int} {i : Nat} (A : Bd a i) {j : Nat} (h : i ≤ j) : Bd a j := ⟨Nat.lt_of_lt_of_le A.h (p2le h)⟩
theorem Bd.of {a : Int} {m : Nat} (k : Nat) (h : a.natAbs ≤ m) (h2 : m < 2 ^ k) : Bd a k := ⟨Nat.lt_of_le_of_lt h h2⟩
/-- fractions of few bits -/
class BdQ (q : Rat) (k : outParam Nat) : Prop where
  n : q.num.natAbs < 2 ^ k
  d : q.den < 2 ^ k
theorem rat_num (q : Rat) : q = (q.num : Rat) / ((q.den : Int) : Rat) := by
  have := Rat.num_divInt_den q
  rw [Rat.divInt_eq_div] at this
  exact this.symm
theorem rat_of {n : Int} {d : Nat} (hd : d ≠ 0) (h : n.natAbs.Coprime d) : ((n : Rat) / ((d : Int) : Rat)) = ⟨n, d, hd, h⟩ := by
  rw [Rat.mk_eq_divInt, Rat.divInt_eq_div]
theorem cast_ne {d : Int} (h : d ≠ 0) : (d : Rat) ≠ 0 := by
  intro z
  have : (d : Rat) = ((0 : Int) : Rat) := z
  exact h (Rat.intCast_inj.mp this)
/-- a fraction n / d has parts that divide n and d -/
theorem rat_div_le {n d : Int} (h : d ≠ 0) : ((n : Rat) / (d : Rat)).num.natAbs ≤ n.natAbs ∧ ((n : Rat) / (d : Rat)).den ≤ d.natAbs := by
  generalize hq : (n : Rat) / (d : Rat) = q
  have e : n * (q.den : Int) = q.num * d := by
    have h1 := rat_num q
    rw [← hq] at h1
    rw [hq] at h1
    have hd := cast_ne h
    have hd2 : (((q.den : Nat) : Int) : Rat) ≠ 0 := cast_ne (by have := q.den_nz; omega)
    have : (n : Rat) * ((q.den : Int) : Rat) = (q.num : Rat) * (d : Rat) := by
      have h3 : (n : Rat) / d = (q.num : Rat) / ((q.den : Int) : Rat) := by rw [hq]; exact h1
      grind
    rw [← Rat.intCast_mul, ← Rat.intCast_mul] at this
    exact Rat.intCast_inj.mp this
  have en : n.natAbs * q.den = q.num.natAbs * d.natAbs := by
    have := congrArg Int.natAbs e
    rw [Int.natAbs_mul, Int.natAbs_mul] at this
    simpa using this
  have cop := q.reduced
  have h1 : q.den ∣ d.natAbs := (Nat.Coprime.dvd_of_dvd_mul_left cop.symm ⟨n.natAbs, by rw [← en, Nat.mul_comm]⟩)
  have hle : q.den ≤ d.natAbs := Nat.le_of_dvd (by omega) h1
  refine ⟨?_, hle⟩
  obtain ⟨c, hc⟩ := h1
  rw [hc] at en
  have dp : 0 < q.den := Nat.pos_of_ne_zero q.den_nz
  have : n.natAbs = q.num.natAbs * c := by
    have : q.den * n.natAbs = q.den * (q.num.natAbs * c) := by rw [Nat.mul_comm, en]; ac_rfl
    exact Nat.eq_of_mul_eq_mul_left dp this
  have c0 : 0 < c := by
    rcases Nat.eq_zero_or_pos c with z | z
    · subst z; omega
    · exact z
  rw [this]
  exact Nat.le_mul_of_pos_right _ c0
theorem BdQ.of_div {q : Rat} {n d : Int} {k : Nat} (h : d ≠ 0) (e : q = (n : Rat) / (d : Rat)) (hn : n.natAbs < 2 ^ k) (hd : d.natAbs < 2 ^ k) : BdQ q k := by
  subst e
  obtain ⟨a, b⟩ := rat_div_le (n := n) h
  exact ⟨Nat.lt_of_le_of_lt a hn, Nat.lt_of_le_of_lt b hd⟩
theorem den_ne (q : Rat) : (q.den : Int) ≠ 0 := by have := q.den_nz; omega
theorem den_cast (q : Rat) : (((q.den : Nat) : Int) : Rat) ≠ 0 := cast_ne (den_ne q)
theorem mul_ne {a b : Int} (h : a ≠ 0) (h2 : b ≠ 0) : a * b ≠ 0 := Int.mul_ne_zero h h2
theorem rat_add (x y : Rat) : x + y = ((x.num * (y.den : Int) + y.num * (x.den : Int) : Int) : Rat) / (((x.den : Int) * (y.den : Int) : Int) : Rat) := by
  have hx := den_cast x; have hy := den_cast y
  have ex := rat_num x; have ey := rat_num y
  rw [Rat.intCast_add, Rat.intCast_mul, Rat.intCast_mul, Rat.intCast_mul]
  generalize (x.num : Rat) = a at *
  generalize (y.num : Rat) = b at *
  generalize ((x.den : Int) : Rat) = c at *
  generalize ((y.den : Int) : Rat) = d at *
  subst ex ey
  grind
theorem rat_sub (x y : Rat) : x - y = ((x.num * (y.den : Int) - y.num * (x.den : Int) : Int) : Rat) / (((x.den : Int) * (y.den : Int) : Int) : Rat) := by
  have hx := den_cast x; have hy := den_cast y
  have ex := rat_num x; have ey := rat_num y
  rw [Rat.intCast_sub, Rat.intCast_mul, Rat.intCast_mul, Rat.intCast_mul]
  generalize (x.num : Rat) = a at *
  generalize (y.num : Rat) = b at *
  generalize ((x.den : Int) : Rat) = c at *
  generalize ((y.den : Int) : Rat) = d at *
  subst ex ey
  grind
theorem rat_mul (x y : Rat) : x * y = ((x.num * y.num : Int) : Rat) / (((x.den : Int) * (y.den : Int) : Int) : Rat) := by
  have hx := den_cast x; have hy := den_cast y
  have ex := rat_num x; have ey := rat_num y
  rw [Rat.intCast_mul, Rat.intCast_mul]
  generalize (x.num : Rat) = a at *
  generalize (y.num : Rat) = b at *
  generalize ((x.den : Int) : Rat) = c at *
  generalize ((y.den : Int) : Rat) = d at *
  subst ex ey
  grind
theorem num_ne {y : Rat} (h : y ≠ 0) : y.num ≠ 0 := fun z => h (by have := rat_num y; rw [z] at this; rw [this, Rat.intCast_zero]; grind)
theorem rat_div (x y : Rat) (h : y ≠ 0) : x / y = ((x.num * (y.den : Int) : Int) : Rat) / (((x.den : Int) * y.num : Int) : Rat) := by
  have hx := den_cast x; have hy := den_cast y
  have hn := cast_ne (num_ne h)
  have ex := rat_num x; have ey := rat_num y
  rw [Rat.intCast_mul, Rat.intCast_mul]
  generalize (x.num : Rat) = a at *
  generalize (y.num : Rat) = b at *
  generalize ((x.den : Int) : Rat) = c at *
  generalize ((y.den : Int) : Rat) = d at *
  subst ex ey
  grind
instance BdQ.add {x y : Rat} {i j : Nat} [A : BdQ x i] [B : BdQ y j] : BdQ (x + y) (i + j + 1) := by
  have h1 := Nat.mul_lt_mul'' A.n B.d; have h2 := Nat.mul_lt_mul'' B.n A.d; have h3 := Nat.mul_lt_mul'' A.d B.d
  rw [← Nat.pow_add] at h1 h2 h3
  rw [Nat.add_comm j i] at h2
  refine BdQ.of_div (mul_ne (den_ne x) (den_ne y)) (rat_add x y) ?_ ?_
  · rw [p2s]
    have : (x.num * (y.den : Int)).natAbs = x.num.natAbs * y.den := by rw [Int.natAbs_mul]; rfl
    have : (y.num * (x.den : Int)).natAbs = y.num.natAbs * x.den := by rw [Int.natAbs_mul]; rfl
    omega
  · rw [p2s]
    have : ((x.den : Int) * (y.den : Int)).natAbs = x.den * y.den := by rw [Int.natAbs_mul]; rfl
    omega
instance BdQ.sub {x y : Rat} {i j : Nat} [A : BdQ x i] [B : BdQ y j] : BdQ (x - y) (i + j + 1) := by
  have h1 := Nat.mul_lt_mul'' A.n B.d; have h2 := Nat.mul_lt_mul'' B.n A.d; have h3 := Nat.mul_lt_mul'' A.d B.d
  rw [← Nat.pow_add] at h1 h2 h3
  rw [Nat.add_comm j i] at h2
  refine BdQ.of_div (mul_ne (den_ne x) (den_ne y)) (rat_sub x y) ?_ ?_
  · rw [p2s]
    have : (x.num * (y.den : Int)).natAbs = x.num.natAbs * y.den := by rw [Int.natAbs_mul]; rfl
    have : (y.num * (x.den : Int)).natAbs = y.num.natAbs * x.den := by rw [Int.natAbs_mul]; rfl
    omega
  · rw [p2s]
    have : ((x.den : Int) * (y.den : Int)).natAbs = x.den * y.den := by rw [Int.natAbs_mul]; rfl
    omega
instance BdQ.mul {x y : Rat} {i j : Nat} [A : BdQ x i] [B : BdQ y j] : BdQ (x * y) (i + j) := by
  have h1 := Nat.mul_lt_mul'' A.n B.n; have h3 := Nat.mul_lt_mul'' A.d B.d
  rw [← Nat.pow_add] at h1 h3
  refine BdQ.of_div (mul_ne (den_ne x) (den_ne y)) (rat_mul x y) ?_ ?_
  · rw [Int.natAbs_mul]; exact h1
  · rw [Int.natAbs_mul]; exact h3
theorem BdQ.pos {x : Rat} {i : Nat} [A : BdQ x i] : 1 < 2 ^ i := by
  have := A.d; have := x.den_nz; omega
instance BdQ.div {x y : Rat} {i j : Nat} [A : BdQ x i] [B : BdQ y j] : BdQ (x / y) (i + j) := by
  by_cases h : y = 0
  · subst h
    have p := BdQ.pos (x := x) (i := i)
    have : x / 0 = 0 := by grind
    rw [this]
    have : 2 ^ i ≤ 2 ^ (i + j) := p2le (by omega)
    refine ⟨?_, ?_⟩
    · show 0 < _; omega
    · show 1 < _; omega
  · have h1 := Nat.mul_lt_mul'' A.n B.d; have h3 := Nat.mul_lt_mul'' A.d B.n
    rw [← Nat.pow_add] at h1 h3
    refine BdQ.of_div (mul_ne (den_ne x) (num_ne h)) (rat_div x y h) ?_ ?_
    · rw [Int.natAbs_mul]; exact h1
    · rw [Int.natAbs_mul]; exact h3
instance BdQ.neg {x : Rat} {i : Nat} [A : BdQ x i] : BdQ (-x) i := ⟨by show (-x.num).natAbs < _; rw [Int.natAbs_neg]; exact A.n, A.d⟩
instance BdQ.int {a : Int} {i : Nat} [A : Bd a i] : BdQ (a : Rat) (i + 1) := ⟨by
  rw [Rat.num_intCast, p2s]; have := A.h; omega, by
  rw [Rat.den_intCast, p2s]; have : 0 < 2 ^ i := Nat.pow_pos (by decide); omega⟩
instance (priority := low) BdQ.lit (n : Nat) : BdQ (no_index (OfNat.ofNat n)) (n.log2 + 2) := by
  have A := Bd.lit n
  have : (OfNat.ofNat n : Rat) = ((OfNat.ofNat n : Int) : Rat) := rfl
  rw [this]
  exact BdQ.int
theorem BdQ.up {a : Rat} {i : Nat} (A : BdQ a i) {j : Nat} (h : i ≤ j) : BdQ a j := ⟨Nat.lt_of_lt_of_le A.n (p2le h), Nat.lt_of_lt_of_le A.d (p2le h)⟩
instance Bd.num {q : Rat} {i : Nat} [A : BdQ q i] : Bd q.num i := ⟨A.n⟩
instance Bd.den {q : Rat} {i : Nat} [A : BdQ q i] : Bd (q.den : Int) i := ⟨A.d⟩
end Fe
namespace Fe
open PySem PySem.Spec PyProof.Rows L2
/-! ### fractions -/
def QD (q : Rat) : PD := P q.num q.den
theorem QD_eq {n d : Int} (hd : 0 < d) (h : Nat.gcd n.natAbs d.natAbs = 1) : P n d = QD ((n : Rat) / (d : Rat)) := by
  obtain ⟨k, rfl⟩ : ∃ k : Nat, d = (k : Int) := ⟨d.toNat, by omega⟩
  have hk : k ≠ 0 := by omega
  rw [rat_of hk (by simpa using h)]
  rfl
theorem lo_QD {a b : Int} (h : b ≠ 0) : lo a b = QD ((a : Rat) / (b : Rat)) := by
  have hg := gg_pos (a := a) h
  have g1 : gg a b ∣ a := Int.ofNat_dvd_left.mpr (Nat.gcd_dvd_left ..)
  have g2 : gg a b ∣ b := Int.ofNat_dvd_left.mpr (Nat.gcd_dvd_right ..)
  obtain ⟨n, hn⟩ := g1
  obtain ⟨d, hd⟩ := g2
  have gp : 0 < Nat.gcd a.natAbs b.natAbs := by unfold gg at hg; omega
  have cop : Nat.gcd n.natAbs d.natAbs = 1 := by
    have e1 : a.natAbs = Nat.gcd a.natAbs b.natAbs * n.natAbs := by
      have := congrArg Int.natAbs hn
      rw [Int.natAbs_mul] at this
      exact this
    have e2 : b.natAbs = Nat.gcd a.natAbs b.natAbs * d.natAbs := by
      have := congrArg Int.natAbs hd
      rw [Int.natAbs_mul] at this
      exact this
    have : Nat.gcd a.natAbs b.natAbs * Nat.gcd n.natAbs d.natAbs = Nat.gcd a.natAbs b.natAbs * 1 := by
      rw [← Nat.gcd_mul_left, ← e1, ← e2, Nat.mul_one]
    exact Nat.eq_of_mul_eq_mul_left gp this
  have d0 : d ≠ 0 := fun z => h (by rw [hd, z, Int.mul_zero])
  have gr := cast_ne (show gg a b ≠ 0 by omega)
  unfold lo kk
  by_cases c : b < 0
  · rw [if_pos c]
    have k0 : -gg a b ≠ 0 := by omega
    have ea : a = -gg a b * -n := by rw [Int.neg_mul_neg]; exact hn
    have eb : b = -gg a b * -d := by rw [Int.neg_mul_neg]; exact hd
    have f1 : a.fdiv (-gg a b) = -n := by
      generalize -gg a b = g at *
      rw [ea]; exact Int.mul_fdiv_cancel_left _ k0
    have f2 : b.fdiv (-gg a b) = -d := by
      generalize -gg a b = g at *
      rw [eb]; exact Int.mul_fdiv_cancel_left _ k0
    rw [f1, f2]
    have dn : d < 0 := by
      by_cases z : d < 0
      · exact z
      · have : 0 ≤ gg a b * d := Int.mul_nonneg (by omega) (by omega)
        omega
    rw [QD_eq (by omega) (by rw [Int.natAbs_neg, Int.natAbs_neg]; exact cop)]
    congr 1
    have dr := cast_ne d0
    have e1 : (a : Rat) = (gg a b : Rat) * (n : Rat) := by rw [← Rat.intCast_mul, ← hn]
    have e2 : (b : Rat) = (gg a b : Rat) * (d : Rat) := by rw [← Rat.intCast_mul, ← hd]
    rw [e1, e2, Rat.intCast_neg, Rat.intCast_neg]
    grind
  · rw [if_neg c]
    have k0 : gg a b ≠ 0 := by omega
    have f1 : a.fdiv (gg a b) = n := by
      generalize gg a b = g at *
      rw [hn]; exact Int.mul_fdiv_cancel_left _ k0
    have f2 : b.fdiv (gg a b) = d := by
      generalize gg a b = g at *
      rw [hd]; exact Int.mul_fdiv_cancel_left _ k0
    rw [f1, f2]
    have dn : 0 < d := by
      by_cases z : 0 < d
      · exact z
      · have : gg a b * d ≤ 0 := Int.mul_nonpos_of_nonneg_of_nonpos (by omega) (by omega)
        omega
    rw [QD_eq dn cop]
    congr 1
    have dr := cast_ne d0
    have e1 : (a : Rat) = (gg a b : Rat) * (n : Rat) := by rw [← Rat.intCast_mul, ← hn]
    have e2 : (b : Rat) = (gg a b : Rat) * (d : Rat) := by rw [← Rat.intCast_mul, ← hd]
    rw [e1, e2]
    grind
theorem QD_inj {x y : Rat} (h : QD x = QD y) : x = y := by
  unfold QD P at h
  injection h with h
  injection h with h1 h
  injection h with h2 _
  injection h1 with h1
  injection h2 with h2
  exact Rat.ext h1 (by omega)
theorem q0 (x : Rat) : ixV (QD x) (.int 0) = .ok (.int x.num) := rfl
theorem q1 (x : Rat) : ixV (QD x) (.int 1) = .ok (.int x.den) := rfl
theorem eqv_QD (x y : Rat) : PyData.eqv (QD x) (QD y) = decide (x = y) := by
  show (x.num == y.num && ((x.den : Int) == (y.den : Int) && true)) = _
  rw [Bool.eq_iff_iff]
  simp only [Bool.and_true, Bool.and_eq_true, beq_iff_eq, decide_eq_true_eq]
  constructor
  · rintro ⟨a, b⟩; exact Rat.ext a (by omega)
  · rintro rfl; exact ⟨rfl, rfl⟩
theorem eqv_int (x y : Int) : PyData.eqv (.int x) (.int y) = decide (x = y) := by
  show (x == y) = _
  rw [Bool.eq_iff_iff]; simp
theorem eqv_str (x y : Str) : PyData.eqv (.str x) (.str y) = decide (x = y) := by
  show (x == y) = _
  rw [Bool.eq_iff_iff]; simp
mutual
theorem eqv_self : ∀ d : PD, noD d = true → PyData.eqv d d = true
  | .none, _ => rfl
  | .bool b, _ => by simp [PyData.eqv]
  | .int b, _ => by simp [PyData.eqv]
  | .str b, _ => by simp [PyData.eqv]
  | .list xs, h => by rw [PyData.eqv]; exact eqvs_self xs (by simpa [noD] using h)
  | .tuple xs, h => by rw [PyData.eqv]; exact eqvs_self xs (by simpa [noD] using h)
  | .dict _, h => by simp [noD] at h
theorem eqvs_self : ∀ d : List PD, noDs d = true → PyData.eqvAll d d = true
  | [], _ => rfl
  | x :: xs, h => by
    have h := Bool.and_eq_true_iff.mp (by simpa [noDs] using h)
    rw [PyData.eqvAll, eqv_self x h.1, eqvs_self xs h.2]
    rfl
end
theorem ceqG {d e : PD} (h : eqOk d e = true) : cmpV .eq d e = .ok (.bool (PyData.eqv d e)) := by
  cases d <;> cases e <;> simp only [cmpV, h, if_true]
theorem cneG {d e : PD} (h : eqOk d e = true) : cmpV .ne d e = .ok (.bool (!PyData.eqv d e)) := by
  cases d <;> cases e <;> simp only [cmpV, h, if_true]
theorem eqOk_noD {d e : PD} (h : eqOk d e = true) : noD d = true := by
  unfold eqOk at h
  simp only [Bool.and_eq_true] at h
  exact h.1.1.1
theorem ceqS {d : PD} (h : eqOk d d = true) : cmpV .eq d d = .ok (.bool true) := by
  rw [ceqG h, eqv_self d (eqOk_noD h)]
theorem cneS {d : PD} (h : eqOk d d = true) : cmpV .ne d d = .ok (.bool false) := by
  rw [cneG h, eqv_self d (eqOk_noD h)]; rfl
theorem ceqQ (x y : Rat) : cmpV .eq (QD x) (QD y) = .ok (.bool (decide (x = y))) := by rw [ceqG rfl, eqv_QD]
theorem cneQ (x y : Rat) : cmpV .ne (QD x) (QD y) = .ok (.bool (!decide (x = y))) := by rw [cneG rfl, eqv_QD]
theorem ceqT (x y : Str) : cmpV .eq (.str x) (.str y) = .ok (.bool (decide (x = y))) := by rw [ceqG rfl, eqv_str]
theorem cneT (x y : Str) : cmpV .ne (.str x) (.str y) = .ok (.bool (!decide (x = y))) := by rw [cneG rfl, eqv_str]
/-! ### arithmetic with bounds -/
theorem Bd.log {a : Int} {i : Nat} (A : Bd a i) : a.natAbs.log2 ≤ i := by
  by_cases c : a.natAbs = 0
  · rw [c]; exact Nat.zero_le _
  · exact Nat.le_of_lt ((Nat.log2_lt c).mpr A.h)
theorem bmul (a b : Int) {i j : Nat} [A : Bd a i] [B : Bd b j] (h : i + j < 1000000) : binV .mul (.int a) (.int b) = .ok (.int (a * b)) := vmul a b (by have := A.log; have := B.log; omega)
theorem bfdiv (a b : Int) {j : Nat} [B : Bd b j] (h0 : b ≠ 0) (h : j < 9000) : binV .fdiv (.int a) (.int b) = .ok (.int (a.fdiv b)) := vfdiv a b h0 (by have := B.log; omega)
theorem bmod (a b : Int) (h0 : b ≠ 0) : binV .mod (.int a) (.int b) = .ok (.int (a.fmod b)) := vmod a b h0
theorem boolI (b : Bool) : biV .int [.bool b] = .ok (.int (if b = true then 1 else 0)) := rfl
/-! ### draws -/
def mixF (ds : List Int) (k many : Int) : Int :=
  if many ≤ 0 then 0 else
  let cell := if ds.length = 0 then 0 else (ds[(k.fmod ds.length).toNat]?).getD 0
  if k < ds.length then cell.fmod many else ((cell * 7919 + k * 104729).fdiv 3).fmod many
theorem mix0 (ds : List Int) (k many : Int) : 0 ≤ mixF ds k many := by
  unfold mixF
  split
  · omega
  · dsimp only
    split <;> exact (fmodR _ (by omega)).1
theorem mixL (ds : List Int) (k many : Int) (h : 0 < many) : mixF ds k many < many := by
  unfold mixF
  rw [if_neg (by omega)]
  dsimp only
  split <;> exact (fmodR _ (by omega)).2
instance Bd.mix {ds : List Int} {k many : Int} {i : Nat} [A : Bd many i] : Bd (mixF ds k many) i := ⟨by
  have h0 := mix0 ds k many
  have := A.h
  by_cases c : 0 < many
  · have := mixL ds k many c
    omega
  · have : mixF ds k many = 0 := by unfold mixF; rw [if_pos (by omega)]
    rw [this]
    exact Nat.pow_pos (by decide)⟩
theorem ev_mixF {p : Pg} {i : Nat} (n : Nat) {ds : List Int} (hd : okD ds) (k many : Int) (hk : 0 ≤ k) (hk2 : k < 10000) (hm : 0 < many) (e : evF p (n + 1) i [Ld ds, .int k, .int many] = fin (evSs (sgOf p n) lwMix ([], [some (Ld ds), some (.int k), some (.int many), none]))) : evF p (n + 1) i [Ld ds, .int k, .int many] = .ok (.int (mixF ds k many)) := by
  rw [e]
  unfold lwMix mixF
  rw [if_neg (by omega)]
  dsimp only
  have hm0 : many ≠ 0 := by omega
  have h3 : (3 : Int).natAbs.log2 < 9000 := by decide
  have lk : k.natAbs.log2 < 60 := log_lt (by omega) (by decide)
  have l1 : (104729 : Int).natAbs.log2 < 60 := by decide
  have l2 : (7919 : Int).natAbs.log2 < 60 := by decide
  have mk : binV .mul (.int k) (.int 104729) = .ok (.int (k * 104729)) := vmul _ _ (by omega)
  by_cases c : 0 < ds.length
  · have cl : (0 : Int) < (ds.map PyData.int).length := by simpa using c
    have cn : ((ds.map PyData.int).length : Int) ≠ 0 := by omega
    obtain ⟨j0, j1⟩ := fmodR k cl
    rw [List.length_map] at j0 j1
    have hlt : (k.fmod (ds.length : Int)).toNat < ds.length := by omega
    obtain ⟨hx0, hx1⟩ := hd _ (List.getElem_mem hlt)
    have eg : (ds[(k.fmod (ds.length : Int)).toNat]?).getD 0 = ds[(k.fmod (ds.length : Int)).toNat] := by
      rw [List.getElem?_eq_getElem hlt]; rfl
    rw [if_neg (show ¬ ds.length = 0 by omega), eg]
    have ex : ixV (.list (ds.map PyData.int)) (.int (k.fmod ((ds.map PyData.int).length : Int))) = .ok (.int ds[(k.fmod (ds.length : Int)).toNat]) := by
      rw [List.length_map]
      show (match atI (ds.map PyData.int) (k.fmod (ds.length : Int)) with | some d => R.ok d | none => .bad) = _
      have : atI (ds.map PyData.int) (k.fmod (ds.length : Int)) = some (.int ds[(k.fmod (ds.length : Int)).toNat]) := by
        unfold atI ixN
        rw [if_pos j0, if_pos (by rw [List.length_map]; omega)]
        simp [hlt]
      rw [this]
    generalize ds[(k.fmod (ds.length : Int)).toNat] = x at *
    have lx : x.natAbs.log2 < 60 := log_lt (by omega) (by decide)
    have mx : binV .mul (.int x) (.int 7919) = .ok (.int (x * 7919)) := vmul _ _ (by omega)
    by_cases c2 : k < ds.length
    · have c3 : k < (ds.map PyData.int).length := by simpa using c2
      rw [if_pos c2]
      simp only [evSs, evS, evEs, evE, List.getElem?_cons_succ, List.getElem?_cons_zero, bok, sok, cgt, clt, bO, blen, bint, cl, c3, decide_true, if_true, vmod _ _ cn, vmod _ _ hm0, ex, dl0, List.set_cons_succ, List.set_cons_zero, frt]
    · have c3 : ¬ k < (ds.map PyData.int).length := by simpa using c2
      rw [if_neg c2]
      simp only [evSs, evS, evEs, evE, List.getElem?_cons_succ, List.getElem?_cons_zero, bok, sok, cgt, clt, bO, blen, bint, cl, c3, decide_true, decide_false, if_true, if_false, Bool.false_eq_true, vmod _ _ cn, vmod _ _ hm0, ex, dl0, List.set_cons_succ, List.set_cons_zero, frt, mx, mk, vadd, vfdiv _ _ (show (3 : Int) ≠ 0 by decide) h3]
  · have e0 : ds = [] := List.length_eq_zero_iff.mp (by omega)
    subst e0
    have c2 : ¬ k < ((([] : List Int).map PyData.int).length : Int) := by simp; omega
    have cl : ¬ (0 : Int) < ((([] : List Int).map PyData.int).length : Int) := by simp
    have mx : binV .mul (.int 0) (.int 7919) = .ok (.int (0 * 7919)) := rfl
    rw [if_neg (show ¬ k < (([] : List Int).length : Int) from c2), if_pos (show ([] : List Int).length = 0 from rfl)]
    simp only [evSs, evS, evEs, evE, List.getElem?_cons_succ, List.getElem?_cons_zero, bok, sok, cgt, clt, bO, blen, bint, cl, c2, decide_true, decide_false, if_true, if_false, Bool.false_eq_true, vmod _ _ hm0, dl0, List.set_cons_succ, List.set_cons_zero, frt, mx, mk, vadd, vfdiv _ _ (show (3 : Int) ≠ 0 by decide) h3]
def sgn (x : Rat) : Int := if 0 < x then 1 else if x < 0 then -1 else 0
theorem num_lt (x : Rat) : x.num < 0 ↔ x < 0 := by
  rw [Rat.lt_iff]; simp
theorem num_gt (x : Rat) : 0 < x.num ↔ 0 < x := by
  rw [Rat.lt_iff]; simp
theorem sgn_num (x : Rat) : (if decide (0 < x.num) = true then (1 : Int) else 0) - (if decide (x.num < 0) = true then (1 : Int) else 0) = sgn x := by
  unfold sgn
  simp only [num_lt, num_gt, decide_eq_true_eq]
  by_cases a : 0 < x
  · have : ¬ x < 0 := by grind
    rw [if_pos a, if_pos a, if_neg this]; rfl
  · rw [if_neg a, if_neg a]
    split <;> rfl
theorem floor_num (x : Rat) : x.num.fdiv (x.den : Int) = x.floor := by
  rw [Rat.floor_def, Int.fdiv_eq_ediv_of_nonneg _ (by omega)]
/-! ### steps -/
theorem seq1 {S : Sig} {a : Sm} {r : Ss} {s s' : Sta} {z : SR} (h : evS S a s = .nx s') (h2 : evSs S r s' = z) : evSs S (.cons a r) s = z := by
  rw [evSs, h]; exact h2
theorem seqR {S : Sig} {a : Sm} {r : Ss} {s : Sta} {d : PD} (h : evS S a s = .rt d) : evSs S (.cons a r) s = .rt d := by
  rw [evSs, h]
theorem seqX {S : Sig} {a : Sm} {r : Ss} {s s' : Sta} {c : Str} {i : Int} (h : evS S a s = .exc c i s') : evSs S (.cons a r) s = .exc c i s' := by
  rw [evSs, h]
end Fe
set_option Elab.async false
set_option linter.all false
set_option maxRecDepth 100000
set_option maxHeartbeats 4000000
namespace Fe
open PySem PySem.Spec PyProof.Rows L2
/-! ### what is worked out at given numbers -/
def rngR (i : Int) : R (List PD) := if inRg i then .ok (rngV 0 i.toNat) else .bad
def rng2R (i j : Int) : R (List PD) := if inRg i && inRg j then .ok (rngV i (j - i).toNat) else .bad
theorem itE (S : Sig) (a : E) (ρ : Fe.Env) : evIt S (.e a) ρ = (evE S a ρ).bind fun x => itemsOf x := rfl
theorem itR (S : Sig) (a : E) (ρ : Fe.Env) : evIt S (.r1 a) ρ = (evE S a ρ).bind fun x => (intOf x).bind fun i => rngR i := rfl
theorem itR2 (S : Sig) (a b : E) (ρ : Fe.Env) : evIt S (.r2 a b) ρ = (evE S a ρ).bind fun x => (evE S b ρ).bind fun y => (intOf x).bind fun i => (intOf y).bind fun j => rng2R i j := rfl
theorem itZ (S : Sig) (a b : E) (ρ : Fe.Env) : evIt S (.zip a b) ρ = (evE S a ρ).bind fun x => (evE S b ρ).bind fun y => zip2V x y := rfl
theorem itN (S : Sig) (a : E) (ρ : Fe.Env) : evIt S (.enum a) ρ = (evE S a ρ).bind fun x => enum1V x := rfl
theorem zpL (a b : List PD) : zip2V (.list a) (.list b) = .ok (zipV a b) := rfl
theorem zpT (a b : List PD) : zip2V (.tuple a) (.tuple b) = .ok (zipV a b) := rfl
theorem zpC (a b : PD) (r s : List PD) : zipV (a :: r) (b :: s) = .tuple [a, b] :: zipV r s := rfl
theorem zpN (s : List PD) : zipV [] s = [] := rfl
theorem zpM (s : List PD) : zipV s [] = [] := by cases s <;> rfl
theorem enL (a : List PD) : enum1V (.list a) = .ok (enumV 0 a) := rfl
theorem enT (a : List PD) : enum1V (.tuple a) = .ok (enumV 0 a) := rfl
theorem rngR_ok {i : Int} (h : 0 ≤ i) (h2 : i < 1000000) : rngR i = .ok (rngV 0 i.toNat) := by
  unfold rngR
  rw [if_pos]
  exact decide_eq_true (by omega)
instance (priority := high) : Bd (0 : Int) 1 := ⟨by decide⟩
instance (priority := high) : BdQ (0 : Rat) 1 := ⟨by decide, by decide⟩
instance (priority := high) : Bd (1 : Int) 1 := ⟨by decide⟩
instance (priority := high) : BdQ (1 : Rat) 1 := ⟨by decide, by decide⟩
instance (priority := high) : Bd (2 : Int) 2 := ⟨by decide⟩
instance (priority := high) : BdQ (2 : Rat) 2 := ⟨by decide, by decide⟩
instance (priority := high) : Bd (3 : Int) 2 := ⟨by decide⟩
instance (priority := high) : BdQ (3 : Rat) 2 := ⟨by decide, by decide⟩
instance (priority := high) : Bd (4 : Int) 3 := ⟨by decide⟩
instance (priority := high) : BdQ (4 : Rat) 3 := ⟨by decide, by decide⟩
instance (priority := high) : Bd (5 : Int) 3 := ⟨by decide⟩
instance (priority := high) : BdQ (5 : Rat) 3 := ⟨by decide, by decide⟩
instance (priority := high) : Bd (6 : Int) 3 := ⟨by decide⟩
instance (priority := high) : BdQ (6 : Rat) 3 := ⟨by decide, by decide⟩
instance (priority := high) : Bd (7 : Int) 3 := ⟨by decide⟩
instance (priority := high) : BdQ (7 : Rat) 3 := ⟨by decide, by decide⟩
instance (priority := high) : Bd (8 : Int) 4 := ⟨by decide⟩
instance (priority := high) : BdQ (8 : Rat) 4 := ⟨by decide, by decide⟩
instance (priority := high) : Bd (9 : Int) 4 := ⟨by decide⟩
instance (priority := high) : BdQ (9 : Rat) 4 := ⟨by decide, by decide⟩
instance (priority := high) : Bd (10 : Int) 4 := ⟨by decide⟩
instance (priority := high) : BdQ (10 : Rat) 4 := ⟨by decide, by decide⟩
instance (priority := high) : Bd (11 : Int) 4 := ⟨by decide⟩
instance (priority := high) : BdQ (11 : Rat) 4 := ⟨by decide, by decide⟩
instance (priority := high) : Bd (12 : Int) 4 := ⟨by decide⟩
instance (priority := high) : BdQ (12 : Rat) 4 := ⟨by decide, by decide⟩
instance (priority := high) : Bd (13 : Int) 4 := ⟨by decide⟩
instance (priority := high) : BdQ (13 : Rat) 4 := ⟨by decide, by decide⟩
instance (priority := high) : Bd (14 : Int) 4 := ⟨by decide⟩
instance (priority := high) : BdQ (14 : Rat) 4 := ⟨by decide, by decide⟩
instance (priority := high) : Bd (15 : Int) 4 := ⟨by decide⟩
instance (priority := high) : BdQ (15 : Rat) 4 := ⟨by decide, by decide⟩
instance (priority := high) : Bd (16 : Int) 5 := ⟨by decide⟩
instance (priority := high) : BdQ (16 : Rat) 5 := ⟨by decide, by decide⟩
instance (priority := high) : Bd (17 : Int) 5 := ⟨by decide⟩
instance (priority := high) : BdQ (17 : Rat) 5 := ⟨by decide, by decide⟩
instance (priority := high) : Bd (18 : Int) 5 := ⟨by decide⟩
instance (priority := high) : BdQ (18 : Rat) 5 := ⟨by decide, by decide⟩
instance (priority := high) : Bd (19 : Int) 5 := ⟨by decide⟩
instance (priority := high) : BdQ (19 : Rat) 5 := ⟨by decide, by decide⟩
instance (priority := high) : Bd (20 : Int) 5 := ⟨by decide⟩
instance (priority := high) : BdQ (20 : Rat) 5 := ⟨by decide, by decide⟩
instance (priority := high) : Bd (21 : Int) 5 := ⟨by decide⟩
instance (priority := high) : BdQ (21 : Rat) 5 := ⟨by decide, by decide⟩
instance (priority := high) : Bd (22 : Int) 5 := ⟨by decide⟩
instance (priority := high) : BdQ (22 : Rat) 5 := ⟨by decide, by decide⟩
instance (priority := high) : Bd (23 : Int) 5 := ⟨by decide⟩
instance (priority := high) : BdQ (23 : Rat) 5 := ⟨by decide, by decide⟩
instance (priority := high) : Bd (24 : Int) 5 := ⟨by decide⟩
instance (priority := high) : BdQ (24 : Rat) 5 := ⟨by decide, by decide⟩
instance (priority := high) : Bd (25 : Int) 5 := ⟨by decide⟩
instance (priority := high) : BdQ (25 : Rat) 5 := ⟨by decide, by decide⟩
instance (priority := high) : Bd (26 : Int) 5 := ⟨by decide⟩
instance (priority := high) : BdQ (26 : Rat) 5 := ⟨by decide, by decide⟩
instance (priority := high) : Bd (27 : Int) 5 := ⟨by decide⟩
instance (priority := high) : BdQ (27 : Rat) 5 := ⟨by decide, by decide⟩
instance (priority := high) : Bd (28 : Int) 5 := ⟨by decide⟩
instance (priority := high) : BdQ (28 : Rat) 5 := ⟨by decide, by decide⟩
instance (priority := high) : Bd (29 : Int) 5 := ⟨by decide⟩
instance (priority := high) : BdQ (29 : Rat) 5 := ⟨by decide, by decide⟩
instance (priority := high) : Bd (30 : Int) 5 := ⟨by decide⟩
instance (priority := high) : BdQ (30 : Rat) 5 := ⟨by decide, by decide⟩
instance (priority := high) : Bd (31 : Int) 5 := ⟨by decide⟩
instance (priority := high) : BdQ (31 : Rat) 5 := ⟨by decide, by decide⟩
instance (priority := high) : Bd (32 : Int) 6 := ⟨by decide⟩
instance (priority := high) : BdQ (32 : Rat) 6 := ⟨by decide, by decide⟩
instance (priority := high) : Bd (40 : Int) 6 := ⟨by decide⟩
instance (priority := high) : BdQ (40 : Rat) 6 := ⟨by decide, by decide⟩
instance (priority := high) : Bd (41 : Int) 6 := ⟨by decide⟩
instance (priority := high) : BdQ (41 : Rat) 6 := ⟨by decide, by decide⟩
instance (priority := high) : Bd (60 : Int) 6 := ⟨by decide⟩
instance (priority := high) : BdQ (60 : Rat) 6 := ⟨by decide, by decide⟩
instance (priority := high) : Bd (64 : Int) 7 := ⟨by decide⟩
instance (priority := high) : BdQ (64 : Rat) 7 := ⟨by decide, by decide⟩
instance (priority := high) : Bd (90 : Int) 7 := ⟨by decide⟩
instance (priority := high) : BdQ (90 : Rat) 7 := ⟨by decide, by decide⟩
instance (priority := high) : Bd (93 : Int) 7 := ⟨by decide⟩
instance (priority := high) : BdQ (93 : Rat) 7 := ⟨by decide, by decide⟩
instance (priority := high) : Bd (95 : Int) 7 := ⟨by decide⟩
instance (priority := high) : BdQ (95 : Rat) 7 := ⟨by decide, by decide⟩
instance (priority := high) : Bd (100 : Int) 7 := ⟨by decide⟩
instance (priority := high) : BdQ (100 : Rat) 7 := ⟨by decide, by decide⟩
instance (priority := high) : Bd (128 : Int) 8 := ⟨by decide⟩
instance (priority := high) : BdQ (128 : Rat) 8 := ⟨by decide, by decide⟩
instance (priority := high) : Bd (200 : Int) 8 := ⟨by decide⟩
instance (priority := high) : BdQ (200 : Rat) 8 := ⟨by decide, by decide⟩
instance (priority := high) : Bd (255 : Int) 8 := ⟨by decide⟩
instance (priority := high) : BdQ (255 : Rat) 8 := ⟨by decide, by decide⟩
instance (priority := high) : Bd (256 : Int) 9 := ⟨by decide⟩
instance (priority := high) : BdQ (256 : Rat) 9 := ⟨by decide, by decide⟩
instance (priority := high) : Bd (1000 : Int) 10 := ⟨by decide⟩
instance (priority := high) : BdQ (1000 : Rat) 10 := ⟨by decide, by decide⟩
instance (priority := high) : Bd (1001 : Int) 10 := ⟨by decide⟩
instance (priority := high) : BdQ (1001 : Rat) 10 := ⟨by decide, by decide⟩
instance (priority := high) : Bd (2000 : Int) 11 := ⟨by decide⟩
instance (priority := high) : BdQ (2000 : Rat) 11 := ⟨by decide, by decide⟩
instance (priority := high) : Bd (2001 : Int) 11 := ⟨by decide⟩
instance (priority := high) : BdQ (2001 : Rat) 11 := ⟨by decide, by decide⟩
theorem rg0 : rngR 0 = .ok [] := rfl
theorem rg1 : rngR 1 = .ok [.int 0] := rfl
theorem rg2 : rngR 2 = .ok [.int 0, .int 1] := rfl
theorem rg3 : rngR 3 = .ok [.int 0, .int 1, .int 2] := rfl
theorem rg4 : rngR 4 = .ok [.int 0, .int 1, .int 2, .int 3] := rfl
theorem rg5 : rngR 5 = .ok [.int 0, .int 1, .int 2, .int 3, .int 4] := rfl
theorem rg6 : rngR 6 = .ok [.int 0, .int 1, .int 2, .int 3, .int 4, .int 5] := rfl
theorem rg7 : rngR 7 = .ok [.int 0, .int 1, .int 2, .int 3, .int 4, .int 5, .int 6] := rfl
theorem rg8 : rngR 8 = .ok [.int 0, .int 1, .int 2, .int 3, .int 4, .int 5, .int 6, .int 7] := rfl
theorem rg9 : rngR 9 = .ok [.int 0, .int 1, .int 2, .int 3, .int 4, .int 5, .int 6, .int 7, .int 8] := rfl
theorem rg10 : rngR 10 = .ok [.int 0, .int 1, .int 2, .int 3, .int 4, .int 5, .int 6, .int 7, .int 8, .int 9] := rfl
theorem rg11 : rngR 11 = .ok [.int 0, .int 1, .int 2, .int 3, .int 4, .int 5, .int 6, .int 7, .int 8, .int 9, .int 10] := rfl
theorem rg12 : rngR 12 = .ok [.int 0, .int 1, .int 2, .int 3, .int 4, .int 5, .int 6, .int 7, .int 8, .int 9, .int 10, .int 11] := rfl
theorem rg13 : rngR 13 = .ok [.int 0, .int 1, .int 2, .int 3, .int 4, .int 5, .int 6, .int 7, .int 8, .int 9, .int 10, .int 11, .int 12] := rfl
theorem rg14 : rngR 14 = .ok [.int 0, .int 1, .int 2, .int 3, .int 4, .int 5, .int 6, .int 7, .int 8, .int 9, .int 10, .int 11, .int 12, .int 13] := rfl
theorem rg15 : rngR 15 = .ok [.int 0, .int 1, .int 2, .int 3, .int 4, .int 5, .int 6, .int 7, .int 8, .int 9, .int 10, .int 11, .int 12, .int 13, .int 14] := rfl
theorem rg16 : rngR 16 = .ok [.int 0, .int 1, .int 2, .int 3, .int 4, .int 5, .int 6, .int 7, .int 8, .int 9, .int 10, .int 11, .int 12, .int 13, .int 14, .int 15] := rfl
theorem rg20 : rngR 20 = .ok [.int 0, .int 1, .int 2, .int 3, .int 4, .int 5, .int 6, .int 7, .int 8, .int 9, .int 10, .int 11, .int 12, .int 13, .int 14, .int 15, .int 16, .int 17, .int 18, .int 19] := rfl
theorem rg60 : rngR 60 = .ok [.int 0, .int 1, .int 2, .int 3, .int 4, .int 5, .int 6, .int 7, .int 8, .int 9, .int 10, .int 11, .int 12, .int 13, .int 14, .int 15, .int 16, .int 17, .int 18, .int 19, .int 20, .int 21, .int 22, .int 23, .int 24, .int 25, .int 26, .int 27, .int 28, .int 29, .int 30, .int 31, .int 32, .int 33, .int 34, .int 35, .int 36, .int 37, .int 38, .int 39, .int 40, .int 41, .int 42, .int 43, .int 44, .int 45, .int 46, .int 47, .int 48, .int 49, .int 50, .int 51, .int 52, .int 53, .int 54, .int 55, .int 56, .int 57, .int 58, .int 59] := rfl
theorem ixT0 (a0 : PD) (r : List PD) : ixV (.tuple (a0 :: r)) (.int 0) = .ok a0 := by
  show (match atI (a0 :: r) 0 with | some d => R.ok d | none => .bad) = _
  unfold atI ixN
  rw [if_pos (by decide), if_pos (by simp only [List.length_cons]; omega)] <;> rfl
theorem ixL0 (a0 : PD) (r : List PD) : ixV (.list (a0 :: r)) (.int 0) = .ok a0 := ixT0 a0 r
theorem ixT1 (a0 a1 : PD) (r : List PD) : ixV (.tuple (a0 :: a1 :: r)) (.int 1) = .ok a1 := by
  show (match atI (a0 :: a1 :: r) 1 with | some d => R.ok d | none => .bad) = _
  unfold atI ixN
  rw [if_pos (by decide), if_pos (by simp only [List.length_cons]; omega)] <;> rfl
theorem ixL1 (a0 a1 : PD) (r : List PD) : ixV (.list (a0 :: a1 :: r)) (.int 1) = .ok a1 := ixT1 a0 a1 r
theorem ixT2 (a0 a1 a2 : PD) (r : List PD) : ixV (.tuple (a0 :: a1 :: a2 :: r)) (.int 2) = .ok a2 := by
  show (match atI (a0 :: a1 :: a2 :: r) 2 with | some d => R.ok d | none => .bad) = _
  unfold atI ixN
  rw [if_pos (by decide), if_pos (by simp only [List.length_cons]; omega)] <;> rfl
theorem ixL2 (a0 a1 a2 : PD) (r : List PD) : ixV (.list (a0 :: a1 :: a2 :: r)) (.int 2) = .ok a2 := ixT2 a0 a1 a2 r
theorem ixT3 (a0 a1 a2 a3 : PD) (r : List PD) : ixV (.tuple (a0 :: a1 :: a2 :: a3 :: r)) (.int 3) = .ok a3 := by
  show (match atI (a0 :: a1 :: a2 :: a3 :: r) 3 with | some d => R.ok d | none => .bad) = _
  unfold atI ixN
  rw [if_pos (by decide), if_pos (by simp only [List.length_cons]; omega)] <;> rfl
theorem ixL3 (a0 a1 a2 a3 : PD) (r : List PD) : ixV (.list (a0 :: a1 :: a2 :: a3 :: r)) (.int 3) = .ok a3 := ixT3 a0 a1 a2 a3 r
theorem ixT4 (a0 a1 a2 a3 a4 : PD) (r : List PD) : ixV (.tuple (a0 :: a1 :: a2 :: a3 :: a4 :: r)) (.int 4) = .ok a4 := by
  show (match atI (a0 :: a1 :: a2 :: a3 :: a4 :: r) 4 with | some d => R.ok d | none => .bad) = _
  unfold atI ixN
  rw [if_pos (by decide), if_pos (by simp only [List.length_cons]; omega)] <;> rfl
theorem ixL4 (a0 a1 a2 a3 a4 : PD) (r : List PD) : ixV (.list (a0 :: a1 :: a2 :: a3 :: a4 :: r)) (.int 4) = .ok a4 := ixT4 a0 a1 a2 a3 a4 r
theorem ixT5 (a0 a1 a2 a3 a4 a5 : PD) (r : List PD) : ixV (.tuple (a0 :: a1 :: a2 :: a3 :: a4 :: a5 :: r)) (.int 5) = .ok a5 := by
  show (match atI (a0 :: a1 :: a2 :: a3 :: a4 :: a5 :: r) 5 with | some d => R.ok d | none => .bad) = _
  unfold atI ixN
  rw [if_pos (by decide), if_pos (by simp only [List.length_cons]; omega)] <;> rfl
theorem ixL5 (a0 a1 a2 a3 a4 a5 : PD) (r : List PD) : ixV (.list (a0 :: a1 :: a2 :: a3 :: a4 :: a5 :: r)) (.int 5) = .ok a5 := ixT5 a0 a1 a2 a3 a4 a5 r
theorem ixT6 (a0 a1 a2 a3 a4 a5 a6 : PD) (r : List PD) : ixV (.tuple (a0 :: a1 :: a2 :: a3 :: a4 :: a5 :: a6 :: r)) (.int 6) = .ok a6 := by
  show (match atI (a0 :: a1 :: a2 :: a3 :: a4 :: a5 :: a6 :: r) 6 with | some d => R.ok d | none => .bad) = _
  unfold atI ixN
  rw [if_pos (by decide), if_pos (by simp only [List.length_cons]; omega)] <;> rfl
theorem ixL6 (a0 a1 a2 a3 a4 a5 a6 : PD) (r : List PD) : ixV (.list (a0 :: a1 :: a2 :: a3 :: a4 :: a5 :: a6 :: r)) (.int 6) = .ok a6 := ixT6 a0 a1 a2 a3 a4 a5 a6 r
theorem ixT7 (a0 a1 a2 a3 a4 a5 a6 a7 : PD) (r : List PD) : ixV (.tuple (a0 :: a1 :: a2 :: a3 :: a4 :: a5 :: a6 :: a7 :: r)) (.int 7) = .ok a7 := by
  show (match atI (a0 :: a1 :: a2 :: a3 :: a4 :: a5 :: a6 :: a7 :: r) 7 with | some d => R.ok d | none => .bad) = _
  unfold atI ixN
  rw [if_pos (by decide), if_pos (by simp only [List.length_cons]; omega)] <;> rfl
theorem ixL7 (a0 a1 a2 a3 a4 a5 a6 a7 : PD) (r : List PD) : ixV (.list (a0 :: a1 :: a2 :: a3 :: a4 :: a5 :: a6 :: a7 :: r)) (.int 7) = .ok a7 := ixT7 a0 a1 a2 a3 a4 a5 a6 a7 r
theorem ixT8 (a0 a1 a2 a3 a4 a5 a6 a7 a8 : PD) (r : List PD) : ixV (.tuple (a0 :: a1 :: a2 :: a3 :: a4 :: a5 :: a6 :: a7 :: a8 :: r)) (.int 8) = .ok a8 := by
  show (match atI (a0 :: a1 :: a2 :: a3 :: a4 :: a5 :: a6 :: a7 :: a8 :: r) 8 with | some d => R.ok d | none => .bad) = _
  unfold atI ixN
  rw [if_pos (by decide), if_pos (by simp only [List.length_cons]; omega)] <;> rfl
theorem ixL8 (a0 a1 a2 a3 a4 a5 a6 a7 a8 : PD) (r : List PD) : ixV (.list (a0 :: a1 :: a2 :: a3 :: a4 :: a5 :: a6 :: a7 :: a8 :: r)) (.int 8) = .ok a8 := ixT8 a0 a1 a2 a3 a4 a5 a6 a7 a8 r
theorem ixT9 (a0 a1 a2 a3 a4 a5 a6 a7 a8 a9 : PD) (r : List PD) : ixV (.tuple (a0 :: a1 :: a2 :: a3 :: a4 :: a5 :: a6 :: a7 :: a8 :: a9 :: r)) (.int 9) = .ok a9 := by
  show (match atI (a0 :: a1 :: a2 :: a3 :: a4 :: a5 :: a6 :: a7 :: a8 :: a9 :: r) 9 with | some d => R.ok d | none => .bad) = _
  unfold atI ixN
  rw [if_pos (by decide), if_pos (by simp only [List.length_cons]; omega)] <;> rfl
theorem ixL9 (a0 a1 a2 a3 a4 a5 a6 a7 a8 a9 : PD) (r : List PD) : ixV (.list (a0 :: a1 :: a2 :: a3 :: a4 :: a5 :: a6 :: a7 :: a8 :: a9 :: r)) (.int 9) = .ok a9 := ixT9 a0 a1 a2 a3 a4 a5 a6 a7 a8 a9 r
theorem ixT10 (a0 a1 a2 a3 a4 a5 a6 a7 a8 a9 a10 : PD) (r : List PD) : ixV (.tuple (a0 :: a1 :: a2 :: a3 :: a4 :: a5 :: a6 :: a7 :: a8 :: a9 :: a10 :: r)) (.int 10) = .ok a10 := by
  show (match atI (a0 :: a1 :: a2 :: a3 :: a4 :: a5 :: a6 :: a7 :: a8 :: a9 :: a10 :: r) 10 with | some d => R.ok d | none => .bad) = _
  unfold atI ixN
  rw [if_pos (by decide), if_pos (by simp only [List.length_cons]; omega)] <;> rfl
theorem ixL10 (a0 a1 a2 a3 a4 a5 a6 a7 a8 a9 a10 : PD) (r : List PD) : ixV (.list (a0 :: a1 :: a2 :: a3 :: a4 :: a5 :: a6 :: a7 :: a8 :: a9 :: a10 :: r)) (.int 10) = .ok a10 := ixT10 a0 a1 a2 a3 a4 a5 a6 a7 a8 a9 a10 r
theorem ixT11 (a0 a1 a2 a3 a4 a5 a6 a7 a8 a9 a10 a11 : PD) (r : List PD) : ixV (.tuple (a0 :: a1 :: a2 :: a3 :: a4 :: a5 :: a6 :: a7 :: a8 :: a9 :: a10 :: a11 :: r)) (.int 11) = .ok a11 := by
  show (match atI (a0 :: a1 :: a2 :: a3 :: a4 :: a5 :: a6 :: a7 :: a8 :: a9 :: a10 :: a11 :: r) 11 with | some d => R.ok d | none => .bad) = _
  unfold atI ixN
  rw [if_pos (by decide), if_pos (by simp only [List.length_cons]; omega)] <;> rfl
theorem ixL11 (a0 a1 a2 a3 a4 a5 a6 a7 a8 a9 a10 a11 : PD) (r : List PD) : ixV (.list (a0 :: a1 :: a2 :: a3 :: a4 :: a5 :: a6 :: a7 :: a8 :: a9 :: a10 :: a11 :: r)) (.int 11) = .ok a11 := ixT11 a0 a1 a2 a3 a4 a5 a6 a7 a8 a9 a10 a11 r
theorem ixT12 (a0 a1 a2 a3 a4 a5 a6 a7 a8 a9 a10 a11 a12 : PD) (r : List PD) : ixV (.tuple (a0 :: a1 :: a2 :: a3 :: a4 :: a5 :: a6 :: a7 :: a8 :: a9 :: a10 :: a11 :: a12 :: r)) (.int 12) = .ok a12 := by
  show (match atI (a0 :: a1 :: a2 :: a3 :: a4 :: a5 :: a6 :: a7 :: a8 :: a9 :: a10 :: a11 :: a12 :: r) 12 with | some d => R.ok d | none => .bad) = _
  unfold atI ixN
  rw [if_pos (by decide), if_pos (by simp only [List.length_cons]; omega)] <;> rfl
theorem ixL12 (a0 a1 a2 a3 a4 a5 a6 a7 a8 a9 a10 a11 a12 : PD) (r : List PD) : ixV (.list (a0 :: a1 :: a2 :: a3 :: a4 :: a5 :: a6 :: a7 :: a8 :: a9 :: a10 :: a11 :: a12 :: r)) (.int 12) = .ok a12 := ixT12 a0 a1 a2 a3 a4 a5 a6 a7 a8 a9 a10 a11 a12 r
def sumR : Option (List Int) → R PD
  | some ns => .ok (.int ns.sum)
  | none => .bad
theorem bsum (ds : List PD) : biV .sum [.list ds] = sumR (ints? ds) := by
  rw [biV]
  cases ints? ds <;> rfl
theorem sumR1 (ns : List Int) : sumR (some ns) = .ok (.int ns.sum) := rfl
theorem intsC (i : Int) (r : List PD) : ints? (.int i :: r) = (ints? r).map (i :: ·) := rfl
theorem intsN : ints? [] = some [] := rfl
theorem btup (ds : List PD) : biV .tuple [.list ds] = .ok (.tuple ds) := rfl
theorem btupT (ds : List PD) : biV .tuple [.tuple ds] = .ok (.tuple ds) := rfl
theorem blst (ds : List PD) : biV .list [.list ds] = .ok (.list ds) := rfl
theorem blstT (ds : List PD) : biV .list [.tuple ds] = .ok (.list ds) := rfl
theorem blenT (l : List PD) : biV .len [.tuple l] = .ok (.int l.length) := rfl
theorem itmL (ds : List PD) : itemsOf (.list ds) = .ok ds := rfl
theorem itmT (ds : List PD) : itemsOf (.tuple ds) = .ok ds := rfl
theorem isN0 : isNoneD .none = true := rfl
theorem isNT (l : List PD) : isNoneD (.tuple l) = false := rfl
theorem isNL (l : List PD) : isNoneD (.list l) = false := rfl
theorem isNI (i : Int) : isNoneD (.int i) = false := rfl
theorem isNB (i : Bool) : isNoneD (.bool i) = false := rfl
theorem isNQ (q : Rat) : isNoneD (QD q) = false := rfl
theorem tgQ (ts : List Tg) (q : Rat) (ρ : Fe.Env) : tgSet (.tp ts) (QD q) ρ = tgSets ts [.int q.num, .int q.den] ρ := by rw [QD, tgSet]
theorem tgNm (i : Nat) (d : PD) (ρ : Fe.Env) : tgSet (.nm i) d ρ = some (ρ.set i (some d)) := by rw [tgSet]
theorem tgTu (ts : List Tg) (ds : List PD) (ρ : Fe.Env) : tgSet (.tp ts) (.tuple ds) ρ = tgSets ts ds ρ := by rw [tgSet]
theorem tgLi (ts : List Tg) (ds : List PD) (ρ : Fe.Env) : tgSet (.tp ts) (.list ds) ρ = tgSets ts ds ρ := by rw [tgSet]
theorem tgsN (ρ : Fe.Env) : tgSets [] [] ρ = some ρ := by rw [tgSets]
def tgK (ts : List Tg) (ds : List PD) : Option Fe.Env → Option Fe.Env
  | some ρ => tgSets ts ds ρ
  | none => none
theorem tgsC (t : Tg) (ts : List Tg) (d : PD) (ds : List PD) (ρ : Fe.Env) : tgSets (t :: ts) (d :: ds) ρ = tgK ts ds (tgSet t d ρ) := by
  rw [tgSets]
  cases tgSet t d ρ <;> rfl
theorem tgC1 (ts : List Tg) (ds : List PD) (ρ : Fe.Env) : tgK ts ds (some ρ) = tgSets ts ds ρ := rfl
theorem finR {S : Sig} {b : Ss} {s : Sta} {d : PD} (h : evSs S b s = .rt d) : fin (evSs S b s) = .ok d := by rw [h, frt]
theorem finN {S : Sig} {b : Ss} {s s' : Sta} (h : evSs S b s = .nx s') : fin (evSs S b s) = .ok .none := by rw [h, fnx]
theorem okL0 : okLen 0 = true := rfl
theorem okLS (n : Nat) (h : n ≤ 16777216) : okLen n = true := decide_eq_true (by unfold sLine; omega)
theorem P1 (i : Int) : PyData.tuple [.int i, .int 1] = QD (i : Rat) := rfl
theorem sN (s : Sta) (f : Sta → SR) : (SR.nx s).seq f = f s := rfl
/-! ### the walk's tactic -/
end Fe
open PySem PySem.Spec PyProof.Rows L2 Fe in
local macro_rules
  | `(tactic| simp! [$ls,*]) => `(tactic| simp (disch := first | assumption | decide | omega | rfl) only [evSs, evS, evE, evEs, evAnds, evOrs, evC, evEo, evEd, setL, tgNm, tgTu, tgLi, tgsN, tgsC, tgC1, tgQ, wipeE, compGo, forGo, List.set_cons_succ, List.set_cons_zero, List.getElem?_cons_succ, List.getElem?_cons_zero, bok, sok, bexc, sexc, bO, iO, itmL, itmT, vadd, vsub, bmul, bmod, bfdiv, clt, cle, cgt, cge, ceqi, cnei, ceqQ, cneQ, ceqT, cneT, babs, bint, boolI, bsum, sumR1, intsC, intsN, Option.map_some, itE, itR, itR2, itZ, itN, zpL, zpT, zpC, zpN, zpM, enL, enT, enumV, btup, btupT, blst, blstT, blen, blenT, okLS, isN0, isNT, isNL, isNI, isNB, isNQ, dl0, frt, fnx, fexc, rg0, rg1, rg2, rg3, rg4, rg5, rg6, rg7, rg8, rg9, rg10, rg11, rg12, rg13, rg14, rg15, rg16, rg20, ixT0, ixL0, ixT1, ixL1, ixT2, ixL2, ixT3, ixL3, ixT4, ixL4, ixT5, ixL5, ixT6, ixL6, ixT7, ixL7, ixT8, ixL8, ixT9, ixL9, ixT10, ixL10, ixT11, ixL11, ixT12, ixL12, q0, q1, if_true, if_false, Bool.false_eq_true, Bool.not_true, Bool.not_false, Bool.true_and, Bool.false_and, Bool.and_true, Bool.and_false, decide_true, decide_false, List.length_cons, List.length_nil, List.sum_cons, List.sum_nil, List.map_cons, List.map_nil, List.cons_append, List.nil_append, esc, escs, pk, pks, esco, escIt, escItM, escM, escd, escp, List.append_nil, beq_self_eq_true, Int.reduceAdd, Int.reduceMul, Int.reduceSub, Int.reduceNeg, Int.reduceFMod, Int.reduceFDiv, Int.reduceLT, Int.reduceLE, Int.reduceGT, Int.reduceGE, Int.reduceEq, Int.reduceNe, Int.reduceToNat, Nat.reduceLT, Nat.reduceEqDiff, Nat.reduceAdd, eq_self, decide_eq_true_eq, ne_eq, not_true, not_false_iff, $ls,*])
set_option Elab.async false
set_option linter.all false
set_option maxRecDepth 100000
set_option maxHeartbeats 4000000
namespace k01
open PySem PySem.Spec PyProof.Rows L2 Fe
/- law k01: the text in Fe's language, printed by gen.py -/
abbrev prog : Program := PySem.Challenge.pw_samplesonce_k01_main_moves_put_together
abbrev i_common : Nat := 0
abbrev i_plain : Nat := 1
abbrev i_add : Nat := 2
abbrev i_times : Nat := 3
abbrev i_summed : Nat := 4
abbrev i_divisor_of : Nat := 5
abbrev i_is_move : Nat := 6
abbrev i_check_move : Nat := 7
abbrev i_least : Nat := 8
abbrev i_move_of : Nat := 9
abbrev i_still : Nat := 10
abbrev i_shift : Nat := 11
abbrev i_scale : Nat := 12
abbrev i_quarter : Nat := 13
abbrev i_entry : Nat := 14
abbrev i_joined : Nat := 15
abbrev i_minor : Nat := 16
abbrev i_whole_determinant : Nat := 17
abbrev i_determinant : Nat := 18
abbrev i_back : Nat := 19
abbrev i_moved : Nat := 20
abbrev i__law_draws : Nat := 21
abbrev i__law_mix : Nat := 22
abbrev i__law_common : Nat := 23
abbrev i__law_low : Nat := 24
abbrev i__law_move : Nat := 25
abbrev i__law_joined : Nat := 26
abbrev i__law_goes : Nat := 27
abbrev i__law_minor : Nat := 28
abbrev i__law_determinant : Nat := 29
abbrev i__law_back : Nat := 30
abbrev i__law_drawn : Nat := 31
abbrev i__law_refused : Nat := 32
abbrev i_law : Nat := 33
def topSt (i : Nat) : Stmt := prog.main.body.getD i (.Pass ⟨0, 0, 0, 0⟩)
def l_common_1 : Ss := .cons (.par [2, 3] (.cons (.var 3) (.cons (.bin .mod (.var 2) (.var 3)) (.nil)))) (.nil)
def b_common : Ss := .cons (.par [2, 3] (.cons (.bi .abs (.cons (.var 0) (.nil))) (.cons (.bi .abs (.cons (.var 1) (.nil))) (.nil)))) (.cons (.whl 1000000 (.cmp .gt (.var 3) (.int 0)) (l_common_1)) (.cons (.ret (.var 2)) (.nil)))
def d_common : Df := ⟨"common", 2, ["one", "two", "a", "b"], [], b_common⟩
def b_plain : Ss := .cons (.set 2 (.call i_common (.cons (.var 0) (.cons (.var 1) (.nil))))) (.cons (.ifs (.cmp .lt (.var 1) (.int 0)) (.cons (.set 2 (.neg (.var 2))) (.nil)) (.nil)) (.cons (.ret (.tup (.cons (.bin .fdiv (.var 0) (.var 2)) (.cons (.bin .fdiv (.var 1) (.var 2)) (.nil))))) (.nil)))
def d_plain : Df := ⟨"plain", 2, ["n", "d", "k"], [], b_plain⟩
def b_add : Ss := .cons (.ret (.call i_plain (.cons (.bin .add (.bin .mul (.ix (.var 0) (.int 0)) (.ix (.var 1) (.int 1))) (.bin .mul (.ix (.var 1) (.int 0)) (.ix (.var 0) (.int 1)))) (.cons (.bin .mul (.ix (.var 0) (.int 1)) (.ix (.var 1) (.int 1))) (.nil))))) (.nil)
def d_add : Df := ⟨"add", 2, ["one", "two"], [], b_add⟩
def b_times : Ss := .cons (.ret (.call i_plain (.cons (.bin .mul (.ix (.var 0) (.int 0)) (.ix (.var 1) (.int 0))) (.cons (.bin .mul (.ix (.var 0) (.int 1)) (.ix (.var 1) (.int 1))) (.nil))))) (.nil)
def d_times : Df := ⟨"times", 2, ["one", "two"], [], b_times⟩
def l_summed_1 : Ss := .cons (.set 1 (.call i_add (.cons (.var 1) (.cons (.var 2) (.nil))))) (.nil)
def b_summed : Ss := .cons (.set 1 (.glob "ZERO")) (.cons (.for_ (.nm 2) (.e (.var 0)) (l_summed_1)) (.cons (.ret (.var 1)) (.nil)))
def d_summed : Df := ⟨"summed", 1, ["rows", "found", "one"], [], b_summed⟩
def l_divisor_of_1 : Ss := .cons (.set 1 (.call i_common (.cons (.var 1) (.cons (.var 2) (.nil))))) (.nil)
def b_divisor_of : Ss := .cons (.set 1 (.ix (.var 0) (.int 1))) (.cons (.for_ (.nm 2) (.e (.ix (.var 0) (.int 0))) (l_divisor_of_1)) (.cons (.ret (.var 1)) (.nil)))
def d_divisor_of : Df := ⟨"divisor_of", 1, ["told", "found", "number"], [], b_divisor_of⟩
def b_is_move : Ss := .cons (.ret (.ands (.cons (.cmp .eq (.bi .len (.cons (.ix (.var 0) (.int 0)) (.nil))) (.glob "SIZE")) (.cons (.cmp .gt (.ix (.var 0) (.int 1)) (.int 0)) (.cons (.cmp .eq (.call i_divisor_of (.cons (.var 0) (.nil))) (.int 1)) (.nil)))))) (.nil)
def d_is_move : Df := ⟨"is_move", 1, ["told"], [], b_is_move⟩
def b_check_move : Ss := .cons (.ifs (.nt (.call i_is_move (.cons (.var 0) (.nil)))) (.cons (.rai "BadMove" (.var 1)) (.nil)) (.nil)) (.nil)
def d_check_move : Df := ⟨"check_move", 2, ["move", "k"], [], b_check_move⟩
def b_least : Ss := .cons (.set 2 (.call i_divisor_of (.cons (.tup (.cons (.var 0) (.cons (.bi .abs (.cons (.var 1) (.nil))) (.nil)))) (.nil)))) (.cons (.ifs (.cmp .lt (.var 1) (.int 0)) (.cons (.set 2 (.neg (.var 2))) (.nil)) (.nil)) (.cons (.ret (.tup (.cons (.bi .tuple (.cons (.comp (.bin .fdiv (.var 3) (.var 2)) (.nm 3) (.e (.var 0)) (.none) [3]) (.nil))) (.cons (.bin .fdiv (.var 1) (.var 2)) (.nil))))) (.nil)))
def d_least : Df := ⟨"least", 2, ["rows", "divisor", "k", "number"], [], b_least⟩
def b_move_of : Ss := .cons (.ifs (.ors (.cons (.cmp .ne (.bi .len (.cons (.var 0) (.nil))) (.glob "SIZE")) (.cons (.cmp .eq (.var 1) (.int 0)) (.nil)))) (.cons (.rai "BadMove" (.int 0)) (.nil)) (.nil)) (.cons (.ret (.call i_least (.cons (.var 0) (.cons (.var 1) (.nil))))) (.nil))
def d_move_of : Df := ⟨"move_of", 2, ["rows", "divisor"], [], b_move_of⟩
def b_still : Ss := .cons (.ret (.glob "STILL")) (.nil)
def d_still : Df := ⟨"still", 0, [], [], b_still⟩
def b_shift : Ss := .cons (.ret (.tup (.cons (.tup (.cons (.int 1) (.cons (.int 0) (.cons (.int 0) (.cons (.var 0) (.cons (.int 0) (.cons (.int 1) (.cons (.int 0) (.cons (.var 1) (.cons (.int 0) (.cons (.int 0) (.cons (.int 1) (.cons (.var 2) (.nil)))))))))))))) (.cons (.int 1) (.nil))))) (.nil)
def d_shift : Df := ⟨"shift", 3, ["x", "y", "z"], [], b_shift⟩
def b_scale : Ss := .cons (.ifs (.cmp .lt (.var 1) (.int 1)) (.cons (.rai "BadMove" (.int 0)) (.nil)) (.nil)) (.cons (.ret (.call i_least (.cons (.tup (.cons (.var 0) (.cons (.int 0) (.cons (.int 0) (.cons (.int 0) (.cons (.int 0) (.cons (.var 0) (.cons (.int 0) (.cons (.int 0) (.cons (.int 0) (.cons (.int 0) (.cons (.var 0) (.cons (.int 0) (.nil)))))))))))))) (.cons (.var 1) (.nil))))) (.nil))
def d_scale : Df := ⟨"scale", 2, ["n", "d"], [], b_scale⟩
def b_quarter : Ss := .cons (.ifs (.nt (.chn .le .le (.int 0) (.var 0) (.int 2))) (.cons (.rai "BadAxis" (.var 0)) (.nil)) (.nil)) (.cons (.par [1, 2] (.cons (.bin .mod (.bin .add (.var 0) (.int 1)) (.int 3)) (.cons (.bin .mod (.bin .add (.var 0) (.int 2)) (.int 3)) (.nil)))) (.cons (.setF 3 (.bin .mul (.lst (.cons (.int 0) (.nil))) (.glob "SIZE"))) (.cons (.setIx 3 (.bin .mul (.int 5) (.var 0)) (.int 1)) (.cons (.setIx 3 (.bin .add (.bin .mul (.int 4) (.var 2)) (.var 1)) (.int 1)) (.cons (.setIx 3 (.bin .add (.bin .mul (.int 4) (.var 1)) (.var 2)) (.neg (.int 1))) (.cons (.ret (.tup (.cons (.bi .tuple (.cons (.var 3) (.nil))) (.cons (.int 1) (.nil))))) (.nil)))))))
def d_quarter : Df := ⟨"quarter", 1, ["axis", "one", "two", "rows"], [3], b_quarter⟩
def b_entry : Ss := .cons (.ifs (.cmp .lt (.var 1) (.int 3)) (.cons (.ret (.ix (.ix (.var 0) (.int 0)) (.bin .add (.bin .mul (.int 4) (.var 1)) (.var 2)))) (.nil)) (.nil)) (.cons (.ret (.ite (.cmp .eq (.var 2) (.int 3)) (.ix (.var 0) (.int 1)) (.int 0))) (.nil))
def d_entry : Df := ⟨"entry", 3, ["move", "row", "column"], [], b_entry⟩
def l_joined_1 : Ss := .cons (.app 2 (.bi .sum (.cons (.comp (.bin .mul (.call i_entry (.cons (.var 1) (.cons (.var 3) (.cons (.var 5) (.nil))))) (.call i_entry (.cons (.var 0) (.cons (.var 5) (.cons (.var 4) (.nil)))))) (.nm 5) (.r1 (.int 4)) (.none) [5]) (.nil)))) (.nil)
def l_joined_2 : Ss := .cons (.for_ (.nm 4) (.r1 (.int 4)) (l_joined_1)) (.nil)
def b_joined : Ss := .cons (.ex (.call i_check_move (.cons (.var 0) (.cons (.int 0) (.nil))))) (.cons (.ex (.call i_check_move (.cons (.var 1) (.cons (.int 1) (.nil))))) (.cons (.setF 2 (.lst (.nil))) (.cons (.for_ (.nm 3) (.r1 (.int 3)) (l_joined_2)) (.cons (.ret (.call i_least (.cons (.var 2) (.cons (.bin .mul (.ix (.var 0) (.int 1)) (.ix (.var 1) (.int 1))) (.nil))))) (.nil)))))
def d_joined : Df := ⟨"joined", 2, ["one", "two", "rows", "row", "column", "k"], [2], b_joined⟩
def b_minor : Ss := .cons (.par [3, 4] (.cons (.bin .mod (.bin .add (.var 1) (.int 1)) (.int 3)) (.cons (.bin .mod (.bin .add (.var 1) (.int 2)) (.int 3)) (.nil)))) (.cons (.par [5, 6] (.cons (.bin .mod (.bin .add (.var 2) (.int 1)) (.int 3)) (.cons (.bin .mod (.bin .add (.var 2) (.int 2)) (.int 3)) (.nil)))) (.cons (.ret (.bin .sub (.bin .mul (.call i_entry (.cons (.var 0) (.cons (.var 3) (.cons (.var 5) (.nil))))) (.call i_entry (.cons (.var 0) (.cons (.var 4) (.cons (.var 6) (.nil)))))) (.bin .mul (.call i_entry (.cons (.var 0) (.cons (.var 3) (.cons (.var 6) (.nil))))) (.call i_entry (.cons (.var 0) (.cons (.var 4) (.cons (.var 5) (.nil)))))))) (.nil)))
def d_minor : Df := ⟨"minor", 3, ["move", "row", "column", "a", "b", "c", "d"], [], b_minor⟩
def b_whole_determinant : Ss := .cons (.ret (.bi .sum (.cons (.comp (.bin .mul (.call i_entry (.cons (.var 0) (.cons (.int 0) (.cons (.var 1) (.nil))))) (.call i_minor (.cons (.var 0) (.cons (.int 0) (.cons (.var 1) (.nil)))))) (.nm 1) (.r1 (.int 3)) (.none) [1]) (.nil)))) (.nil)
def d_whole_determinant : Df := ⟨"whole_determinant", 1, ["move", "column"], [], b_whole_determinant⟩
def b_determinant : Ss := .cons (.ex (.call i_check_move (.cons (.var 0) (.cons (.int 0) (.nil))))) (.cons (.ret (.call i_plain (.cons (.call i_whole_determinant (.cons (.var 0) (.nil))) (.cons (.bin .mul (.bin .mul (.ix (.var 0) (.int 1)) (.ix (.var 0) (.int 1))) (.ix (.var 0) (.int 1))) (.nil))))) (.nil))
def d_determinant : Df := ⟨"determinant", 1, ["move"], [], b_determinant⟩
def l_back_1 : Ss := .cons (.set 4 (.comp (.call i_minor (.cons (.var 0) (.cons (.var 5) (.cons (.var 3) (.nil))))) (.nm 5) (.r1 (.int 3)) (.none) [5])) (.cons (.set 6 (.bi .sum (.cons (.comp (.bin .mul (.ix (.var 4) (.var 5)) (.call i_entry (.cons (.var 0) (.cons (.var 5) (.cons (.int 3) (.nil)))))) (.nm 5) (.r1 (.int 3)) (.none) [5]) (.nil)))) (.cons (.ext 2 (.comp (.bin .mul (.ix (.var 0) (.int 1)) (.var 7)) (.nm 7) (.e (.var 4)) (.none) [7])) (.cons (.app 2 (.neg (.var 6))) (.nil))))
def b_back : Ss := .cons (.ex (.call i_check_move (.cons (.var 0) (.cons (.int 0) (.nil))))) (.cons (.set 1 (.call i_whole_determinant (.cons (.var 0) (.nil)))) (.cons (.ifs (.cmp .eq (.var 1) (.int 0)) (.cons (.rai "NoWay" (.int 0)) (.nil)) (.nil)) (.cons (.setF 2 (.lst (.nil))) (.cons (.for_ (.nm 3) (.r1 (.int 3)) (l_back_1)) (.cons (.ret (.call i_least (.cons (.var 2) (.cons (.var 1) (.nil))))) (.nil))))))
def d_back : Df := ⟨"back", 1, ["move", "whole", "rows", "row", "turned", "column", "moved_by", "number"], [2], b_back⟩
def l_moved_1 : Ss := .cons (.set 4 (.comp (.call i_times (.cons (.tup (.cons (.call i_entry (.cons (.var 0) (.cons (.var 3) (.cons (.var 5) (.nil))))) (.cons (.int 1) (.nil)))) (.cons (.ix (.var 1) (.var 5)) (.nil)))) (.nm 5) (.r1 (.int 3)) (.none) [5])) (.cons (.unp (.tp [.nm 6, .nm 7]) (.call i_summed (.cons (.disp true (.star (.var 4) (.one (.tup (.cons (.call i_entry (.cons (.var 0) (.cons (.var 3) (.cons (.int 3) (.nil))))) (.cons (.int 1) (.nil)))) (.nil)))) (.nil)))) (.cons (.app 2 (.call i_plain (.cons (.var 6) (.cons (.bin .mul (.var 7) (.ix (.var 0) (.int 1))) (.nil))))) (.nil)))
def b_moved : Ss := .cons (.ex (.call i_check_move (.cons (.var 0) (.cons (.int 0) (.nil))))) (.cons (.setF 2 (.lst (.nil))) (.cons (.for_ (.nm 3) (.r1 (.int 3)) (l_moved_1)) (.cons (.ret (.bi .tuple (.cons (.var 2) (.nil)))) (.nil))))
def d_moved : Df := ⟨"moved", 2, ["move", "point", "found", "row", "parts", "column", "n", "d"], [2], b_moved⟩
def l__law_draws_1 : Ss := .cons (.ifs (.cmp .gt (.var 3) (.int 0)) (.cons (.app 1 (.bin .mod (.bi .int (.cons (.var 3) (.nil))) (.int 65536))) (.cons (.set 3 (.bin .fdiv (.var 3) (.int 65536))) (.nil))) (.nil)) (.nil)
def l__law_draws_2 : Ss := .cons (.set 3 (.bi .abs (.cons (.ix (.var 0) (.var 2)) (.nil)))) (.cons (.ifs (.cmp .ge (.var 3) (.bin .pow (.int 10) (.int 18))) (.cons (.for_ (.nm 4) (.r1 (.int 60)) (l__law_draws_1)) (.nil)) (.cons (.set 5 (.bin .mod (.bi .int (.cons (.bin .add (.bin .mul (.var 3) (.int 48271)) (.bin .mul (.bin .add (.var 2) (.int 1)) (.int 69621))) (.nil))) (.int 2147483647))) (.cons (.set 5 (.bin .mod (.bi .int (.cons (.bin .add (.bin .add (.bin .mul (.var 5) (.int 16807)) (.bin .mul (.int 11) (.var 2))) (.int 5)) (.nil))) (.int 2147483629))) (.cons (.app 1 (.bin .mod (.bi .int (.cons (.var 5) (.nil))) (.int 65536))) (.cons (.app 1 (.bin .mod (.bi .int (.cons (.bin .fdiv (.var 5) (.int 65536)) (.nil))) (.int 32768))) (.nil)))))) (.nil))
def b__law_draws : Ss := .cons (.setF 1 (.lst (.nil))) (.cons (.for_ (.nm 2) (.r1 (.bi .min2 (.cons (.int 63) (.cons (.bi .len (.cons (.var 0) (.nil))) (.nil))))) (l__law_draws_2)) (.cons (.ret (.var 1)) (.nil)))
def d__law_draws : Df := ⟨"_law_draws", 1, ["script", "draws", "k", "rest", "turn", "stirred"], [1], b__law_draws⟩
def b__law_mix : Ss := .cons (.set 3 (.int 0)) (.cons (.ifs (.cmp .gt (.bi .len (.cons (.var 0) (.nil))) (.int 0)) (.cons (.set 3 (.ix (.var 0) (.bin .mod (.bi .int (.cons (.var 1) (.nil))) (.bi .len (.cons (.var 0) (.nil)))))) (.nil)) (.nil)) (.cons (.ifs (.cmp .lt (.var 1) (.bi .len (.cons (.var 0) (.nil)))) (.cons (.ret (.bin .mod (.bi .int (.cons (.var 3) (.nil))) (.var 2))) (.nil)) (.nil)) (.cons (.ret (.bin .mod (.bi .int (.cons (.bin .fdiv (.bi .int (.cons (.bin .add (.bin .mul (.var 3) (.int 7919)) (.bin .mul (.var 1) (.int 104729))) (.nil))) (.int 3)) (.nil))) (.var 2))) (.nil))))
def d__law_mix : Df := ⟨"_law_mix", 3, ["draws", "k", "many", "cell"], [], b__law_mix⟩
def l__law_common_1 : Ss := .cons (.ifs (.cmp .gt (.var 3) (.int 0)) (.cons (.par [2, 3] (.cons (.var 3) (.cons (.bin .mod (.bi .int (.cons (.var 2) (.nil))) (.var 3)) (.nil)))) (.nil)) (.nil)) (.nil)
def b__law_common : Ss := .cons (.par [2, 3] (.cons (.bi .abs (.cons (.var 0) (.nil))) (.cons (.bi .abs (.cons (.var 1) (.nil))) (.nil)))) (.cons (.for_ (.nm 4) (.r1 (.int 400)) (l__law_common_1)) (.cons (.ret (.bi .max2 (.cons (.int 1) (.cons (.var 2) (.nil))))) (.nil)))
def d__law_common : Df := ⟨"_law_common", 2, ["a", "b", "one", "two", "turn"], [], b__law_common⟩
def b__law_low : Ss := .cons (.set 2 (.bin .mul (.call i__law_common (.cons (.var 0) (.cons (.var 1) (.nil)))) (.ix (.lst (.cons (.int 1) (.cons (.neg (.int 1)) (.nil)))) (.bi .int (.cons (.cmp .lt (.var 1) (.int 0)) (.nil)))))) (.cons (.ret (.tup (.cons (.bin .fdiv (.var 0) (.var 2)) (.cons (.bin .fdiv (.var 1) (.var 2)) (.nil))))) (.nil))
def d__law_low : Df := ⟨"_law_low", 2, ["n", "d", "common_v"], [], b__law_low⟩
def l__law_move_1 : Ss := .cons (.set 2 (.call i__law_common (.cons (.var 2) (.cons (.var 3) (.nil))))) (.nil)
def b__law_move : Ss := .cons (.set 2 (.bi .abs (.cons (.var 1) (.nil)))) (.cons (.for_ (.nm 3) (.e (.var 0)) (l__law_move_1)) (.cons (.set 2 (.bin .mul (.var 2) (.ix (.lst (.cons (.int 1) (.cons (.neg (.int 1)) (.nil)))) (.bi .int (.cons (.cmp .lt (.var 1) (.int 0)) (.nil)))))) (.cons (.ret (.tup (.cons (.bi .tuple (.cons (.comp (.bin .fdiv (.var 3) (.var 2)) (.nm 3) (.e (.var 0)) (.none) [3]) (.nil))) (.cons (.bin .fdiv (.var 1) (.var 2)) (.nil))))) (.nil))))
def d__law_move : Df := ⟨"_law_move", 2, ["rows", "divisor", "common_v", "number"], [], b__law_move⟩
def l__law_joined_1 : Ss := .cons (.app 6 (.bin .add (.bi .sum (.cons (.comp (.bin .mul (.ix (.var 4) (.bin .add (.bin .mul (.int 4) (.var 7)) (.var 9))) (.ix (.var 2) (.bin .add (.bin .mul (.int 4) (.var 9)) (.var 8)))) (.nm 9) (.r1 (.int 3)) (.none) [9]) (.nil))) (.bin .mul (.bin .mul (.ix (.var 4) (.bin .add (.bin .mul (.int 4) (.var 7)) (.int 3))) (.var 3)) (.bi .int (.cons (.cmp .eq (.var 8) (.int 3)) (.nil)))))) (.nil)
def l__law_joined_2 : Ss := .cons (.for_ (.nm 8) (.r1 (.int 4)) (l__law_joined_1)) (.nil)
def b__law_joined : Ss := .cons (.unp (.tp [.tp [.nm 2, .nm 3], .tp [.nm 4, .nm 5]]) (.tup (.cons (.var 0) (.cons (.var 1) (.nil))))) (.cons (.setF 6 (.lst (.nil))) (.cons (.for_ (.nm 7) (.r1 (.int 3)) (l__law_joined_2)) (.cons (.ret (.call i__law_move (.cons (.var 6) (.cons (.bin .mul (.var 3) (.var 5)) (.nil))))) (.nil))))
def d__law_joined : Df := ⟨"_law_joined", 2, ["one", "two", "a", "d", "b", "e", "found", "i", "j", "t"], [6], b__law_joined⟩
def l__law_goes_1 : Ss := .cons (.par [6, 7] (.cons (.bin .add (.bin .mul (.var 6) (.ix (.ix (.var 1) (.var 8)) (.int 1))) (.bin .mul (.bin .mul (.ix (.var 2) (.bin .add (.bin .mul (.int 4) (.var 5)) (.var 8))) (.ix (.ix (.var 1) (.var 8)) (.int 0))) (.var 7))) (.cons (.bin .mul (.var 7) (.ix (.ix (.var 1) (.var 8)) (.int 1))) (.nil)))) (.nil)
def l__law_goes_2 : Ss := .cons (.par [6, 7] (.cons (.ix (.var 2) (.bin .add (.bin .mul (.int 4) (.var 5)) (.int 3))) (.cons (.int 1) (.nil)))) (.cons (.for_ (.nm 8) (.r1 (.int 3)) (l__law_goes_1)) (.cons (.app 4 (.call i__law_low (.cons (.var 6) (.cons (.bin .mul (.var 7) (.var 3)) (.nil))))) (.nil)))
def b__law_goes : Ss := .cons (.unp (.tp [.nm 2, .nm 3]) (.var 0)) (.cons (.setF 4 (.lst (.nil))) (.cons (.for_ (.nm 5) (.r1 (.int 3)) (l__law_goes_2)) (.cons (.ret (.bi .tuple (.cons (.var 4) (.nil)))) (.nil))))
def d__law_goes : Df := ⟨"_law_goes", 2, ["move", "point", "rows", "divisor", "found", "i", "top", "low", "j"], [4], b__law_goes⟩
def b__law_minor : Ss := .cons (.set 3 (.comp (.sl (.var 0) (.some (.bin .mul (.int 4) (.var 4))) (.some (.bin .add (.bin .mul (.int 4) (.var 4)) (.int 3)))) (.nm 4) (.r1 (.int 3)) (.some (.cmp .ne (.var 4) (.var 1))) [4])) (.cons (.set 5 (.comp (.comp (.ix (.var 7) (.var 6)) (.nm 6) (.r1 (.int 3)) (.some (.cmp .ne (.var 6) (.var 2))) [6]) (.nm 7) (.e (.var 3)) (.none) [7])) (.cons (.ret (.bin .sub (.bin .mul (.ix (.ix (.var 5) (.int 0)) (.int 0)) (.ix (.ix (.var 5) (.int 1)) (.int 1))) (.bin .mul (.ix (.ix (.var 5) (.int 0)) (.int 1)) (.ix (.ix (.var 5) (.int 1)) (.int 0))))) (.nil)))
def d__law_minor : Df := ⟨"_law_minor", 3, ["rows", "i", "j", "lines", "s", "kept", "t", "line"], [], b__law_minor⟩
def b__law_determinant : Ss := .cons (.ret (.bi .sum (.cons (.comp (.bin .mul (.bin .mul (.ix (.lst (.cons (.int 1) (.cons (.neg (.int 1)) (.cons (.int 1) (.nil))))) (.var 1)) (.ix (.var 0) (.var 1))) (.call i__law_minor (.cons (.var 0) (.cons (.int 0) (.cons (.var 1) (.nil)))))) (.nm 1) (.r1 (.int 3)) (.none) [1]) (.nil)))) (.nil)
def d__law_determinant : Df := ⟨"_law_determinant", 1, ["rows", "j"], [], b__law_determinant⟩
def l__law_back_1 : Ss := .cons (.set 6 (.comp (.bin .mul (.bin .mul (.ix (.lst (.cons (.int 1) (.cons (.neg (.int 1)) (.nil)))) (.bin .mod (.bi .int (.cons (.bin .add (.var 5) (.var 7)) (.nil))) (.int 2))) (.call i__law_minor (.cons (.var 1) (.cons (.var 7) (.cons (.var 5) (.nil)))))) (.var 2)) (.nm 7) (.r1 (.int 3)) (.none) [7])) (.cons (.set 4 (.bin .add (.bin .add (.var 4) (.var 6)) (.lst (.cons (.bin .fdiv (.neg (.bi .sum (.cons (.comp (.bin .mul (.ix (.var 6) (.var 7)) (.ix (.var 1) (.bin .add (.bin .mul (.int 4) (.var 7)) (.int 3)))) (.nm 7) (.r1 (.int 3)) (.none) [7]) (.nil)))) (.var 2)) (.nil))))) (.nil))
def b__law_back : Ss := .cons (.unp (.tp [.nm 1, .nm 2]) (.var 0)) (.cons (.set 3 (.call i__law_determinant (.cons (.var 1) (.nil)))) (.cons (.ifs (.cmp .eq (.var 3) (.int 0)) (.cons (.ret (.non)) (.nil)) (.nil)) (.cons (.set 4 (.lst (.nil))) (.cons (.for_ (.nm 5) (.r1 (.int 3)) (l__law_back_1)) (.cons (.ret (.call i__law_move (.cons (.var 4) (.cons (.var 3) (.nil))))) (.nil))))))
def d__law_back : Df := ⟨"_law_back", 1, ["move", "rows", "divisor", "whole", "found", "i", "line", "j"], [], b__law_back⟩
def b__law_drawn : Ss := .cons (.set 2 (.call i__law_mix (.cons (.var 0) (.cons (.var 1) (.cons (.int 5) (.nil)))))) (.cons (.ifs (.cmp .eq (.var 2) (.int 0)) (.cons (.ret (.call i__law_move (.cons (.lst (.cons (.int 1) (.cons (.int 0) (.cons (.int 0) (.cons (.bin .sub (.call i__law_mix (.cons (.var 0) (.cons (.bin .add (.var 1) (.int 1)) (.cons (.int 41) (.nil))))) (.int 20)) (.cons (.int 0) (.cons (.int 1) (.cons (.int 0) (.cons (.bin .sub (.call i__law_mix (.cons (.var 0) (.cons (.bin .add (.var 1) (.int 2)) (.cons (.int 41) (.nil))))) (.int 20)) (.cons (.int 0) (.cons (.int 0) (.cons (.int 1) (.cons (.bin .sub (.call i__law_mix (.cons (.var 0) (.cons (.bin .add (.var 1) (.int 3)) (.cons (.int 41) (.nil))))) (.int 20)) (.nil)))))))))))))) (.cons (.int 1) (.nil))))) (.nil)) (.nil)) (.cons (.ifs (.cmp .eq (.var 2) (.int 1)) (.cons (.set 3 (.bin .sub (.call i__law_mix (.cons (.var 0) (.cons (.bin .add (.var 1) (.int 1)) (.cons (.int 13) (.nil))))) (.int 6))) (.cons (.ret (.call i__law_move (.cons (.lst (.cons (.var 3) (.cons (.int 0) (.cons (.int 0) (.cons (.int 0) (.cons (.int 0) (.cons (.var 3) (.cons (.int 0) (.cons (.int 0) (.cons (.int 0) (.cons (.int 0) (.cons (.var 3) (.cons (.int 0) (.nil)))))))))))))) (.cons (.bin .add (.int 1) (.call i__law_mix (.cons (.var 0) (.cons (.bin .add (.var 1) (.int 2)) (.cons (.int 6) (.nil)))))) (.nil))))) (.nil))) (.nil)) (.cons (.set 4 (.ix (.lst (.cons (.int 1) (.cons (.int 6) (.cons (.neg (.int 4)) (.cons (.bin .add (.int 1) (.call i__law_mix (.cons (.var 0) (.cons (.bin .add (.var 1) (.int 13)) (.cons (.int 30) (.nil)))))) (.nil)))))) (.call i__law_mix (.cons (.var 0) (.cons (.bin .add (.var 1) (.int 14)) (.cons (.int 4) (.nil))))))) (.cons (.ret (.call i__law_move (.cons (.comp (.ix (.lst (.cons (.bin .sub (.call i__law_mix (.cons (.var 0) (.cons (.bin .add (.bin .add (.var 1) (.int 1)) (.var 5)) (.cons (.int 13) (.nil))))) (.int 6)) (.cons (.int 0) (.nil)))) (.bi .int (.cons (.cmp .eq (.call i__law_mix (.cons (.var 0) (.cons (.bin .add (.bin .add (.var 1) (.int 15)) (.var 5)) (.cons (.int 3) (.nil))))) (.int 0)) (.nil)))) (.nm 5) (.r1 (.int 12)) (.none) [5]) (.cons (.var 4) (.nil))))) (.nil)))))
def d__law_drawn : Df := ⟨"_law_drawn", 2, ["draws", "k", "kind", "n", "divisor", "t"], [], b__law_drawn⟩
def b__law_refused : Ss := .cons (.tri (.cons (.ifs (.cmp .eq (.var 0) (.int 0)) (.cons (.ex (.call i_move_of (.cons (.var 1) (.cons (.var 2) (.nil))))) (.nil)) (.cons (.ifs (.cmp .eq (.var 0) (.int 1)) (.cons (.ex (.call i_scale (.cons (.var 1) (.cons (.var 2) (.nil))))) (.nil)) (.cons (.ifs (.cmp .eq (.var 0) (.int 2)) (.cons (.ex (.call i_quarter (.cons (.var 1) (.nil)))) (.nil)) (.cons (.ifs (.cmp .eq (.var 0) (.int 3)) (.cons (.ex (.call i_back (.cons (.var 1) (.nil)))) (.nil)) (.cons (.ifs (.cmp .eq (.var 0) (.int 4)) (.cons (.ex (.call i_joined (.cons (.var 1) (.cons (.var 2) (.nil))))) (.nil)) (.cons (.ex (.call i_determinant (.cons (.var 1) (.nil)))) (.nil))) (.nil))) (.nil))) (.nil))) (.nil))) (.nil)) 3 [("BadMove", .pair "move"), ("BadAxis", .pair "axis"), ("NoWay", .pair "way")]) (.cons (.ret (.non)) (.nil))
def d__law_refused : Df := ⟨"_law_refused", 3, ["which", "told", "more", "e"], [], b__law_refused⟩
def l_law_1 : Ss := .cons (.set 3 (.call i_quarter (.cons (.var 13) (.nil)))) (.cons (.set 14 (.comp (.comp (.tup (.cons (.bi .int (.cons (.cmp .eq (.var 6) (.var 15)) (.nil))) (.cons (.int 1) (.nil)))) (.nm 6) (.r1 (.int 3)) (.none) [6]) (.nm 15) (.r1 (.int 3)) (.none) [15])) (.cons (.ifs (.ors (.cons (.cmp .ne (.call i_moved (.cons (.var 3) (.cons (.bi .tuple (.cons (.ix (.var 14) (.bin .mod (.bi .int (.cons (.bin .add (.var 13) (.int 1)) (.nil))) (.int 3))) (.nil))) (.nil)))) (.bi .tuple (.cons (.ix (.var 14) (.bin .mod (.bi .int (.cons (.bin .add (.var 13) (.int 2)) (.nil))) (.int 3))) (.nil)))) (.cons (.cmp .ne (.call i_moved (.cons (.var 3) (.cons (.bi .tuple (.cons (.ix (.var 14) (.var 13)) (.nil))) (.nil)))) (.bi .tuple (.cons (.ix (.var 14) (.var 13)) (.nil)))) (.nil)))) (.cons (.ret (.bl false)) (.nil)) (.nil)) (.cons (.ifs (.ors (.cons (.cmp .ne (.call i_moved (.cons (.var 3) (.cons (.bi .tuple (.cons (.ix (.var 14) (.bin .mod (.bi .int (.cons (.bin .add (.var 13) (.int 2)) (.nil))) (.int 3))) (.nil))) (.nil)))) (.bi .tuple (.cons (.comp (.tup (.cons (.neg (.var 16)) (.cons (.var 17) (.nil)))) (.tp [.nm 16, .nm 17]) (.e (.ix (.var 14) (.bin .mod (.bi .int (.cons (.bin .add (.var 13) (.int 1)) (.nil))) (.int 3)))) (.none) [16, 17]) (.nil)))) (.cons (.cmp .ne (.call i_joined (.cons (.call i_joined (.cons (.var 3) (.cons (.var 3) (.nil)))) (.cons (.call i_joined (.cons (.var 3) (.cons (.var 3) (.nil)))) (.nil)))) (.var 2)) (.cons (.cmp .ne (.call i_determinant (.cons (.var 3) (.nil))) (.tup (.cons (.int 1) (.cons (.int 1) (.nil))))) (.nil))))) (.cons (.ret (.bl false)) (.nil)) (.nil)) (.nil))))
def l_law_2 : Ss := .cons (.ifs (.ors (.cons (.noB true (.call i_is_move (.cons (.var 10) (.nil)))) (.cons (.cmp .ne (.call i_move_of (.cons (.comp (.bin .mul (.int 2) (.var 11)) (.nm 11) (.e (.ix (.var 10) (.int 0))) (.none) [11]) (.cons (.bin .mul (.neg (.int 2)) (.ix (.var 10) (.int 1))) (.nil)))) (.call i__law_move (.cons (.comp (.neg (.var 11)) (.nm 11) (.e (.ix (.var 10) (.int 0))) (.none) [11]) (.cons (.ix (.var 10) (.int 1)) (.nil))))) (.nil)))) (.cons (.ret (.bl false)) (.nil)) (.nil)) (.cons (.ifs (.ors (.cons (.cmp .ne (.call i_joined (.cons (.var 9) (.cons (.var 10) (.nil)))) (.call i__law_joined (.cons (.var 9) (.cons (.var 10) (.nil))))) (.cons (.cmp .ne (.call i_moved (.cons (.var 10) (.cons (.var 8) (.nil)))) (.call i__law_goes (.cons (.var 10) (.cons (.var 8) (.nil))))) (.cons (.cmp .ne (.call i_determinant (.cons (.var 10) (.nil))) (.call i__law_low (.cons (.call i__law_determinant (.cons (.ix (.var 10) (.int 0)) (.nil))) (.cons (.bin .mul (.bin .mul (.ix (.var 10) (.int 1)) (.ix (.var 10) (.int 1))) (.ix (.var 10) (.int 1))) (.nil))))) (.nil))))) (.cons (.ret (.bl false)) (.nil)) (.nil)) (.cons (.par [8, 9] (.cons (.call i__law_goes (.cons (.var 10) (.cons (.var 8) (.nil)))) (.cons (.call i__law_joined (.cons (.var 9) (.cons (.var 10) (.nil)))) (.nil)))) (.nil)))
def l_law_3 : Ss := .cons (.set 4 (.bin .add (.int 10) (.bin .mul (.int 100) (.var 3)))) (.cons (.set 5 (.comp (.call i__law_drawn (.cons (.var 1) (.cons (.bin .add (.var 4) (.bin .mul (.int 30) (.var 6))) (.nil)))) (.nm 6) (.r1 (.bin .add (.int 2) (.call i__law_mix (.cons (.var 1) (.cons (.bin .add (.var 4) (.int 95)) (.cons (.int 2) (.nil))))))) (.none) [6])) (.cons (.set 7 (.bi .tuple (.cons (.comp (.call i__law_low (.cons (.bin .sub (.call i__law_mix (.cons (.var 1) (.cons (.bin .add (.bin .add (.var 4) (.int 90)) (.var 6)) (.cons (.int 200) (.nil))))) (.int 100)) (.cons (.bin .add (.int 1) (.call i__law_mix (.cons (.var 1) (.cons (.bin .add (.bin .add (.var 4) (.int 93)) (.var 6)) (.cons (.int 9) (.nil)))))) (.nil)))) (.nm 6) (.r1 (.int 3)) (.none) [6]) (.nil)))) (.cons (.par [8, 9] (.cons (.var 7) (.cons (.var 2) (.nil)))) (.cons (.for_ (.nm 10) (.e (.var 5)) (l_law_2)) (.cons (.ifs (.cmp .ne (.call i_moved (.cons (.var 9) (.cons (.var 7) (.nil)))) (.var 8)) (.cons (.ret (.bl false)) (.nil)) (.nil)) (.cons (.set 12 (.call i__law_back (.cons (.var 9) (.nil)))) (.cons (.ifs (.ors (.cons (.ands (.cons (.isN (.var 12)) (.cons (.cmp .ne (.call i__law_refused (.cons (.int 3) (.cons (.var 9) (.cons (.int 0) (.nil))))) (.tup (.cons (.str "way") (.cons (.int 0) (.nil))))) (.nil)))) (.cons (.ands (.cons (.noN (.var 12)) (.cons (.ors (.cons (.cmp .ne (.call i_back (.cons (.var 9) (.nil))) (.var 12)) (.cons (.cmp .ne (.call i_moved (.cons (.call i_back (.cons (.var 9) (.nil))) (.cons (.var 8) (.nil)))) (.var 7)) (.cons (.cmp .ne (.call i_joined (.cons (.var 9) (.cons (.call i_back (.cons (.var 9) (.nil))) (.nil)))) (.var 2)) (.nil))))) (.nil)))) (.nil)))) (.cons (.ret (.bl false)) (.nil)) (.nil)) (.nil))))))))
def b_law : Ss := .cons (.set 1 (.call i__law_draws (.cons (.var 0) (.nil)))) (.cons (.set 2 (.tup (.cons (.tup (.cons (.int 1) (.cons (.int 0) (.cons (.int 0) (.cons (.int 0) (.cons (.int 0) (.cons (.int 1) (.cons (.int 0) (.cons (.int 0) (.cons (.int 0) (.cons (.int 0) (.cons (.int 1) (.cons (.int 0) (.nil)))))))))))))) (.cons (.int 1) (.nil))))) (.cons (.ifs (.cmp .ne (.call i_still (.nil)) (.var 2)) (.cons (.ret (.bl false)) (.nil)) (.nil)) (.cons (.for_ (.nm 3) (.r1 (.int 4)) (l_law_3)) (.cons (.for_ (.nm 13) (.r1 (.int 3)) (l_law_1)) (.cons (.unp (.tp [.nm 18, .nm 19, .nm 20, .nm 16, .nm 17]) (.comp (.bin .sub (.call i__law_mix (.cons (.var 1) (.cons (.bin .add (.int 450) (.var 6)) (.cons (.int 2001) (.nil))))) (.int 1000)) (.nm 6) (.r1 (.int 5)) (.none) [6])) (.cons (.ifs (.ors (.cons (.cmp .ne (.call i_shift (.cons (.var 18) (.cons (.var 19) (.cons (.var 20) (.nil))))) (.call i__law_move (.cons (.lst (.cons (.int 1) (.cons (.int 0) (.cons (.int 0) (.cons (.var 18) (.cons (.int 0) (.cons (.int 1) (.cons (.int 0) (.cons (.var 19) (.cons (.int 0) (.cons (.int 0) (.cons (.int 1) (.cons (.var 20) (.nil)))))))))))))) (.cons (.int 1) (.nil))))) (.cons (.cmp .ne (.call i_scale (.cons (.var 16) (.cons (.bin .add (.int 1) (.bi .abs (.cons (.var 17) (.nil)))) (.nil)))) (.call i__law_move (.cons (.lst (.cons (.var 16) (.cons (.int 0) (.cons (.int 0) (.cons (.int 0) (.cons (.int 0) (.cons (.var 16) (.cons (.int 0) (.cons (.int 0) (.cons (.int 0) (.cons (.int 0) (.cons (.var 16) (.cons (.int 0) (.nil)))))))))))))) (.cons (.bin .add (.int 1) (.bi .abs (.cons (.var 17) (.nil)))) (.nil))))) (.nil)))) (.cons (.ret (.bl false)) (.nil)) (.nil)) (.cons (.set 21 (.ix (.var 2) (.int 0))) (.cons (.set 22 (.lst (.cons (.tup (.cons (.var 21) (.cons (.int 0) (.nil)))) (.cons (.tup (.cons (.bi .tuple (.cons (.comp (.bin .mul (.int 2) (.var 10)) (.nm 10) (.e (.var 21)) (.none) [10]) (.nil))) (.cons (.int 2) (.nil)))) (.cons (.tup (.cons (.var 21) (.cons (.neg (.int 1)) (.nil)))) (.nil)))))) (.cons (.ifs (.ors (.cons (.cmp .ne (.comp (.call i_is_move (.cons (.var 23) (.nil))) (.nm 23) (.e (.var 22)) (.none) [23]) (.bin .mul (.lst (.cons (.bl false) (.nil))) (.int 3))) (.cons (.cmp .ne (.comp (.call i__law_refused (.cons (.int 3) (.cons (.var 23) (.cons (.int 0) (.nil))))) (.nm 23) (.e (.var 22)) (.none) [23]) (.bin .mul (.lst (.cons (.tup (.cons (.str "move") (.cons (.int 0) (.nil)))) (.nil))) (.int 3))) (.nil)))) (.cons (.ret (.bl false)) (.nil)) (.nil)) (.cons (.ifs (.ors (.cons (.cmp .ne (.comp (.call i__law_refused (.cons (.int 4) (.cons (.var 2) (.cons (.var 23) (.nil))))) (.nm 23) (.e (.var 22)) (.none) [23]) (.bin .mul (.lst (.cons (.tup (.cons (.str "move") (.cons (.int 1) (.nil)))) (.nil))) (.int 3))) (.cons (.cmp .ne (.comp (.call i__law_refused (.cons (.int 5) (.cons (.var 23) (.cons (.int 0) (.nil))))) (.nm 23) (.e (.var 22)) (.none) [23]) (.bin .mul (.lst (.cons (.tup (.cons (.str "move") (.cons (.int 0) (.nil)))) (.nil))) (.int 3))) (.nil)))) (.cons (.ret (.bl false)) (.nil)) (.nil)) (.cons (.set 24 (.lst (.cons (.call i__law_refused (.cons (.int 0) (.cons (.bi .list (.cons (.var 21) (.nil))) (.cons (.int 0) (.nil))))) (.cons (.call i__law_refused (.cons (.int 0) (.cons (.bi .list (.cons (.sl (.var 21) (.none) (.some (.int 11))) (.nil))) (.cons (.int 1) (.nil))))) (.cons (.call i__law_refused (.cons (.int 1) (.cons (.int 2) (.cons (.int 0) (.nil))))) (.cons (.call i__law_refused (.cons (.int 1) (.cons (.int 2) (.cons (.neg (.int 1)) (.nil))))) (.nil))))))) (.cons (.set 24 (.bin .add (.var 24) (.lst (.cons (.call i__law_refused (.cons (.int 2) (.cons (.int 3) (.cons (.int 0) (.nil))))) (.cons (.call i__law_refused (.cons (.int 2) (.cons (.neg (.int 1)) (.cons (.int 0) (.nil))))) (.cons (.call i__law_refused (.cons (.int 4) (.cons (.ix (.var 22) (.int 0)) (.cons (.ix (.var 22) (.int 1)) (.nil))))) (.nil))))))) (.cons (.ret (.ands (.cons (.cmp .eq (.var 24) (.lst (.cons (.tup (.cons (.str "move") (.cons (.int 0) (.nil)))) (.cons (.tup (.cons (.str "move") (.cons (.int 0) (.nil)))) (.cons (.tup (.cons (.str "move") (.cons (.int 0) (.nil)))) (.cons (.tup (.cons (.str "move") (.cons (.int 0) (.nil)))) (.cons (.tup (.cons (.str "axis") (.cons (.int 3) (.nil)))) (.cons (.tup (.cons (.str "axis") (.cons (.neg (.int 1)) (.nil)))) (.cons (.tup (.cons (.str "move") (.cons (.int 0) (.nil)))) (.nil)))))))))) (.cons (.cmp .eq (.call i__law_refused (.cons (.int 3) (.cons (.call i_scale (.cons (.int 0) (.cons (.int 1) (.nil)))) (.cons (.int 0) (.nil))))) (.tup (.cons (.str "way") (.cons (.int 0) (.nil))))) (.nil))))) (.nil))))))))))))))
def d_law : Df := ⟨"law", 1, ["script", "draws", "none", "turn", "k", "moves", "t", "point", "here", "whole", "one", "number", "way", "axis", "unit", "s", "n", "d", "x", "y", "z", "rows", "bads", "bad", "told"], [], b_law⟩
def tab : List (Str × List Str) := [("DrawError", ["DrawError"]), ("BadMove", ["BadMove", "DrawError"]), ("BadAxis", ["BadAxis", "DrawError"]), ("NoWay", ["NoWay", "DrawError"])]
def glo : List (Str × PD) := [("ZERO", .tuple [.int 0, .int 1]), ("SIZE", .int 12), ("STILL", .tuple [.tuple [.int 1, .int 0, .int 0, .int 0, .int 0, .int 1, .int 0, .int 0, .int 0, .int 0, .int 1, .int 0], .int 1])]
def T : List Df := [d_common, d_plain, d_add, d_times, d_summed, d_divisor_of, d_is_move, d_check_move, d_least, d_move_of, d_still, d_shift, d_scale, d_quarter, d_entry, d_joined, d_minor, d_whole_determinant, d_determinant, d_back, d_moved, d__law_draws, d__law_mix, d__law_common, d__law_low, d__law_move, d__law_joined, d__law_goes, d__law_minor, d__law_determinant, d__law_back, d__law_drawn, d__law_refused, d_law]
def pg : Pg := ⟨T, glo, subX tab⟩
def clsBody (st : Stmt) : List Stmt := match st with
  | .ClassDef _ _ _ b _ _ _ _ _ _ _ => b
  | _ => []
def iniSt : Stmt := (clsBody (topSt 1)).getD 0 (.Pass ⟨0, 0, 0, 0⟩)
def hd : Hd := ⟨pg, tab, "DrawError", "DrawError.__init__", prog.main.file, iniSt, [topSt 7, topSt 8, topSt 9, topSt 10, topSt 11, topSt 15, topSt 16, topSt 17, topSt 18, topSt 19, topSt 20, topSt 21, topSt 22, topSt 23, topSt 24, topSt 25, topSt 26, topSt 27, topSt 28, topSt 29, topSt 30, topSt 32, topSt 33, topSt 34, topSt 35, topSt 36, topSt 37, topSt 38, topSt 39, topSt 40, topSt 41, topSt 42, topSt 43, topSt 44]⟩
theorem u_common (m : Nat) (a0 a1 : PD) : evF pg (m + 1) i_common [a0, a1] = fin (evSs (sgOf pg m) b_common ([], [some a0, some a1, none, none])) := rfl
theorem u_plain (m : Nat) (a0 a1 : PD) : evF pg (m + 1) i_plain [a0, a1] = fin (evSs (sgOf pg m) b_plain ([], [some a0, some a1, none])) := rfl
theorem u_add (m : Nat) (a0 a1 : PD) : evF pg (m + 1) i_add [a0, a1] = fin (evSs (sgOf pg m) b_add ([], [some a0, some a1])) := rfl
theorem u_times (m : Nat) (a0 a1 : PD) : evF pg (m + 1) i_times [a0, a1] = fin (evSs (sgOf pg m) b_times ([], [some a0, some a1])) := rfl
theorem u_summed (m : Nat) (a0 : PD) : evF pg (m + 1) i_summed [a0] = fin (evSs (sgOf pg m) b_summed ([], [some a0, none, none])) := rfl
theorem u_divisor_of (m : Nat) (a0 : PD) : evF pg (m + 1) i_divisor_of [a0] = fin (evSs (sgOf pg m) b_divisor_of ([], [some a0, none, none])) := rfl
theorem u_is_move (m : Nat) (a0 : PD) : evF pg (m + 1) i_is_move [a0] = fin (evSs (sgOf pg m) b_is_move ([], [some a0])) := rfl
theorem u_check_move (m : Nat) (a0 a1 : PD) : evF pg (m + 1) i_check_move [a0, a1] = fin (evSs (sgOf pg m) b_check_move ([], [some a0, some a1])) := rfl
theorem u_least (m : Nat) (a0 a1 : PD) : evF pg (m + 1) i_least [a0, a1] = fin (evSs (sgOf pg m) b_least ([], [some a0, some a1, none, none])) := rfl
theorem u_move_of (m : Nat) (a0 a1 : PD) : evF pg (m + 1) i_move_of [a0, a1] = fin (evSs (sgOf pg m) b_move_of ([], [some a0, some a1])) := rfl
theorem u_still (m : Nat) : evF pg (m + 1) i_still [] = fin (evSs (sgOf pg m) b_still ([], [])) := rfl
theorem u_shift (m : Nat) (a0 a1 a2 : PD) : evF pg (m + 1) i_shift [a0, a1, a2] = fin (evSs (sgOf pg m) b_shift ([], [some a0, some a1, some a2])) := rfl
theorem u_scale (m : Nat) (a0 a1 : PD) : evF pg (m + 1) i_scale [a0, a1] = fin (evSs (sgOf pg m) b_scale ([], [some a0, some a1])) := rfl
theorem u_quarter (m : Nat) (a0 : PD) : evF pg (m + 1) i_quarter [a0] = fin (evSs (sgOf pg m) b_quarter ([], [some a0, none, none, none])) := rfl
theorem u_entry (m : Nat) (a0 a1 a2 : PD) : evF pg (m + 1) i_entry [a0, a1, a2] = fin (evSs (sgOf pg m) b_entry ([], [some a0, some a1, some a2])) := rfl
theorem u_joined (m : Nat) (a0 a1 : PD) : evF pg (m + 1) i_joined [a0, a1] = fin (evSs (sgOf pg m) b_joined ([], [some a0, some a1, none, none, none, none])) := rfl
theorem u_minor (m : Nat) (a0 a1 a2 : PD) : evF pg (m + 1) i_minor [a0, a1, a2] = fin (evSs (sgOf pg m) b_minor ([], [some a0, some a1, some a2, none, none, none, none])) := rfl
theorem u_whole_determinant (m : Nat) (a0 : PD) : evF pg (m + 1) i_whole_determinant [a0] = fin (evSs (sgOf pg m) b_whole_determinant ([], [some a0, none])) := rfl
theorem u_determinant (m : Nat) (a0 : PD) : evF pg (m + 1) i_determinant [a0] = fin (evSs (sgOf pg m) b_determinant ([], [some a0])) := rfl
theorem u_back (m : Nat) (a0 : PD) : evF pg (m + 1) i_back [a0] = fin (evSs (sgOf pg m) b_back ([], [some a0, none, none, none, none, none, none, none])) := rfl
theorem u_moved (m : Nat) (a0 a1 : PD) : evF pg (m + 1) i_moved [a0, a1] = fin (evSs (sgOf pg m) b_moved ([], [some a0, some a1, none, none, none, none, none, none])) := rfl
theorem u__law_draws (m : Nat) (a0 : PD) : evF pg (m + 1) i__law_draws [a0] = fin (evSs (sgOf pg m) b__law_draws ([], [some a0, none, none, none, none, none])) := rfl
theorem u__law_mix (m : Nat) (a0 a1 a2 : PD) : evF pg (m + 1) i__law_mix [a0, a1, a2] = fin (evSs (sgOf pg m) b__law_mix ([], [some a0, some a1, some a2, none])) := rfl
theorem u__law_common (m : Nat) (a0 a1 : PD) : evF pg (m + 1) i__law_common [a0, a1] = fin (evSs (sgOf pg m) b__law_common ([], [some a0, some a1, none, none, none])) := rfl
theorem u__law_low (m : Nat) (a0 a1 : PD) : evF pg (m + 1) i__law_low [a0, a1] = fin (evSs (sgOf pg m) b__law_low ([], [some a0, some a1, none])) := rfl
theorem u__law_move (m : Nat) (a0 a1 : PD) : evF pg (m + 1) i__law_move [a0, a1] = fin (evSs (sgOf pg m) b__law_move ([], [some a0, some a1, none, none])) := rfl
theorem u__law_joined (m : Nat) (a0 a1 : PD) : evF pg (m + 1) i__law_joined [a0, a1] = fin (evSs (sgOf pg m) b__law_joined ([], [some a0, some a1, none, none, none, none, none, none, none, none])) := rfl
theorem u__law_goes (m : Nat) (a0 a1 : PD) : evF pg (m + 1) i__law_goes [a0, a1] = fin (evSs (sgOf pg m) b__law_goes ([], [some a0, some a1, none, none, none, none, none, none, none])) := rfl
theorem u__law_minor (m : Nat) (a0 a1 a2 : PD) : evF pg (m + 1) i__law_minor [a0, a1, a2] = fin (evSs (sgOf pg m) b__law_minor ([], [some a0, some a1, some a2, none, none, none, none, none])) := rfl
theorem u__law_determinant (m : Nat) (a0 : PD) : evF pg (m + 1) i__law_determinant [a0] = fin (evSs (sgOf pg m) b__law_determinant ([], [some a0, none])) := rfl
theorem u__law_back (m : Nat) (a0 : PD) : evF pg (m + 1) i__law_back [a0] = fin (evSs (sgOf pg m) b__law_back ([], [some a0, none, none, none, none, none, none, none])) := rfl
theorem u__law_drawn (m : Nat) (a0 a1 : PD) : evF pg (m + 1) i__law_drawn [a0, a1] = fin (evSs (sgOf pg m) b__law_drawn ([], [some a0, some a1, none, none, none, none])) := rfl
theorem u__law_refused (m : Nat) (a0 a1 a2 : PD) : evF pg (m + 1) i__law_refused [a0, a1, a2] = fin (evSs (sgOf pg m) b__law_refused ([], [some a0, some a1, some a2, none])) := rfl
theorem u_law (m : Nat) (a0 : PD) : evF pg (m + 1) i_law [a0] = fin (evSs (sgOf pg m) b_law ([], [some a0, none, none, none, none, none, none, none, none, none, none, none, none, none, none, none, none, none, none, none, none, none, none, none, none])) := rfl
-- law def: 33 of T; statement 44; rid samplesonce_k01_main_moves_put_together
end k01
set_option Elab.async false
set_option linter.all false
set_option maxRecDepth 100000
set_option maxHeartbeats 4000000
namespace k01
open PySem PySem.Spec PyProof.Rows L2 Fe
theorem chk : ((hd.p.T.zip hd.sts).all fun z => chkDf hd.p hd.C z.1 z.2) = true := by decide +kernel
theorem iniS : IniS prog hd.ini := by
  refine ⟨by decide +kernel, ⟨_, rfl, rfl⟩, NdefX.nscope_by (by decide +kernel), by decide +kernel, ⟨_, _, _, _, _, _, _, _, _, _, rfl, _, fun env => rfl⟩, by decide +kernel, by decide +kernel⟩
theorem stat : hd.Stat prog := ⟨rfl, chk, rfl, iniS, rfl⟩
end k01
set_option Elab.async false
set_option linter.all false
set_option maxRecDepth 100000
set_option maxHeartbeats 0
namespace k01
open PySem PySem.Spec PyProof.Rows L2 Fe
def loose : List Str := "DrawError" :: "BadMove" :: "BadAxis" :: "NoWay" :: "ZERO" :: "common" :: "plain" :: "add" :: "times" :: "summed" :: "SIZE" :: "STILL" :: "divisor_of" :: "is_move" :: "check_move" :: "least" :: "move_of" :: "still" :: "shift" :: "scale" :: "quarter" :: "entry" :: "joined" :: "minor" :: "whole_determinant" :: "determinant" :: "back" :: "moved" :: "_law_draws" :: "_law_mix" :: "_law_common" :: "_law_low" :: "_law_move" :: "_law_joined" :: "_law_goes" :: "_law_minor" :: "_law_determinant" :: "_law_back" :: "_law_drawn" :: "_law_refused" :: []
abbrev Rrow : PySem.W.OpenRow := PySem.W.OpenLaw.row PySem.Challenge.rw_samplesonce_k01_main_moves_put_together
def ob (s : PySem.W.SharedT) : AlF := hd.obsG 4 (HandSHeadRun.getT s)
theorem ob_eq (s : PySem.W.SharedT) : ob s = (hd.hook 4).obs s.abs := Hd.obsG_eq (HandSHeadRun.getT_eq s)
theorem run (w : World) : HandSHeadRun.RunEq Rrow (PySem.W.view Rrow.prog [44]) (hd.hook 4) ob 20000 loose w := by
  intro os
  kernel_rfl
end k01
set_option Elab.async false
set_option linter.all false
set_option maxRecDepth 100000
set_option maxHeartbeats 4000000
namespace k01
open PySem PySem.Spec PyProof.Rows L2 Fe
/-! ### twelve numbers -/
structure V12 where
  a0 : Int
  a1 : Int
  a2 : Int
  a3 : Int
  a4 : Int
  a5 : Int
  a6 : Int
  a7 : Int
  a8 : Int
  a9 : Int
  a10 : Int
  a11 : Int
structure Mv where
  v : V12
  d : Int
def V12.nums (v : V12) : List Int := [v.a0, v.a1, v.a2, v.a3, v.a4, v.a5, v.a6, v.a7, v.a8, v.a9, v.a10, v.a11]
abbrev V12.l (v : V12) : List PD := [.int v.a0, .int v.a1, .int v.a2, .int v.a3, .int v.a4, .int v.a5, .int v.a6, .int v.a7, .int v.a8, .int v.a9, .int v.a10, .int v.a11]
abbrev MD (m : Mv) : PD := .tuple [.tuple [.int m.v.a0, .int m.v.a1, .int m.v.a2, .int m.v.a3, .int m.v.a4, .int m.v.a5, .int m.v.a6, .int m.v.a7, .int m.v.a8, .int m.v.a9, .int m.v.a10, .int m.v.a11], .int m.d]
class BdV (v : V12) (k : outParam Nat) : Prop where
  b0 : v.a0.natAbs < 2 ^ k
  b1 : v.a1.natAbs < 2 ^ k
  b2 : v.a2.natAbs < 2 ^ k
  b3 : v.a3.natAbs < 2 ^ k
  b4 : v.a4.natAbs < 2 ^ k
  b5 : v.a5.natAbs < 2 ^ k
  b6 : v.a6.natAbs < 2 ^ k
  b7 : v.a7.natAbs < 2 ^ k
  b8 : v.a8.natAbs < 2 ^ k
  b9 : v.a9.natAbs < 2 ^ k
  b10 : v.a10.natAbs < 2 ^ k
  b11 : v.a11.natAbs < 2 ^ k
instance {v : V12} {k : Nat} [A : BdV v k] : Bd v.a0 k := ⟨A.b0⟩
instance {v : V12} {k : Nat} [A : BdV v k] : Bd v.a1 k := ⟨A.b1⟩
instance {v : V12} {k : Nat} [A : BdV v k] : Bd v.a2 k := ⟨A.b2⟩
instance {v : V12} {k : Nat} [A : BdV v k] : Bd v.a3 k := ⟨A.b3⟩
instance {v : V12} {k : Nat} [A : BdV v k] : Bd v.a4 k := ⟨A.b4⟩
instance {v : V12} {k : Nat} [A : BdV v k] : Bd v.a5 k := ⟨A.b5⟩
instance {v : V12} {k : Nat} [A : BdV v k] : Bd v.a6 k := ⟨A.b6⟩
instance {v : V12} {k : Nat} [A : BdV v k] : Bd v.a7 k := ⟨A.b7⟩
instance {v : V12} {k : Nat} [A : BdV v k] : Bd v.a8 k := ⟨A.b8⟩
instance {v : V12} {k : Nat} [A : BdV v k] : Bd v.a9 k := ⟨A.b9⟩
instance {v : V12} {k : Nat} [A : BdV v k] : Bd v.a10 k := ⟨A.b10⟩
instance {v : V12} {k : Nat} [A : BdV v k] : Bd v.a11 k := ⟨A.b11⟩
theorem BdV.up {v : V12} {k : Nat} (A : BdV v k) {j : Nat} (h : k ≤ j) : BdV v j := ⟨Nat.lt_of_lt_of_le A.b0 (p2le h), Nat.lt_of_lt_of_le A.b1 (p2le h), Nat.lt_of_lt_of_le A.b2 (p2le h), Nat.lt_of_lt_of_le A.b3 (p2le h), Nat.lt_of_lt_of_le A.b4 (p2le h), Nat.lt_of_lt_of_le A.b5 (p2le h), Nat.lt_of_lt_of_le A.b6 (p2le h), Nat.lt_of_lt_of_le A.b7 (p2le h), Nat.lt_of_lt_of_le A.b8 (p2le h), Nat.lt_of_lt_of_le A.b9 (p2le h), Nat.lt_of_lt_of_le A.b10 (p2le h), Nat.lt_of_lt_of_le A.b11 (p2le h)⟩
/-- the greatest divisor of a number and others -/
def gf (g : Int) (l : List Int) : Int := l.foldl gg g
def gV (D : Int) (v : V12) : Int := gf D v.nums
class Nz (a : Int) : Prop where
  h : a ≠ 0
theorem gg_posl {a b : Int} (h : a ≠ 0) : 0 < gg a b := by
  unfold gg
  have : 0 < Nat.gcd a.natAbs b.natAbs := Nat.gcd_pos_of_pos_left _ (by omega)
  omega
instance {a b : Int} [A : Nz a] : Nz (gg a b) := ⟨by have := gg_posl (b := b) A.h; omega⟩
theorem gg_abs (a b : Int) : gg ((a.natAbs : Nat) : Int) b = gg a b := by unfold gg; rw [Int.natAbs_natCast]
theorem gg_dvd (a b : Int) : gg a b ∣ a ∧ gg a b ∣ b := ⟨Int.ofNat_dvd_left.mpr (Nat.gcd_dvd_left ..), Int.ofNat_dvd_left.mpr (Nat.gcd_dvd_right ..)⟩
theorem gg_mul (c a b : Int) : gg (c * a) (c * b) = c.natAbs * gg a b := by
  unfold gg
  rw [Int.natAbs_mul, Int.natAbs_mul, Nat.gcd_mul_left]
  exact Int.natCast_mul _ _
theorem gg_nn (a b : Int) : gg ((a.natAbs : Nat) : Int) ((b.natAbs : Nat) : Int) = gg a b := by unfold gg; rw [Int.natAbs_natCast, Int.natAbs_natCast]
theorem gf_pos : ∀ (l : List Int) (g : Int), g ≠ 0 → l ≠ [] → 0 < gf g l
  | [a], g, h, _ => gg_posl h
  | a :: b :: l, g, h, _ => gf_pos (b :: l) (gg g a) (by have := gg_posl (b := a) h; omega) (by simp)
theorem gf_dvd : ∀ (l : List Int) (g : Int), gf g l ∣ g ∧ ∀ a ∈ l, gf g l ∣ a
  | [], g => ⟨Int.dvd_refl g, fun _ h => (nomatch h)⟩
  | a :: l, g => by
    obtain ⟨h1, h2⟩ := gf_dvd l (gg g a)
    obtain ⟨k1, k2⟩ := gg_dvd g a
    refine ⟨Int.dvd_trans h1 k1, fun b hb => ?_⟩
    rcases List.mem_cons.mp hb with rfl | hb
    · exact Int.dvd_trans h1 k2
    · exact h2 b hb
theorem gf_mul (c : Int) (hc : 0 ≤ c) : ∀ (l : List Int) (g : Int), gf (c * g) (l.map (c * ·)) = c * gf g l
  | [], g => rfl
  | a :: l, g => by
    show gf (gg (c * g) (c * a)) (l.map (c * ·)) = c * gf (gg g a) l
    rw [gg_mul, show ((c.natAbs : Nat) : Int) = c by omega, gf_mul c hc l]
/-- lowest terms -/
def kV (D : Int) (v : V12) : Int := if D < 0 then -gV D v else gV D v
def lowM (v : V12) (D : Int) : Mv := ⟨⟨v.a0.fdiv (kV D v), v.a1.fdiv (kV D v), v.a2.fdiv (kV D v), v.a3.fdiv (kV D v), v.a4.fdiv (kV D v), v.a5.fdiv (kV D v), v.a6.fdiv (kV D v), v.a7.fdiv (kV D v), v.a8.fdiv (kV D v), v.a9.fdiv (kV D v), v.a10.fdiv (kV D v), v.a11.fdiv (kV D v)⟩, D.fdiv (kV D v)⟩
theorem gV_pos {D : Int} (v : V12) (h : D ≠ 0) : 0 < gV D v := gf_pos _ _ h (by unfold V12.nums; simp)
theorem kV_ne {D : Int} (v : V12) (h : D ≠ 0) : kV D v ≠ 0 := by
  have := gV_pos v h
  unfold kV; split <;> omega
theorem gV_dvd (D : Int) (v : V12) : kV D v ∣ D ∧ ∀ a ∈ v.nums, kV D v ∣ a := by
  obtain ⟨a, b⟩ := gf_dvd v.nums D
  unfold kV
  split
  · exact ⟨Int.neg_dvd.mpr a, fun x hx => Int.neg_dvd.mpr (b x hx)⟩
  · exact ⟨a, b⟩
theorem gV_le {D : Int} (v : V12) (h : D ≠ 0) : (gV D v).natAbs ≤ D.natAbs := Nat.le_of_dvd (by omega) (Int.natAbs_dvd_natAbs.mpr (gf_dvd v.nums D).1)
theorem redA {k j a b x y : Int} (h : (k * a) * (j * y) = (j * b) * (k * x)) : (k * j) * (a * y) = (k * j) * (b * x) := by grind
theorem kV_abs (D : Int) (v : V12) : (kV D v).natAbs = (gV D v).natAbs := by unfold kV; split <;> omega
/-- in lowest terms -/
structure Ok (m : Mv) : Prop where
  d : 0 < m.d
  g : gV m.d m.v = 1
theorem fdiv_dvd {k a : Int} (h : k ≠ 0) (d : k ∣ a) : a = k * a.fdiv k := by
  obtain ⟨c, rfl⟩ := d
  rw [Int.mul_fdiv_cancel_left _ h]
theorem lowM_eq {D : Int} (v : V12) (h : D ≠ 0) : v.a0 = kV D v * (lowM v D).v.a0 ∧ v.a1 = kV D v * (lowM v D).v.a1 ∧ v.a2 = kV D v * (lowM v D).v.a2 ∧ v.a3 = kV D v * (lowM v D).v.a3 ∧ v.a4 = kV D v * (lowM v D).v.a4 ∧ v.a5 = kV D v * (lowM v D).v.a5 ∧ v.a6 = kV D v * (lowM v D).v.a6 ∧ v.a7 = kV D v * (lowM v D).v.a7 ∧ v.a8 = kV D v * (lowM v D).v.a8 ∧ v.a9 = kV D v * (lowM v D).v.a9 ∧ v.a10 = kV D v * (lowM v D).v.a10 ∧ v.a11 = kV D v * (lowM v D).v.a11 ∧ D = kV D v * (lowM v D).d := by
  obtain ⟨h1, h2⟩ := gV_dvd D v
  have k0 := kV_ne v h
  refine ⟨fdiv_dvd k0 (h2 _ (by simp [V12.nums])), fdiv_dvd k0 (h2 _ (by simp [V12.nums])), fdiv_dvd k0 (h2 _ (by simp [V12.nums])), fdiv_dvd k0 (h2 _ (by simp [V12.nums])), fdiv_dvd k0 (h2 _ (by simp [V12.nums])), fdiv_dvd k0 (h2 _ (by simp [V12.nums])), fdiv_dvd k0 (h2 _ (by simp [V12.nums])), fdiv_dvd k0 (h2 _ (by simp [V12.nums])), fdiv_dvd k0 (h2 _ (by simp [V12.nums])), fdiv_dvd k0 (h2 _ (by simp [V12.nums])), fdiv_dvd k0 (h2 _ (by simp [V12.nums])), fdiv_dvd k0 (h2 _ (by simp [V12.nums])), fdiv_dvd k0 h1⟩
theorem fdiv_le {k a : Int} (h : k ≠ 0) (d : k ∣ a) : (a.fdiv k).natAbs ≤ a.natAbs := by
  have e := fdiv_dvd h d
  have := congrArg Int.natAbs e
  rw [Int.natAbs_mul] at this
  rw [this]
  exact Nat.le_mul_of_pos_left _ (by omega)
theorem lowM_bd {D : Int} {v : V12} {k : Nat} (h : D ≠ 0) [A : BdV v k] : BdV (lowM v D).v k := by
  obtain ⟨h1, h2⟩ := gV_dvd D v
  have k0 := kV_ne v h
  exact ⟨Nat.lt_of_le_of_lt (fdiv_le k0 (h2 _ (by simp [V12.nums]))) A.b0, Nat.lt_of_le_of_lt (fdiv_le k0 (h2 _ (by simp [V12.nums]))) A.b1, Nat.lt_of_le_of_lt (fdiv_le k0 (h2 _ (by simp [V12.nums]))) A.b2, Nat.lt_of_le_of_lt (fdiv_le k0 (h2 _ (by simp [V12.nums]))) A.b3, Nat.lt_of_le_of_lt (fdiv_le k0 (h2 _ (by simp [V12.nums]))) A.b4, Nat.lt_of_le_of_lt (fdiv_le k0 (h2 _ (by simp [V12.nums]))) A.b5, Nat.lt_of_le_of_lt (fdiv_le k0 (h2 _ (by simp [V12.nums]))) A.b6, Nat.lt_of_le_of_lt (fdiv_le k0 (h2 _ (by simp [V12.nums]))) A.b7, Nat.lt_of_le_of_lt (fdiv_le k0 (h2 _ (by simp [V12.nums]))) A.b8, Nat.lt_of_le_of_lt (fdiv_le k0 (h2 _ (by simp [V12.nums]))) A.b9, Nat.lt_of_le_of_lt (fdiv_le k0 (h2 _ (by simp [V12.nums]))) A.b10, Nat.lt_of_le_of_lt (fdiv_le k0 (h2 _ (by simp [V12.nums]))) A.b11⟩
theorem lowM_bdd {D : Int} {v : V12} {k : Nat} (h : D ≠ 0) [A : Bd D k] : Bd (lowM v D).d k := ⟨Nat.lt_of_le_of_lt (fdiv_le (kV_ne v h) (gV_dvd D v).1) A.h⟩
theorem gg_neg (a b : Int) : gg (-a) (-b) = gg a b := by unfold gg; rw [Int.natAbs_neg, Int.natAbs_neg]
theorem gf_abs : ∀ (l : List Int) (g c : Int), gf (c * g) (l.map (c * ·)) = if l = [] then c * g else (c.natAbs : Int) * gf g l
  | [], g, c => by simp [gf]
  | [a], g, c => by
    show gg (c * g) (c * a) = _
    rw [gg_mul]; rfl
  | a :: b :: l, g, c => by
    show gf (gg (gg (c * g) (c * a)) (c * b)) (l.map (c * ·)) = _
    have e : gg (gg (c * g) (c * a)) (c * b) = (c.natAbs : Int) * gg (gg g a) b := by
      rw [gg_mul, ← gg_nn ((c.natAbs : Int) * gg g a), Int.natAbs_mul c b, Int.natAbs_mul, Int.natAbs_natCast, Int.natCast_mul, Int.natCast_mul, gg_mul, gg_nn]
      rw [Int.natAbs_natCast]
    have e2 : l.map (c * ·) = l.map (c * ·) := rfl
    rw [e]
    have key : ∀ (l : List Int) (G : Int), gf ((c.natAbs : Int) * G) (l.map (c * ·)) = (c.natAbs : Int) * gf G l := by
      intro l
      induction l with
      | nil => intro G; rfl
      | cons x l ih =>
        intro G
        show gf (gg ((c.natAbs : Int) * G) (c * x)) (l.map (c * ·)) = _
        have : gg ((c.natAbs : Int) * G) (c * x) = (c.natAbs : Int) * gg G x := by
          rw [← gg_nn ((c.natAbs : Int) * G), Int.natAbs_mul c x, Int.natAbs_mul, Int.natAbs_natCast, Int.natCast_mul, Int.natCast_mul, gg_mul, gg_nn, Int.natAbs_natCast]
        rw [this, ih]
        rfl
    rw [key]
    rfl
theorem lowM_ok {D : Int} (v : V12) (h : D ≠ 0) : Ok (lowM v D) := by
  obtain ⟨e0, e1, e2, e3, e4, e5, e6, e7, e8, e9, e10, e11, ed⟩ := lowM_eq v h
  have gp := gV_pos v h
  have k0 := kV_ne v h
  have dp : 0 < (lowM v D).d := by
    generalize (lowM v D).d = d at *
    unfold kV at ed
    by_cases c : D < 0
    · rw [if_pos c] at ed
      by_cases z : 0 < d
      · exact z
      · have : 0 ≤ gV D v * -d := Int.mul_nonneg (by omega) (by omega)
        rw [Int.mul_neg] at this
        rw [Int.neg_mul] at ed
        omega
    · rw [if_neg c] at ed
      by_cases z : 0 < d
      · exact z
      · have : 0 ≤ gV D v * -d := Int.mul_nonneg (by omega) (by omega)
        rw [Int.mul_neg] at this
        omega
  refine ⟨dp, ?_⟩
  have e : gV D v = ((kV D v).natAbs : Int) * gV (lowM v D).d (lowM v D).v := by
    have := gf_abs (lowM v D).v.nums (lowM v D).d (kV D v)
    rw [if_neg (by unfold V12.nums; simp)] at this
    show gf D v.nums = _
    rw [show gV (lowM v D).d (lowM v D).v = gf (lowM v D).d (lowM v D).v.nums from rfl, ← this, ← ed]
    congr 1
    show _ = [kV D v * (lowM v D).v.a0, kV D v * (lowM v D).v.a1, kV D v * (lowM v D).v.a2, kV D v * (lowM v D).v.a3, kV D v * (lowM v D).v.a4, kV D v * (lowM v D).v.a5, kV D v * (lowM v D).v.a6, kV D v * (lowM v D).v.a7, kV D v * (lowM v D).v.a8, kV D v * (lowM v D).v.a9, kV D v * (lowM v D).v.a10, kV D v * (lowM v D).v.a11]
    rw [← e0, ← e1, ← e2, ← e3, ← e4, ← e5, ← e6, ← e7, ← e8, ← e9, ← e10, ← e11]
    rfl
  rw [kV_abs] at e
  generalize gV (lowM v D).d (lowM v D).v = x at *
  have e2 : gV D v * x = gV D v * 1 := by
    rw [Int.mul_one]
    have : (((gV D v).natAbs : Nat) : Int) = gV D v := by omega
    rw [this] at e
    exact e.symm
  exact Int.eq_of_mul_eq_mul_left (by omega) e2
/-- lowest terms are told by proportions -/
theorem uniq {m n : Mv} (hm : Ok m) (hn : Ok n) (h0 : m.v.a0 * n.d = n.v.a0 * m.d) (h1 : m.v.a1 * n.d = n.v.a1 * m.d) (h2 : m.v.a2 * n.d = n.v.a2 * m.d) (h3 : m.v.a3 * n.d = n.v.a3 * m.d) (h4 : m.v.a4 * n.d = n.v.a4 * m.d) (h5 : m.v.a5 * n.d = n.v.a5 * m.d) (h6 : m.v.a6 * n.d = n.v.a6 * m.d) (h7 : m.v.a7 * n.d = n.v.a7 * m.d) (h8 : m.v.a8 * n.d = n.v.a8 * m.d) (h9 : m.v.a9 * n.d = n.v.a9 * m.d) (h10 : m.v.a10 * n.d = n.v.a10 * m.d) (h11 : m.v.a11 * n.d = n.v.a11 * m.d) : m = n := by
  obtain ⟨⟨a0, a1, a2, a3, a4, a5, a6, a7, a8, a9, a10, a11⟩, d⟩ := m
  obtain ⟨⟨b0, b1, b2, b3, b4, b5, b6, b7, b8, b9, b10, b11⟩, e⟩ := n
  dsimp only at *
  obtain ⟨d0, hg⟩ := hm
  obtain ⟨e0, hk⟩ := hn
  dsimp only at *
  have g1 := gf_mul e (by omega) [a0, a1, a2, a3, a4, a5, a6, a7, a8, a9, a10, a11] d
  have g2 := gf_mul d (by omega) [b0, b1, b2, b3, b4, b5, b6, b7, b8, b9, b10, b11] e
  have hg : gf d [a0, a1, a2, a3, a4, a5, a6, a7, a8, a9, a10, a11] = 1 := hg
  have hk : gf e [b0, b1, b2, b3, b4, b5, b6, b7, b8, b9, b10, b11] = 1 := hk
  rw [hg] at g1
  rw [hk] at g2
  have : (([a0, a1, a2, a3, a4, a5, a6, a7, a8, a9, a10, a11] : List Int).map (e * ·)) = (([b0, b1, b2, b3, b4, b5, b6, b7, b8, b9, b10, b11] : List Int).map (d * ·)) := by
    simp only [List.map_cons, List.map_nil]
    rw [Int.mul_comm e a0, h0, Int.mul_comm b0 d, Int.mul_comm e a1, h1, Int.mul_comm b1 d, Int.mul_comm e a2, h2, Int.mul_comm b2 d, Int.mul_comm e a3, h3, Int.mul_comm b3 d, Int.mul_comm e a4, h4, Int.mul_comm b4 d, Int.mul_comm e a5, h5, Int.mul_comm b5 d, Int.mul_comm e a6, h6, Int.mul_comm b6 d, Int.mul_comm e a7, h7, Int.mul_comm b7 d, Int.mul_comm e a8, h8, Int.mul_comm b8 d, Int.mul_comm e a9, h9, Int.mul_comm b9 d, Int.mul_comm e a10, h10, Int.mul_comm b10 d, Int.mul_comm e a11, h11, Int.mul_comm b11 d]
  rw [this, Int.mul_comm e d, g2] at g1
  have ed : d = e := by omega
  subst ed
  have q0 : a0 = b0 := Int.eq_of_mul_eq_mul_right (by omega) h0
  have q1 : a1 = b1 := Int.eq_of_mul_eq_mul_right (by omega) h1
  have q2 : a2 = b2 := Int.eq_of_mul_eq_mul_right (by omega) h2
  have q3 : a3 = b3 := Int.eq_of_mul_eq_mul_right (by omega) h3
  have q4 : a4 = b4 := Int.eq_of_mul_eq_mul_right (by omega) h4
  have q5 : a5 = b5 := Int.eq_of_mul_eq_mul_right (by omega) h5
  have q6 : a6 = b6 := Int.eq_of_mul_eq_mul_right (by omega) h6
  have q7 : a7 = b7 := Int.eq_of_mul_eq_mul_right (by omega) h7
  have q8 : a8 = b8 := Int.eq_of_mul_eq_mul_right (by omega) h8
  have q9 : a9 = b9 := Int.eq_of_mul_eq_mul_right (by omega) h9
  have q10 : a10 = b10 := Int.eq_of_mul_eq_mul_right (by omega) h10
  have q11 : a11 = b11 := Int.eq_of_mul_eq_mul_right (by omega) h11
  subst q0 q1 q2 q3 q4 q5 q6 q7 q8 q9 q10 q11
  rfl
/-- two of lowest terms -/
theorem low_low {v w : V12} {D E : Int} (hD : D ≠ 0) (hE : E ≠ 0) (h0 : v.a0 * E = w.a0 * D) (h1 : v.a1 * E = w.a1 * D) (h2 : v.a2 * E = w.a2 * D) (h3 : v.a3 * E = w.a3 * D) (h4 : v.a4 * E = w.a4 * D) (h5 : v.a5 * E = w.a5 * D) (h6 : v.a6 * E = w.a6 * D) (h7 : v.a7 * E = w.a7 * D) (h8 : v.a8 * E = w.a8 * D) (h9 : v.a9 * E = w.a9 * D) (h10 : v.a10 * E = w.a10 * D) (h11 : v.a11 * E = w.a11 * D) : lowM v D = lowM w E := by
  obtain ⟨e0, e1, e2, e3, e4, e5, e6, e7, e8, e9, e10, e11, ed⟩ := lowM_eq v hD
  obtain ⟨f0, f1, f2, f3, f4, f5, f6, f7, f8, f9, f10, f11, fd⟩ := lowM_eq w hE
  have k0 := kV_ne v hD
  have j0 := kV_ne w hE
  generalize kV D v = k at *
  generalize kV E w = j at *
  have ok1 := lowM_ok v hD
  have ok2 := lowM_ok w hE
  generalize lowM v D = m at *
  generalize lowM w E = n at *
  have red : ∀ {a b x y : Int}, (k * a) * (j * y) = (j * b) * (k * x) → a * y = b * x := by
    intro a b x y h
    exact Int.eq_of_mul_eq_mul_left (Int.mul_ne_zero k0 j0) (redA h)
  exact uniq ok1 ok2 (red (by rw [← e0, ← fd, ← f0, ← ed]; exact h0)) (red (by rw [← e1, ← fd, ← f1, ← ed]; exact h1)) (red (by rw [← e2, ← fd, ← f2, ← ed]; exact h2)) (red (by rw [← e3, ← fd, ← f3, ← ed]; exact h3)) (red (by rw [← e4, ← fd, ← f4, ← ed]; exact h4)) (red (by rw [← e5, ← fd, ← f5, ← ed]; exact h5)) (red (by rw [← e6, ← fd, ← f6, ← ed]; exact h6)) (red (by rw [← e7, ← fd, ← f7, ← ed]; exact h7)) (red (by rw [← e8, ← fd, ← f8, ← ed]; exact h8)) (red (by rw [← e9, ← fd, ← f9, ← ed]; exact h9)) (red (by rw [← e10, ← fd, ← f10, ← ed]; exact h10)) (red (by rw [← e11, ← fd, ← f11, ← ed]; exact h11))
theorem low_self {m : Mv} (h : Ok m) : lowM m.v m.d = m := by
  have d0 : m.d ≠ 0 := by have := h.d; omega
  have ek : kV m.d m.v = 1 := by unfold kV; rw [if_neg (by have := h.d; omega), h.g]
  unfold lowM
  rw [ek]
  simp only [Int.fdiv_one]
end k01
set_option Elab.async false
set_option linter.all false
set_option maxRecDepth 100000
set_option maxHeartbeats 4000000
set_option exponentiation.threshold 20000
namespace k01
open PySem PySem.Spec PyProof.Rows L2 Fe
theorem ev_common (n : Nat) (a b : Int) {k : Nat} [B : Bd b k] (hk : k ≤ 8000) : evF pg (n + 1) i_common [.int a, .int b] = .ok (.int (gg a b)) := by
  rw [u_common]
  unfold b_common
  rw [evSs, show evS (sgOf pg n) (.par [2, 3] (.cons (.bi .abs (.cons (.var 0) (.nil))) (.cons (.bi .abs (.cons (.var 1) (.nil))) (.nil)))) ([], [some (.int a), some (.int b), none, none]) = .nx ([], [some (.int a), some (.int b), some (.int a.natAbs), some (.int b.natAbs)]) from rfl]
  dsimp only
  have ep : pk (.cmp .gt (.var 3) (.int 0)) = [] := rfl
  unfold l_common_1
  rw [evSs, evS, ep, whEu (fun A B => ?_) (fun A B h => ?_) 1000000 8000 _ _ (B.up hk).h (by decide)]
  · rfl
  · show R.ok (decide ((0 : Int) < B)) = _
    congr 1
    simp
  · have h2 : (B : Int) ≠ 0 := by omega
    simp only [evSs, evS, evEs, evE, List.getElem?_cons_succ, List.getElem?_cons_zero, bok, sok, vmod _ _ h2, fmodN, dl0, setL, List.set_cons_succ, List.set_cons_zero]
theorem ev_plain (n : Nat) (a b : Int) {k : Nat} [B : Bd b k] (h : b ≠ 0) (hk : k ≤ 8000) : evF pg (n + 2) i_plain [.int a, .int b] = .ok (QD ((a : Rat) / (b : Rat))) := by
  rw [u_plain, ← lo_QD h]
  unfold b_plain
  have h1 := gg_pos (a := a) h
  have h2 := gg_le (a := a) h
  have hb := (B.up hk).h
  have kl : (kk a b).natAbs.log2 < 9000 := by
    have h3 : (kk a b).natAbs = (gg a b).natAbs := by unfold kk; split <;> omega
    rw [h3]
    exact Nat.lt_trans (log_lt (Nat.lt_of_le_of_lt h2 hb) (by decide)) (by decide)
  have k0 : kk a b ≠ 0 := by unfold kk; split <;> omega
  have ec := ev_common n a b hk
  by_cases c : b < 0
  · have ek : kk a b = -gg a b := by unfold kk; rw [if_pos c]
    rw [ek] at k0 kl
    simp only [evSs, evS, evEs, evE, List.getElem?_cons_succ, List.getElem?_cons_zero, bok, sok, clt, bO, iO, dl0, List.set_cons_succ, List.set_cons_zero, ec, c, decide_true, if_true, vfdiv _ _ k0 kl]
    unfold Fe.lo
    rw [ek] <;> rfl
  · have ek : kk a b = gg a b := by unfold kk; rw [if_neg c]
    rw [ek] at k0 kl
    simp only [evSs, evS, evEs, evE, List.getElem?_cons_succ, List.getElem?_cons_zero, bok, sok, clt, bO, iO, dl0, List.set_cons_succ, List.set_cons_zero, ec, c, decide_false, if_false, Bool.false_eq_true, vfdiv _ _ k0 kl]
    unfold Fe.lo
    rw [ek] <;> rfl
theorem ev_add (n : Nat) (x y : Rat) {i j : Nat} [A : BdQ x i] [B : BdQ y j] (h : i + j ≤ 8000) : evF pg (n + 3) i_add [QD x, QD y] = .ok (QD (x + y)) := by
  rw [u_add]
  unfold b_add
  have h0 := mul_ne (den_ne x) (den_ne y)
  have h1 : i + j < 1000000 := by omega
  have h2 : j + i < 1000000 := by omega
  simp! [ev_plain]
  rw [rat_add x y]
theorem ev_times (n : Nat) (x y : Rat) {i j : Nat} [A : BdQ x i] [B : BdQ y j] (h : i + j ≤ 8000) : evF pg (n + 3) i_times [QD x, QD y] = .ok (QD (x * y)) := by
  rw [u_times]
  unfold b_times
  have h0 := mul_ne (den_ne x) (den_ne y)
  have h1 : i + j < 1000000 := by omega
  have h2 : j + i < 1000000 := by omega
  simp! [ev_plain]
  rw [rat_mul x y]
theorem ev_summed2 (n : Nat) (x y : Rat) {i j : Nat} [A : BdQ x i] [B : BdQ y j] (h : i + j ≤ 2000) : evF pg (n + 4) i_summed [.list [QD x, QD y]] = .ok (QD (x + y)) := by
  rw [u_summed]
  unfold b_summed
  have g : List.lookup ("ZERO" : Str) pg.G = some (QD 0) := rfl
  have h1 : 1 + i ≤ 8000 := by omega
  have h2 : 1 + i + 1 + j ≤ 8000 := by omega
  have e : (0 : Rat) + x + y = x + y := by grind
  unfold l_summed_1
  simp! [g, ev_add]
  rw [e]
theorem ev_summed3 (n : Nat) (x y z : Rat) {i j k : Nat} [A : BdQ x i] [B : BdQ y j] [C : BdQ z k] (h : i + j + k ≤ 2000) : evF pg (n + 4) i_summed [.list [QD x, QD y, QD z]] = .ok (QD (x + y + z)) := by
  rw [u_summed]
  unfold b_summed
  have g : List.lookup ("ZERO" : Str) pg.G = some (QD 0) := rfl
  have h1 : 1 + i ≤ 8000 := by omega
  have h2 : 1 + i + 1 + j ≤ 8000 := by omega
  have h3 : 1 + i + 1 + j + 1 + k ≤ 8000 := by omega
  have e : (0 : Rat) + x + y + z = x + y + z := by grind
  unfold l_summed_1
  simp! [g, ev_add]
  rw [e]
theorem ev_summed4 (n : Nat) (x y z w : Rat) {i j k m : Nat} [A : BdQ x i] [B : BdQ y j] [C : BdQ z k] [D : BdQ w m] (h : i + j + k + m ≤ 2000) : evF pg (n + 4) i_summed [.list [QD x, QD y, QD z, QD w]] = .ok (QD (x + y + z + w)) := by
  rw [u_summed]
  unfold b_summed
  have g : List.lookup ("ZERO" : Str) pg.G = some (QD 0) := rfl
  have h1 : 1 + i ≤ 8000 := by omega
  have h2 : 1 + i + 1 + j ≤ 8000 := by omega
  have h3 : 1 + i + 1 + j + 1 + k ≤ 8000 := by omega
  have h4 : 1 + i + 1 + j + 1 + k + 1 + m ≤ 8000 := by omega
  have e : (0 : Rat) + x + y + z + w = x + y + z + w := by grind
  unfold l_summed_1
  simp! [g, ev_add]
  rw [e]
theorem ev_mix (n : Nat) {ds : List Int} (hd : okD ds) (k many : Int) (hk : 0 ≤ k) (hk2 : k < 10000) (hm : 0 < many) : evF pg (n + 1) i__law_mix [Ld ds, .int k, .int many] = .ok (.int (mixF ds k many)) := ev_mixF n hd k many hk hk2 hm (u__law_mix ..)
theorem ev_dr (n : Nat) (ns : List Int) (hn : ns.length ≤ 63) : ∃ ds : List Int, evF pg (n + 1) i__law_draws [Ld ns] = .ok (Ld ds) ∧ okD ds := ev_drawsB n ns hn (u__law_draws ..)
theorem ev_lcom (n : Nat) (a b : Int) {k : Nat} [B : Bd b k] (hk : k ≤ 200) : evF pg (n + 1) i__law_common [.int a, .int b] = .ok (.int (if (1 : Int) < gg a b then gg a b else 1)) := ev_lcommonB n a b (B.up hk).h (u__law_common ..)
theorem ev_lw (n : Nat) (a b : Int) {k : Nat} [B : Bd b k] (h : b ≠ 0) (hk : k ≤ 200) : evF pg (n + 2) i__law_low [.int a, .int b] = .ok (QD ((a : Rat) / (b : Rat))) :=
  (ev_lowB n a b h (B.up hk).h (ev_lcom n a b hk) (u__law_low ..)).trans (congrArg R.ok (lo_QD h))

end k01
set_option Elab.async false
set_option linter.all false
set_option maxRecDepth 100000
set_option maxHeartbeats 4000000
namespace k01
open PySem PySem.Spec PyProof.Rows L2 Fe
theorem gV_eq (D : Int) (v : V12) : gg (gg (gg (gg (gg (gg (gg (gg (gg (gg (gg (gg (D) v.a0) v.a1) v.a2) v.a3) v.a4) v.a5) v.a6) v.a7) v.a8) v.a9) v.a10) v.a11 = gV D v := rfl
theorem ev_divT (n : Nat) (v : V12) (D : Int) {k : Nat} [A : BdV v k] (hk : k ≤ 8000) : evF pg (n + 2) i_divisor_of [.tuple [.tuple [.int v.a0, .int v.a1, .int v.a2, .int v.a3, .int v.a4, .int v.a5, .int v.a6, .int v.a7, .int v.a8, .int v.a9, .int v.a10, .int v.a11], .int D]] = .ok (.int (gV D v)) := by
  rw [u_divisor_of]
  unfold b_divisor_of l_divisor_of_1
  simp! [ev_common]
  rw [gV_eq]
theorem ev_divL (n : Nat) (v : V12) (D : Int) {k : Nat} [A : BdV v k] (hk : k ≤ 8000) : evF pg (n + 2) i_divisor_of [.tuple [.list [.int v.a0, .int v.a1, .int v.a2, .int v.a3, .int v.a4, .int v.a5, .int v.a6, .int v.a7, .int v.a8, .int v.a9, .int v.a10, .int v.a11], .int D]] = .ok (.int (gV D v)) := by
  rw [u_divisor_of]
  unfold b_divisor_of l_divisor_of_1
  simp! [ev_common]
  rw [gV_eq]
theorem gV_abs (D : Int) (v : V12) : gV ((D.natAbs : Nat) : Int) v = gV D v := by
  rw [← gV_eq, ← gV_eq, gg_abs]
theorem kV_small {D : Int} {v : V12} {k : Nat} [B : Bd D k] (h : D ≠ 0) : Bd (kV D v) k := ⟨by
  rw [kV_abs]
  exact Nat.lt_of_le_of_lt (gV_le v h) B.h⟩
theorem ev_lcomN (n : Nat) (a b : Int) {k : Nat} [N : Nz a] [B : Bd b k] (hk : k ≤ 200) : evF pg (n + 1) i__law_common [.int a, .int b] = .ok (.int (gg a b)) := by
  rw [ev_lcom n a b hk]
  have := gg_posl (b := b) N.h
  congr 2
  split <;> omega
theorem ev_leastT (n : Nat) (v : V12) (D : Int) {k j : Nat} [A : BdV v k] [B : Bd D j] (h : D ≠ 0) (hk : k ≤ 8000) (hj : j ≤ 8000) : evF pg (n + 3) i_least [.tuple [.int v.a0, .int v.a1, .int v.a2, .int v.a3, .int v.a4, .int v.a5, .int v.a6, .int v.a7, .int v.a8, .int v.a9, .int v.a10, .int v.a11], .int D] = .ok (MD (lowM v D)) := by
  rw [u_least]
  unfold b_least
  have k0 := kV_ne v h
  have kb := kV_small (v := v) h
  have hj2 : j < 9000 := by omega
  unfold lowM
  by_cases c : D < 0
  · have ek : kV D v = -gV D v := if_pos c
    rw [ek] at k0 kb
    simp! [ev_divT, ev_divL, gV_abs, c, ek]
  · have ek : kV D v = gV D v := if_neg c
    rw [ek] at k0 kb
    simp! [ev_divT, ev_divL, gV_abs, c, ek]
theorem ev_lmoveT (n : Nat) (v : V12) (D : Int) {k j : Nat} [A : BdV v k] [B : Bd D j] (h : D ≠ 0) (hk : k ≤ 200) (hj : j ≤ 200) : evF pg (n + 2) i__law_move [.tuple [.int v.a0, .int v.a1, .int v.a2, .int v.a3, .int v.a4, .int v.a5, .int v.a6, .int v.a7, .int v.a8, .int v.a9, .int v.a10, .int v.a11], .int D] = .ok (MD (lowM v D)) := by
  rw [u__law_move]
  unfold b__law_move l__law_move_1
  have k0 := kV_ne v h
  have kb := kV_small (v := v) h
  have hj2 : j < 9000 := by omega
  have hj3 : j + 1 < 1000000 := by omega
  have N : Nz ((D.natAbs : Nat) : Int) := ⟨by omega⟩
  have gb : Bd (gV D v) j := ⟨Nat.lt_of_le_of_lt (gV_le v h) B.h⟩
  unfold lowM
  by_cases c : D < 0
  · have ek : kV D v = gV D v * -1 := (if_pos c).trans (by omega)
    rw [ek] at k0 kb
    simp! [ev_lcomN, gV_eq, gV_abs, c, ek]
  · have ek : kV D v = gV D v * 1 := (if_neg c).trans (by omega)
    rw [ek] at k0 kb
    simp! [ev_lcomN, gV_eq, gV_abs, c, ek]
theorem ev_leastL (n : Nat) (v : V12) (D : Int) {k j : Nat} [A : BdV v k] [B : Bd D j] (h : D ≠ 0) (hk : k ≤ 8000) (hj : j ≤ 8000) : evF pg (n + 3) i_least [.list [.int v.a0, .int v.a1, .int v.a2, .int v.a3, .int v.a4, .int v.a5, .int v.a6, .int v.a7, .int v.a8, .int v.a9, .int v.a10, .int v.a11], .int D] = .ok (MD (lowM v D)) := by
  rw [u_least]
  unfold b_least
  have k0 := kV_ne v h
  have kb := kV_small (v := v) h
  have hj2 : j < 9000 := by omega
  unfold lowM
  by_cases c : D < 0
  · have ek : kV D v = -gV D v := if_pos c
    rw [ek] at k0 kb
    simp! [ev_divT, ev_divL, gV_abs, c, ek]
  · have ek : kV D v = gV D v := if_neg c
    rw [ek] at k0 kb
    simp! [ev_divT, ev_divL, gV_abs, c, ek]
theorem ev_lmoveL (n : Nat) (v : V12) (D : Int) {k j : Nat} [A : BdV v k] [B : Bd D j] (h : D ≠ 0) (hk : k ≤ 200) (hj : j ≤ 200) : evF pg (n + 2) i__law_move [.list [.int v.a0, .int v.a1, .int v.a2, .int v.a3, .int v.a4, .int v.a5, .int v.a6, .int v.a7, .int v.a8, .int v.a9, .int v.a10, .int v.a11], .int D] = .ok (MD (lowM v D)) := by
  rw [u__law_move]
  unfold b__law_move l__law_move_1
  have k0 := kV_ne v h
  have kb := kV_small (v := v) h
  have hj2 : j < 9000 := by omega
  have hj3 : j + 1 < 1000000 := by omega
  have N : Nz ((D.natAbs : Nat) : Int) := ⟨by omega⟩
  have gb : Bd (gV D v) j := ⟨Nat.lt_of_le_of_lt (gV_le v h) B.h⟩
  unfold lowM
  by_cases c : D < 0
  · have ek : kV D v = gV D v * -1 := (if_pos c).trans (by omega)
    rw [ek] at k0 kb
    simp! [ev_lcomN, gV_eq, gV_abs, c, ek]
  · have ek : kV D v = gV D v * 1 := (if_neg c).trans (by omega)
    rw [ek] at k0 kb
    simp! [ev_lcomN, gV_eq, gV_abs, c, ek]
theorem en_0_0 (n : Nat) (m : Mv) : evF pg (n + 1) i_entry [MD m, .int 0, .int 0] = .ok (.int m.v.a0) := rfl
theorem en_0_1 (n : Nat) (m : Mv) : evF pg (n + 1) i_entry [MD m, .int 0, .int 1] = .ok (.int m.v.a1) := rfl
theorem en_0_2 (n : Nat) (m : Mv) : evF pg (n + 1) i_entry [MD m, .int 0, .int 2] = .ok (.int m.v.a2) := rfl
theorem en_0_3 (n : Nat) (m : Mv) : evF pg (n + 1) i_entry [MD m, .int 0, .int 3] = .ok (.int m.v.a3) := rfl
theorem en_1_0 (n : Nat) (m : Mv) : evF pg (n + 1) i_entry [MD m, .int 1, .int 0] = .ok (.int m.v.a4) := rfl
theorem en_1_1 (n : Nat) (m : Mv) : evF pg (n + 1) i_entry [MD m, .int 1, .int 1] = .ok (.int m.v.a5) := rfl
theorem en_1_2 (n : Nat) (m : Mv) : evF pg (n + 1) i_entry [MD m, .int 1, .int 2] = .ok (.int m.v.a6) := rfl
theorem en_1_3 (n : Nat) (m : Mv) : evF pg (n + 1) i_entry [MD m, .int 1, .int 3] = .ok (.int m.v.a7) := rfl
theorem en_2_0 (n : Nat) (m : Mv) : evF pg (n + 1) i_entry [MD m, .int 2, .int 0] = .ok (.int m.v.a8) := rfl
theorem en_2_1 (n : Nat) (m : Mv) : evF pg (n + 1) i_entry [MD m, .int 2, .int 1] = .ok (.int m.v.a9) := rfl
theorem en_2_2 (n : Nat) (m : Mv) : evF pg (n + 1) i_entry [MD m, .int 2, .int 2] = .ok (.int m.v.a10) := rfl
theorem en_2_3 (n : Nat) (m : Mv) : evF pg (n + 1) i_entry [MD m, .int 2, .int 3] = .ok (.int m.v.a11) := rfl
theorem en_3_0 (n : Nat) (m : Mv) : evF pg (n + 1) i_entry [MD m, .int 3, .int 0] = .ok (.int 0) := rfl
theorem en_3_1 (n : Nat) (m : Mv) : evF pg (n + 1) i_entry [MD m, .int 3, .int 1] = .ok (.int 0) := rfl
theorem en_3_2 (n : Nat) (m : Mv) : evF pg (n + 1) i_entry [MD m, .int 3, .int 2] = .ok (.int 0) := rfl
theorem en_3_3 (n : Nat) (m : Mv) : evF pg (n + 1) i_entry [MD m, .int 3, .int 3] = .ok (.int m.d) := rfl
theorem mn_0_0 (n : Nat) (m : Mv) {k : Nat} [A : BdV m.v k] (hk : k ≤ 8000) : evF pg (n + 2) i_minor [MD m, .int 0, .int 0] = .ok (.int (m.v.a5 * m.v.a10 - m.v.a6 * m.v.a9)) := by
  rw [u_minor]
  unfold b_minor
  have h : k + k < 1000000 := by omega
  have q1 : Int.fmod 1 3 = 1 := rfl
  have q2 : Int.fmod 2 3 = 2 := rfl
  have q3 : Int.fmod 1 3 = 1 := rfl
  have q4 : Int.fmod 2 3 = 2 := rfl
  simp! [q1, q2, q3, q4, en_1_1, en_2_2, en_1_2, en_2_1]
theorem mn_0_1 (n : Nat) (m : Mv) {k : Nat} [A : BdV m.v k] (hk : k ≤ 8000) : evF pg (n + 2) i_minor [MD m, .int 0, .int 1] = .ok (.int (m.v.a6 * m.v.a8 - m.v.a4 * m.v.a10)) := by
  rw [u_minor]
  unfold b_minor
  have h : k + k < 1000000 := by omega
  have q1 : Int.fmod 1 3 = 1 := rfl
  have q2 : Int.fmod 2 3 = 2 := rfl
  have q3 : Int.fmod 2 3 = 2 := rfl
  have q4 : Int.fmod 3 3 = 0 := rfl
  simp! [q1, q2, q3, q4, en_1_2, en_2_0, en_1_0, en_2_2]
theorem mn_0_2 (n : Nat) (m : Mv) {k : Nat} [A : BdV m.v k] (hk : k ≤ 8000) : evF pg (n + 2) i_minor [MD m, .int 0, .int 2] = .ok (.int (m.v.a4 * m.v.a9 - m.v.a5 * m.v.a8)) := by
  rw [u_minor]
  unfold b_minor
  have h : k + k < 1000000 := by omega
  have q1 : Int.fmod 1 3 = 1 := rfl
  have q2 : Int.fmod 2 3 = 2 := rfl
  have q3 : Int.fmod 3 3 = 0 := rfl
  have q4 : Int.fmod 4 3 = 1 := rfl
  simp! [q1, q2, q3, q4, en_1_0, en_2_1, en_1_1, en_2_0]
theorem mn_1_0 (n : Nat) (m : Mv) {k : Nat} [A : BdV m.v k] (hk : k ≤ 8000) : evF pg (n + 2) i_minor [MD m, .int 1, .int 0] = .ok (.int (m.v.a9 * m.v.a2 - m.v.a10 * m.v.a1)) := by
  rw [u_minor]
  unfold b_minor
  have h : k + k < 1000000 := by omega
  have q1 : Int.fmod 2 3 = 2 := rfl
  have q2 : Int.fmod 3 3 = 0 := rfl
  have q3 : Int.fmod 1 3 = 1 := rfl
  have q4 : Int.fmod 2 3 = 2 := rfl
  simp! [q1, q2, q3, q4, en_2_1, en_0_2, en_2_2, en_0_1]
theorem mn_1_1 (n : Nat) (m : Mv) {k : Nat} [A : BdV m.v k] (hk : k ≤ 8000) : evF pg (n + 2) i_minor [MD m, .int 1, .int 1] = .ok (.int (m.v.a10 * m.v.a0 - m.v.a8 * m.v.a2)) := by
  rw [u_minor]
  unfold b_minor
  have h : k + k < 1000000 := by omega
  have q1 : Int.fmod 2 3 = 2 := rfl
  have q2 : Int.fmod 3 3 = 0 := rfl
  have q3 : Int.fmod 2 3 = 2 := rfl
  have q4 : Int.fmod 3 3 = 0 := rfl
  simp! [q1, q2, q3, q4, en_2_2, en_0_0, en_2_0, en_0_2]
theorem mn_1_2 (n : Nat) (m : Mv) {k : Nat} [A : BdV m.v k] (hk : k ≤ 8000) : evF pg (n + 2) i_minor [MD m, .int 1, .int 2] = .ok (.int (m.v.a8 * m.v.a1 - m.v.a9 * m.v.a0)) := by
  rw [u_minor]
  unfold b_minor
  have h : k + k < 1000000 := by omega
  have q1 : Int.fmod 2 3 = 2 := rfl
  have q2 : Int.fmod 3 3 = 0 := rfl
  have q3 : Int.fmod 3 3 = 0 := rfl
  have q4 : Int.fmod 4 3 = 1 := rfl
  simp! [q1, q2, q3, q4, en_2_0, en_0_1, en_2_1, en_0_0]
theorem mn_2_0 (n : Nat) (m : Mv) {k : Nat} [A : BdV m.v k] (hk : k ≤ 8000) : evF pg (n + 2) i_minor [MD m, .int 2, .int 0] = .ok (.int (m.v.a1 * m.v.a6 - m.v.a2 * m.v.a5)) := by
  rw [u_minor]
  unfold b_minor
  have h : k + k < 1000000 := by omega
  have q1 : Int.fmod 3 3 = 0 := rfl
  have q2 : Int.fmod 4 3 = 1 := rfl
  have q3 : Int.fmod 1 3 = 1 := rfl
  have q4 : Int.fmod 2 3 = 2 := rfl
  simp! [q1, q2, q3, q4, en_0_1, en_1_2, en_0_2, en_1_1]
theorem mn_2_1 (n : Nat) (m : Mv) {k : Nat} [A : BdV m.v k] (hk : k ≤ 8000) : evF pg (n + 2) i_minor [MD m, .int 2, .int 1] = .ok (.int (m.v.a2 * m.v.a4 - m.v.a0 * m.v.a6)) := by
  rw [u_minor]
  unfold b_minor
  have h : k + k < 1000000 := by omega
  have q1 : Int.fmod 3 3 = 0 := rfl
  have q2 : Int.fmod 4 3 = 1 := rfl
  have q3 : Int.fmod 2 3 = 2 := rfl
  have q4 : Int.fmod 3 3 = 0 := rfl
  simp! [q1, q2, q3, q4, en_0_2, en_1_0, en_0_0, en_1_2]
theorem mn_2_2 (n : Nat) (m : Mv) {k : Nat} [A : BdV m.v k] (hk : k ≤ 8000) : evF pg (n + 2) i_minor [MD m, .int 2, .int 2] = .ok (.int (m.v.a0 * m.v.a5 - m.v.a1 * m.v.a4)) := by
  rw [u_minor]
  unfold b_minor
  have h : k + k < 1000000 := by omega
  have q1 : Int.fmod 3 3 = 0 := rfl
  have q2 : Int.fmod 4 3 = 1 := rfl
  have q3 : Int.fmod 3 3 = 0 := rfl
  have q4 : Int.fmod 4 3 = 1 := rfl
  simp! [q1, q2, q3, q4, en_0_0, en_1_1, en_0_1, en_1_0]
def det (m : Mv) : Int := m.v.a0 * (m.v.a5 * m.v.a10 - m.v.a6 * m.v.a9) + m.v.a1 * (m.v.a6 * m.v.a8 - m.v.a4 * m.v.a10) + m.v.a2 * (m.v.a4 * m.v.a9 - m.v.a5 * m.v.a8)
theorem ev_whole (n : Nat) (m : Mv) {k : Nat} [A : BdV m.v k] (hk : k ≤ 2000) : evF pg (n + 3) i_whole_determinant [MD m] = .ok (.int (det m)) := by
  rw [u_whole_determinant]
  unfold b_whole_determinant
  have h1 : k ≤ 8000 := by omega
  have h : k + (max (k + k) (k + k) + 1) < 1000000 := by omega
  simp! [en_0_0, en_0_1, en_0_2, mn_0_0, mn_0_1, mn_0_2]
  congr 2
  unfold det
  omega
instance det_bd (m : Mv) {k : Nat} [A : BdV m.v k] : Bd (det m) (3 * k + 3) := by
  unfold det
  have : Bd (m.v.a0 * (m.v.a5 * m.v.a10 - m.v.a6 * m.v.a9) + m.v.a1 * (m.v.a6 * m.v.a8 - m.v.a4 * m.v.a10) + m.v.a2 * (m.v.a4 * m.v.a9 - m.v.a5 * m.v.a8)) _ := inferInstance
  exact this.up (by omega)
structure IsM (m : Mv) (k : Nat) : Prop where
  ok : Ok m
  b : BdV m.v k
  d : Bd m.d k
theorem ev_ism (n : Nat) {m : Mv} {k : Nat} (h : IsM m k) (hk : k ≤ 2000) : evF pg (n + 3) i_is_move [MD m] = .ok (.bool true) := by
  rw [u_is_move]
  unfold b_is_move
  have A := h.b
  have h1 : k ≤ 8000 := by omega
  have g : List.lookup ("SIZE" : Str) pg.G = some (.int 12) := rfl
  have h2 := h.ok.d
  have h3 := h.ok.g
  simp! [g, ev_divT, h2, h3]
  rfl
theorem ev_chk (n : Nat) {m : Mv} {k : Nat} (h : IsM m k) (hk : k ≤ 2000) (i : Int) : evF pg (n + 4) i_check_move [MD m, .int i] = .ok .none := by
  rw [u_check_move]
  unfold b_check_move
  simp! [ev_ism n h hk]
theorem ev_det (n : Nat) {m : Mv} {k : Nat} (h : IsM m k) (hk : k ≤ 2000) : evF pg (n + 5) i_determinant [MD m] = .ok (QD ((det m : Rat) / ((m.d * m.d * m.d : Int) : Rat))) := by
  rw [u_determinant]
  unfold b_determinant
  have A := h.b
  have B := h.d
  have h1 : k + k + k ≤ 8000 := by omega
  have h2 : k + k < 1000000 := by omega
  have h3 : k + k + k < 1000000 := by omega
  have d0 : m.d ≠ 0 := by have := h.ok.d; omega
  have d1 : m.d * m.d * m.d ≠ 0 := Int.mul_ne_zero (Int.mul_ne_zero d0 d0) d0
  simp! [ev_chk n h hk, ev_whole, ev_plain]
def joinV (a b : Mv) : V12 := ⟨b.v.a0 * a.v.a0 + b.v.a1 * a.v.a4 + b.v.a2 * a.v.a8, b.v.a0 * a.v.a1 + b.v.a1 * a.v.a5 + b.v.a2 * a.v.a9, b.v.a0 * a.v.a2 + b.v.a1 * a.v.a6 + b.v.a2 * a.v.a10, b.v.a0 * a.v.a3 + b.v.a1 * a.v.a7 + b.v.a2 * a.v.a11 + b.v.a3 * a.d, b.v.a4 * a.v.a0 + b.v.a5 * a.v.a4 + b.v.a6 * a.v.a8, b.v.a4 * a.v.a1 + b.v.a5 * a.v.a5 + b.v.a6 * a.v.a9, b.v.a4 * a.v.a2 + b.v.a5 * a.v.a6 + b.v.a6 * a.v.a10, b.v.a4 * a.v.a3 + b.v.a5 * a.v.a7 + b.v.a6 * a.v.a11 + b.v.a7 * a.d, b.v.a8 * a.v.a0 + b.v.a9 * a.v.a4 + b.v.a10 * a.v.a8, b.v.a8 * a.v.a1 + b.v.a9 * a.v.a5 + b.v.a10 * a.v.a9, b.v.a8 * a.v.a2 + b.v.a9 * a.v.a6 + b.v.a10 * a.v.a10, b.v.a8 * a.v.a3 + b.v.a9 * a.v.a7 + b.v.a10 * a.v.a11 + b.v.a11 * a.d⟩
def joinM (a b : Mv) : Mv := lowM (joinV a b) (a.d * b.d)
instance joinV_bd (a b : Mv) {i j : Nat} [A : BdV a.v i] [A2 : Bd a.d i] [B : BdV b.v j] : BdV (joinV a b) (i + j + 3) := by
  have key : ∀ {x : Int} {k : Nat}, Bd x k → k ≤ i + j + 3 → x.natAbs < 2 ^ (i + j + 3) := fun B h => (B.up h).h
  unfold joinV
  exact ⟨key inferInstance (by omega), key inferInstance (by omega), key inferInstance (by omega), key inferInstance (by omega), key inferInstance (by omega), key inferInstance (by omega), key inferInstance (by omega), key inferInstance (by omega), key inferInstance (by omega), key inferInstance (by omega), key inferInstance (by omega), key inferInstance (by omega)⟩
theorem app_at {S : Sig} {i : Nat} {e : E} {W : List Nat} {ρ : Fe.Env} {ds : List PD} {x : PD} (hv : evE S e ρ = .ok x) (he : Fe.dl W (esc e) = W) (hi : i ∈ W) (hr : ρ[i]? = some (some (.list ds))) (hl : ds.length < 16000000) : evS S (.app i e) (W, ρ) = .nx (W, ρ.set i (some (.list (ds ++ [x])))) := by
  rw [evS]
  dsimp only
  rw [hr, he]
  dsimp only
  rw [hv, if_pos (by simpa using hi), sok, if_pos (sl_ok hl)]
section
variable (n : Nat) {a b : Mv} {i j : Nat} (ha : IsM a i) (hb : IsM b j) (hi : i ≤ 1000) (hj : j ≤ 1000)
include ha hb hi hj
theorem jo_0_0 (L : List PD) (y : Option PD) (hl : L.length < 100) : evSs (sgOf pg (n + 4)) l_joined_1 ([2], [some (MD a), some (MD b), some (.list L), some (.int 0), some (.int 0), y]) = .nx ([2], [some (MD a), some (MD b), some (.list (L ++ [.int (b.v.a0 * a.v.a0 + b.v.a1 * a.v.a4 + b.v.a2 * a.v.a8)])), some (.int 0), some (.int 0), y]) := by
  have A := ha.b
  have A2 := ha.d
  have B := hb.b
  have h1 : j + i < 1000000 := by omega
  have h4 : j + 1 < 1000000 := by omega
  unfold l_joined_1
  refine seq1 (app_at (x := .int (b.v.a0 * a.v.a0 + b.v.a1 * a.v.a4 + b.v.a2 * a.v.a8)) ?_ rfl (by simp) rfl (by omega)) rfl
  · simp! [en_0_0, en_0_1, en_0_2, en_0_3, en_0_0, en_1_0, en_2_0, en_3_0]
    congr 2
    omega
theorem jo_0_1 (L : List PD) (y : Option PD) (hl : L.length < 100) : evSs (sgOf pg (n + 4)) l_joined_1 ([2], [some (MD a), some (MD b), some (.list L), some (.int 0), some (.int 1), y]) = .nx ([2], [some (MD a), some (MD b), some (.list (L ++ [.int (b.v.a0 * a.v.a1 + b.v.a1 * a.v.a5 + b.v.a2 * a.v.a9)])), some (.int 0), some (.int 1), y]) := by
  have A := ha.b
  have A2 := ha.d
  have B := hb.b
  have h1 : j + i < 1000000 := by omega
  have h4 : j + 1 < 1000000 := by omega
  unfold l_joined_1
  refine seq1 (app_at (x := .int (b.v.a0 * a.v.a1 + b.v.a1 * a.v.a5 + b.v.a2 * a.v.a9)) ?_ rfl (by simp) rfl (by omega)) rfl
  · simp! [en_0_0, en_0_1, en_0_2, en_0_3, en_0_1, en_1_1, en_2_1, en_3_1]
    congr 2
    omega
theorem jo_0_2 (L : List PD) (y : Option PD) (hl : L.length < 100) : evSs (sgOf pg (n + 4)) l_joined_1 ([2], [some (MD a), some (MD b), some (.list L), some (.int 0), some (.int 2), y]) = .nx ([2], [some (MD a), some (MD b), some (.list (L ++ [.int (b.v.a0 * a.v.a2 + b.v.a1 * a.v.a6 + b.v.a2 * a.v.a10)])), some (.int 0), some (.int 2), y]) := by
  have A := ha.b
  have A2 := ha.d
  have B := hb.b
  have h1 : j + i < 1000000 := by omega
  have h4 : j + 1 < 1000000 := by omega
  unfold l_joined_1
  refine seq1 (app_at (x := .int (b.v.a0 * a.v.a2 + b.v.a1 * a.v.a6 + b.v.a2 * a.v.a10)) ?_ rfl (by simp) rfl (by omega)) rfl
  · simp! [en_0_0, en_0_1, en_0_2, en_0_3, en_0_2, en_1_2, en_2_2, en_3_2]
    congr 2
    omega
theorem jo_0_3 (L : List PD) (y : Option PD) (hl : L.length < 100) : evSs (sgOf pg (n + 4)) l_joined_1 ([2], [some (MD a), some (MD b), some (.list L), some (.int 0), some (.int 3), y]) = .nx ([2], [some (MD a), some (MD b), some (.list (L ++ [.int (b.v.a0 * a.v.a3 + b.v.a1 * a.v.a7 + b.v.a2 * a.v.a11 + b.v.a3 * a.d)])), some (.int 0), some (.int 3), y]) := by
  have A := ha.b
  have A2 := ha.d
  have B := hb.b
  have h1 : j + i < 1000000 := by omega
  have h4 : j + 1 < 1000000 := by omega
  unfold l_joined_1
  refine seq1 (app_at (x := .int (b.v.a0 * a.v.a3 + b.v.a1 * a.v.a7 + b.v.a2 * a.v.a11 + b.v.a3 * a.d)) ?_ rfl (by simp) rfl (by omega)) rfl
  · simp! [en_0_0, en_0_1, en_0_2, en_0_3, en_0_3, en_1_3, en_2_3, en_3_3]
    congr 2
    omega
theorem jo_1_0 (L : List PD) (y : Option PD) (hl : L.length < 100) : evSs (sgOf pg (n + 4)) l_joined_1 ([2], [some (MD a), some (MD b), some (.list L), some (.int 1), some (.int 0), y]) = .nx ([2], [some (MD a), some (MD b), some (.list (L ++ [.int (b.v.a4 * a.v.a0 + b.v.a5 * a.v.a4 + b.v.a6 * a.v.a8)])), some (.int 1), some (.int 0), y]) := by
  have A := ha.b
  have A2 := ha.d
  have B := hb.b
  have h1 : j + i < 1000000 := by omega
  have h4 : j + 1 < 1000000 := by omega
  unfold l_joined_1
  refine seq1 (app_at (x := .int (b.v.a4 * a.v.a0 + b.v.a5 * a.v.a4 + b.v.a6 * a.v.a8)) ?_ rfl (by simp) rfl (by omega)) rfl
  · simp! [en_1_0, en_1_1, en_1_2, en_1_3, en_0_0, en_1_0, en_2_0, en_3_0]
    congr 2
    omega
theorem jo_1_1 (L : List PD) (y : Option PD) (hl : L.length < 100) : evSs (sgOf pg (n + 4)) l_joined_1 ([2], [some (MD a), some (MD b), some (.list L), some (.int 1), some (.int 1), y]) = .nx ([2], [some (MD a), some (MD b), some (.list (L ++ [.int (b.v.a4 * a.v.a1 + b.v.a5 * a.v.a5 + b.v.a6 * a.v.a9)])), some (.int 1), some (.int 1), y]) := by
  have A := ha.b
  have A2 := ha.d
  have B := hb.b
  have h1 : j + i < 1000000 := by omega
  have h4 : j + 1 < 1000000 := by omega
  unfold l_joined_1
  refine seq1 (app_at (x := .int (b.v.a4 * a.v.a1 + b.v.a5 * a.v.a5 + b.v.a6 * a.v.a9)) ?_ rfl (by simp) rfl (by omega)) rfl
  · simp! [en_1_0, en_1_1, en_1_2, en_1_3, en_0_1, en_1_1, en_2_1, en_3_1]
    congr 2
    omega
theorem jo_1_2 (L : List PD) (y : Option PD) (hl : L.length < 100) : evSs (sgOf pg (n + 4)) l_joined_1 ([2], [some (MD a), some (MD b), some (.list L), some (.int 1), some (.int 2), y]) = .nx ([2], [some (MD a), some (MD b), some (.list (L ++ [.int (b.v.a4 * a.v.a2 + b.v.a5 * a.v.a6 + b.v.a6 * a.v.a10)])), some (.int 1), some (.int 2), y]) := by
  have A := ha.b
  have A2 := ha.d
  have B := hb.b
  have h1 : j + i < 1000000 := by omega
  have h4 : j + 1 < 1000000 := by omega
  unfold l_joined_1
  refine seq1 (app_at (x := .int (b.v.a4 * a.v.a2 + b.v.a5 * a.v.a6 + b.v.a6 * a.v.a10)) ?_ rfl (by simp) rfl (by omega)) rfl
  · simp! [en_1_0, en_1_1, en_1_2, en_1_3, en_0_2, en_1_2, en_2_2, en_3_2]
    congr 2
    omega
theorem jo_1_3 (L : List PD) (y : Option PD) (hl : L.length < 100) : evSs (sgOf pg (n + 4)) l_joined_1 ([2], [some (MD a), some (MD b), some (.list L), some (.int 1), some (.int 3), y]) = .nx ([2], [some (MD a), some (MD b), some (.list (L ++ [.int (b.v.a4 * a.v.a3 + b.v.a5 * a.v.a7 + b.v.a6 * a.v.a11 + b.v.a7 * a.d)])), some (.int 1), some (.int 3), y]) := by
  have A := ha.b
  have A2 := ha.d
  have B := hb.b
  have h1 : j + i < 1000000 := by omega
  have h4 : j + 1 < 1000000 := by omega
  unfold l_joined_1
  refine seq1 (app_at (x := .int (b.v.a4 * a.v.a3 + b.v.a5 * a.v.a7 + b.v.a6 * a.v.a11 + b.v.a7 * a.d)) ?_ rfl (by simp) rfl (by omega)) rfl
  · simp! [en_1_0, en_1_1, en_1_2, en_1_3, en_0_3, en_1_3, en_2_3, en_3_3]
    congr 2
    omega
theorem jo_2_0 (L : List PD) (y : Option PD) (hl : L.length < 100) : evSs (sgOf pg (n + 4)) l_joined_1 ([2], [some (MD a), some (MD b), some (.list L), some (.int 2), some (.int 0), y]) = .nx ([2], [some (MD a), some (MD b), some (.list (L ++ [.int (b.v.a8 * a.v.a0 + b.v.a9 * a.v.a4 + b.v.a10 * a.v.a8)])), some (.int 2), some (.int 0), y]) := by
  have A := ha.b
  have A2 := ha.d
  have B := hb.b
  have h1 : j + i < 1000000 := by omega
  have h4 : j + 1 < 1000000 := by omega
  unfold l_joined_1
  refine seq1 (app_at (x := .int (b.v.a8 * a.v.a0 + b.v.a9 * a.v.a4 + b.v.a10 * a.v.a8)) ?_ rfl (by simp) rfl (by omega)) rfl
  · simp! [en_2_0, en_2_1, en_2_2, en_2_3, en_0_0, en_1_0, en_2_0, en_3_0]
    congr 2
    omega
theorem jo_2_1 (L : List PD) (y : Option PD) (hl : L.length < 100) : evSs (sgOf pg (n + 4)) l_joined_1 ([2], [some (MD a), some (MD b), some (.list L), some (.int 2), some (.int 1), y]) = .nx ([2], [some (MD a), some (MD b), some (.list (L ++ [.int (b.v.a8 * a.v.a1 + b.v.a9 * a.v.a5 + b.v.a10 * a.v.a9)])), some (.int 2), some (.int 1), y]) := by
  have A := ha.b
  have A2 := ha.d
  have B := hb.b
  have h1 : j + i < 1000000 := by omega
  have h4 : j + 1 < 1000000 := by omega
  unfold l_joined_1
  refine seq1 (app_at (x := .int (b.v.a8 * a.v.a1 + b.v.a9 * a.v.a5 + b.v.a10 * a.v.a9)) ?_ rfl (by simp) rfl (by omega)) rfl
  · simp! [en_2_0, en_2_1, en_2_2, en_2_3, en_0_1, en_1_1, en_2_1, en_3_1]
    congr 2
    omega
theorem jo_2_2 (L : List PD) (y : Option PD) (hl : L.length < 100) : evSs (sgOf pg (n + 4)) l_joined_1 ([2], [some (MD a), some (MD b), some (.list L), some (.int 2), some (.int 2), y]) = .nx ([2], [some (MD a), some (MD b), some (.list (L ++ [.int (b.v.a8 * a.v.a2 + b.v.a9 * a.v.a6 + b.v.a10 * a.v.a10)])), some (.int 2), some (.int 2), y]) := by
  have A := ha.b
  have A2 := ha.d
  have B := hb.b
  have h1 : j + i < 1000000 := by omega
  have h4 : j + 1 < 1000000 := by omega
  unfold l_joined_1
  refine seq1 (app_at (x := .int (b.v.a8 * a.v.a2 + b.v.a9 * a.v.a6 + b.v.a10 * a.v.a10)) ?_ rfl (by simp) rfl (by omega)) rfl
  · simp! [en_2_0, en_2_1, en_2_2, en_2_3, en_0_2, en_1_2, en_2_2, en_3_2]
    congr 2
    omega
theorem jo_2_3 (L : List PD) (y : Option PD) (hl : L.length < 100) : evSs (sgOf pg (n + 4)) l_joined_1 ([2], [some (MD a), some (MD b), some (.list L), some (.int 2), some (.int 3), y]) = .nx ([2], [some (MD a), some (MD b), some (.list (L ++ [.int (b.v.a8 * a.v.a3 + b.v.a9 * a.v.a7 + b.v.a10 * a.v.a11 + b.v.a11 * a.d)])), some (.int 2), some (.int 3), y]) := by
  have A := ha.b
  have A2 := ha.d
  have B := hb.b
  have h1 : j + i < 1000000 := by omega
  have h4 : j + 1 < 1000000 := by omega
  unfold l_joined_1
  refine seq1 (app_at (x := .int (b.v.a8 * a.v.a3 + b.v.a9 * a.v.a7 + b.v.a10 * a.v.a11 + b.v.a11 * a.d)) ?_ rfl (by simp) rfl (by omega)) rfl
  · simp! [en_2_0, en_2_1, en_2_2, en_2_3, en_0_3, en_1_3, en_2_3, en_3_3]
    congr 2
    omega
theorem jr_0 (L : List PD) (x y : Option PD) (hl : L.length < 90) : ∃ x' y', evSs (sgOf pg (n + 4)) l_joined_2 ([2], [some (MD a), some (MD b), some (.list L), some (.int 0), x, y]) = .nx ([2], [some (MD a), some (MD b), some (.list (L ++ [.int (b.v.a0 * a.v.a0 + b.v.a1 * a.v.a4 + b.v.a2 * a.v.a8), .int (b.v.a0 * a.v.a1 + b.v.a1 * a.v.a5 + b.v.a2 * a.v.a9), .int (b.v.a0 * a.v.a2 + b.v.a1 * a.v.a6 + b.v.a2 * a.v.a10), .int (b.v.a0 * a.v.a3 + b.v.a1 * a.v.a7 + b.v.a2 * a.v.a11 + b.v.a3 * a.d)])), some (.int 0), x', y']) := by
  unfold l_joined_2
  refine ⟨some (.int 3), y, ?_⟩
  have e1 := jo_0_0 n ha hb hi hj L y (by omega)
  have e2 := jo_0_1 n ha hb hi hj (L ++ [.int (b.v.a0 * a.v.a0 + b.v.a1 * a.v.a4 + b.v.a2 * a.v.a8)]) y (by simp; omega)
  have e3 := jo_0_2 n ha hb hi hj (L ++ [.int (b.v.a0 * a.v.a0 + b.v.a1 * a.v.a4 + b.v.a2 * a.v.a8), .int (b.v.a0 * a.v.a1 + b.v.a1 * a.v.a5 + b.v.a2 * a.v.a9)]) y (by simp; omega)
  have e4 := jo_0_3 n ha hb hi hj (L ++ [.int (b.v.a0 * a.v.a0 + b.v.a1 * a.v.a4 + b.v.a2 * a.v.a8), .int (b.v.a0 * a.v.a1 + b.v.a1 * a.v.a5 + b.v.a2 * a.v.a9), .int (b.v.a0 * a.v.a2 + b.v.a1 * a.v.a6 + b.v.a2 * a.v.a10)]) y (by simp; omega)
  simp only [List.append_assoc, List.cons_append, List.nil_append] at e2 e3 e4
  have r4 : evIt (sgOf pg (n + 4)) (.r1 (.int 4)) [some (MD a), some (MD b), some (.list L), some (.int 0), x, y] = .ok [.int 0, .int 1, .int 2, .int 3] := rfl
  rw [evSs, evS, r4, sok]
  simp only [forGo, tgSet, List.set_cons_succ, List.set_cons_zero, escItM, escM, esc, show Fe.dl [2] [] = [2] from rfl, e1, e2, e3, e4, evSs]
theorem jr_1 (L : List PD) (x y : Option PD) (hl : L.length < 90) : ∃ x' y', evSs (sgOf pg (n + 4)) l_joined_2 ([2], [some (MD a), some (MD b), some (.list L), some (.int 1), x, y]) = .nx ([2], [some (MD a), some (MD b), some (.list (L ++ [.int (b.v.a4 * a.v.a0 + b.v.a5 * a.v.a4 + b.v.a6 * a.v.a8), .int (b.v.a4 * a.v.a1 + b.v.a5 * a.v.a5 + b.v.a6 * a.v.a9), .int (b.v.a4 * a.v.a2 + b.v.a5 * a.v.a6 + b.v.a6 * a.v.a10), .int (b.v.a4 * a.v.a3 + b.v.a5 * a.v.a7 + b.v.a6 * a.v.a11 + b.v.a7 * a.d)])), some (.int 1), x', y']) := by
  unfold l_joined_2
  refine ⟨some (.int 3), y, ?_⟩
  have e1 := jo_1_0 n ha hb hi hj L y (by omega)
  have e2 := jo_1_1 n ha hb hi hj (L ++ [.int (b.v.a4 * a.v.a0 + b.v.a5 * a.v.a4 + b.v.a6 * a.v.a8)]) y (by simp; omega)
  have e3 := jo_1_2 n ha hb hi hj (L ++ [.int (b.v.a4 * a.v.a0 + b.v.a5 * a.v.a4 + b.v.a6 * a.v.a8), .int (b.v.a4 * a.v.a1 + b.v.a5 * a.v.a5 + b.v.a6 * a.v.a9)]) y (by simp; omega)
  have e4 := jo_1_3 n ha hb hi hj (L ++ [.int (b.v.a4 * a.v.a0 + b.v.a5 * a.v.a4 + b.v.a6 * a.v.a8), .int (b.v.a4 * a.v.a1 + b.v.a5 * a.v.a5 + b.v.a6 * a.v.a9), .int (b.v.a4 * a.v.a2 + b.v.a5 * a.v.a6 + b.v.a6 * a.v.a10)]) y (by simp; omega)
  simp only [List.append_assoc, List.cons_append, List.nil_append] at e2 e3 e4
  have r4 : evIt (sgOf pg (n + 4)) (.r1 (.int 4)) [some (MD a), some (MD b), some (.list L), some (.int 1), x, y] = .ok [.int 0, .int 1, .int 2, .int 3] := rfl
  rw [evSs, evS, r4, sok]
  simp only [forGo, tgSet, List.set_cons_succ, List.set_cons_zero, escItM, escM, esc, show Fe.dl [2] [] = [2] from rfl, e1, e2, e3, e4, evSs]
theorem jr_2 (L : List PD) (x y : Option PD) (hl : L.length < 90) : ∃ x' y', evSs (sgOf pg (n + 4)) l_joined_2 ([2], [some (MD a), some (MD b), some (.list L), some (.int 2), x, y]) = .nx ([2], [some (MD a), some (MD b), some (.list (L ++ [.int (b.v.a8 * a.v.a0 + b.v.a9 * a.v.a4 + b.v.a10 * a.v.a8), .int (b.v.a8 * a.v.a1 + b.v.a9 * a.v.a5 + b.v.a10 * a.v.a9), .int (b.v.a8 * a.v.a2 + b.v.a9 * a.v.a6 + b.v.a10 * a.v.a10), .int (b.v.a8 * a.v.a3 + b.v.a9 * a.v.a7 + b.v.a10 * a.v.a11 + b.v.a11 * a.d)])), some (.int 2), x', y']) := by
  unfold l_joined_2
  refine ⟨some (.int 3), y, ?_⟩
  have e1 := jo_2_0 n ha hb hi hj L y (by omega)
  have e2 := jo_2_1 n ha hb hi hj (L ++ [.int (b.v.a8 * a.v.a0 + b.v.a9 * a.v.a4 + b.v.a10 * a.v.a8)]) y (by simp; omega)
  have e3 := jo_2_2 n ha hb hi hj (L ++ [.int (b.v.a8 * a.v.a0 + b.v.a9 * a.v.a4 + b.v.a10 * a.v.a8), .int (b.v.a8 * a.v.a1 + b.v.a9 * a.v.a5 + b.v.a10 * a.v.a9)]) y (by simp; omega)
  have e4 := jo_2_3 n ha hb hi hj (L ++ [.int (b.v.a8 * a.v.a0 + b.v.a9 * a.v.a4 + b.v.a10 * a.v.a8), .int (b.v.a8 * a.v.a1 + b.v.a9 * a.v.a5 + b.v.a10 * a.v.a9), .int (b.v.a8 * a.v.a2 + b.v.a9 * a.v.a6 + b.v.a10 * a.v.a10)]) y (by simp; omega)
  simp only [List.append_assoc, List.cons_append, List.nil_append] at e2 e3 e4
  have r4 : evIt (sgOf pg (n + 4)) (.r1 (.int 4)) [some (MD a), some (MD b), some (.list L), some (.int 2), x, y] = .ok [.int 0, .int 1, .int 2, .int 3] := rfl
  rw [evSs, evS, r4, sok]
  simp only [forGo, tgSet, List.set_cons_succ, List.set_cons_zero, escItM, escM, esc, show Fe.dl [2] [] = [2] from rfl, e1, e2, e3, e4, evSs]
theorem ev_joined : evF pg (n + 5) i_joined [MD a, MD b] = .ok (MD (joinM a b)) := by
  rw [u_joined]
  unfold b_joined
  have A := ha.b
  have A2 := ha.d
  have B := hb.b
  have B2 := hb.d
  have h2 : i + j < 1000000 := by omega
  have d0 : a.d ≠ 0 := by have := ha.ok.d; omega
  have e0 : b.d ≠ 0 := by have := hb.ok.d; omega
  have d1 : a.d * b.d ≠ 0 := Int.mul_ne_zero d0 e0
  have l := ev_leastL (n + 1) (joinV a b) (a.d * b.d) d1 (by omega) (by omega)
  obtain ⟨x1, y1, r1⟩ := jr_0 n ha hb hi hj [] none none (by simp)
  obtain ⟨x2, y2, r2⟩ := jr_1 n ha hb hi hj [.int (b.v.a0 * a.v.a0 + b.v.a1 * a.v.a4 + b.v.a2 * a.v.a8), .int (b.v.a0 * a.v.a1 + b.v.a1 * a.v.a5 + b.v.a2 * a.v.a9), .int (b.v.a0 * a.v.a2 + b.v.a1 * a.v.a6 + b.v.a2 * a.v.a10), .int (b.v.a0 * a.v.a3 + b.v.a1 * a.v.a7 + b.v.a2 * a.v.a11 + b.v.a3 * a.d)] x1 y1 (by simp)
  obtain ⟨x3, y3, r3⟩ := jr_2 n ha hb hi hj [.int (b.v.a0 * a.v.a0 + b.v.a1 * a.v.a4 + b.v.a2 * a.v.a8), .int (b.v.a0 * a.v.a1 + b.v.a1 * a.v.a5 + b.v.a2 * a.v.a9), .int (b.v.a0 * a.v.a2 + b.v.a1 * a.v.a6 + b.v.a2 * a.v.a10), .int (b.v.a0 * a.v.a3 + b.v.a1 * a.v.a7 + b.v.a2 * a.v.a11 + b.v.a3 * a.d), .int (b.v.a4 * a.v.a0 + b.v.a5 * a.v.a4 + b.v.a6 * a.v.a8), .int (b.v.a4 * a.v.a1 + b.v.a5 * a.v.a5 + b.v.a6 * a.v.a9), .int (b.v.a4 * a.v.a2 + b.v.a5 * a.v.a6 + b.v.a6 * a.v.a10), .int (b.v.a4 * a.v.a3 + b.v.a5 * a.v.a7 + b.v.a6 * a.v.a11 + b.v.a7 * a.d)] x2 y2 (by simp)
  simp only [List.append_assoc, List.cons_append, List.nil_append] at r1 r2 r3
  refine congrArg fin (seq1 (s' := ([], [some (MD a), some (MD b), none, none, none, none])) ?_ (seq1 (s' := ([], [some (MD a), some (MD b), none, none, none, none])) ?_ (seq1 (s' := ([2], [some (MD a), some (MD b), some (.list []), none, none, none])) rfl (seq1 (s' := ([2], [some (MD a), some (MD b), some (.list (joinV a b).l), some (.int 2), x3, y3])) ?_ (seqR (d := MD (joinM a b)) ?_)))))
  · simp! [ev_chk n ha (by omega)]
  · simp! [ev_chk n hb (by omega)]
  · have r4 : evIt (sgOf pg (n + 4)) (.r1 (.int 3)) [some (MD a), some (MD b), some (.list []), none, none, none] = .ok [.int 0, .int 1, .int 2] := rfl
    rw [evS, r4, sok]
    simp only [forGo, tgSet, List.set_cons_succ, List.set_cons_zero, escItM, escM, esc, show Fe.dl [2] [] = [2] from rfl, r1, r2, r3]
    rfl
  · simp! [l]
    rfl
end
end k01
set_option Elab.async false
set_option linter.all false
set_option maxRecDepth 100000
set_option maxHeartbeats 4000000
namespace k01
open PySem PySem.Spec PyProof.Rows L2 Fe
section
variable (n : Nat) {a b : Mv} {i j : Nat} (ha : IsM a i) (hb : IsM b j) (hi : i ≤ 60) (hj : j ≤ 60)
include ha hb hi hj
theorem lo_0_0 (L : List PD) (y : Option PD) (hl : L.length < 100) : evSs (sgOf pg n) l__law_joined_1 ([6], [some (MD a), some (MD b), some (.tuple [.int a.v.a0, .int a.v.a1, .int a.v.a2, .int a.v.a3, .int a.v.a4, .int a.v.a5, .int a.v.a6, .int a.v.a7, .int a.v.a8, .int a.v.a9, .int a.v.a10, .int a.v.a11]), some (.int a.d), some (.tuple [.int b.v.a0, .int b.v.a1, .int b.v.a2, .int b.v.a3, .int b.v.a4, .int b.v.a5, .int b.v.a6, .int b.v.a7, .int b.v.a8, .int b.v.a9, .int b.v.a10, .int b.v.a11]), some (.int b.d), some (.list L), some (.int 0), some (.int 0), y]) = .nx ([6], [some (MD a), some (MD b), some (.tuple [.int a.v.a0, .int a.v.a1, .int a.v.a2, .int a.v.a3, .int a.v.a4, .int a.v.a5, .int a.v.a6, .int a.v.a7, .int a.v.a8, .int a.v.a9, .int a.v.a10, .int a.v.a11]), some (.int a.d), some (.tuple [.int b.v.a0, .int b.v.a1, .int b.v.a2, .int b.v.a3, .int b.v.a4, .int b.v.a5, .int b.v.a6, .int b.v.a7, .int b.v.a8, .int b.v.a9, .int b.v.a10, .int b.v.a11]), some (.int b.d), some (.list (L ++ [.int (b.v.a0 * a.v.a0 + b.v.a1 * a.v.a4 + b.v.a2 * a.v.a8)])), some (.int 0), some (.int 0), y]) := by
  have A := ha.b
  have A2 := ha.d
  have B := hb.b
  have h1 : j + i < 1000000 := by omega
  have h4 : j + i + 1 < 1000000 := by omega
  unfold l__law_joined_1
  refine seq1 (app_at (x := .int (b.v.a0 * a.v.a0 + b.v.a1 * a.v.a4 + b.v.a2 * a.v.a8)) ?_ rfl (by simp) rfl (by omega)) rfl
  · simp! []
    congr 2
    omega
theorem lo_0_1 (L : List PD) (y : Option PD) (hl : L.length < 100) : evSs (sgOf pg n) l__law_joined_1 ([6], [some (MD a), some (MD b), some (.tuple [.int a.v.a0, .int a.v.a1, .int a.v.a2, .int a.v.a3, .int a.v.a4, .int a.v.a5, .int a.v.a6, .int a.v.a7, .int a.v.a8, .int a.v.a9, .int a.v.a10, .int a.v.a11]), some (.int a.d), some (.tuple [.int b.v.a0, .int b.v.a1, .int b.v.a2, .int b.v.a3, .int b.v.a4, .int b.v.a5, .int b.v.a6, .int b.v.a7, .int b.v.a8, .int b.v.a9, .int b.v.a10, .int b.v.a11]), some (.int b.d), some (.list L), some (.int 0), some (.int 1), y]) = .nx ([6], [some (MD a), some (MD b), some (.tuple [.int a.v.a0, .int a.v.a1, .int a.v.a2, .int a.v.a3, .int a.v.a4, .int a.v.a5, .int a.v.a6, .int a.v.a7, .int a.v.a8, .int a.v.a9, .int a.v.a10, .int a.v.a11]), some (.int a.d), some (.tuple [.int b.v.a0, .int b.v.a1, .int b.v.a2, .int b.v.a3, .int b.v.a4, .int b.v.a5, .int b.v.a6, .int b.v.a7, .int b.v.a8, .int b.v.a9, .int b.v.a10, .int b.v.a11]), some (.int b.d), some (.list (L ++ [.int (b.v.a0 * a.v.a1 + b.v.a1 * a.v.a5 + b.v.a2 * a.v.a9)])), some (.int 0), some (.int 1), y]) := by
  have A := ha.b
  have A2 := ha.d
  have B := hb.b
  have h1 : j + i < 1000000 := by omega
  have h4 : j + i + 1 < 1000000 := by omega
  unfold l__law_joined_1
  refine seq1 (app_at (x := .int (b.v.a0 * a.v.a1 + b.v.a1 * a.v.a5 + b.v.a2 * a.v.a9)) ?_ rfl (by simp) rfl (by omega)) rfl
  · simp! []
    congr 2
    omega
theorem lo_0_2 (L : List PD) (y : Option PD) (hl : L.length < 100) : evSs (sgOf pg n) l__law_joined_1 ([6], [some (MD a), some (MD b), some (.tuple [.int a.v.a0, .int a.v.a1, .int a.v.a2, .int a.v.a3, .int a.v.a4, .int a.v.a5, .int a.v.a6, .int a.v.a7, .int a.v.a8, .int a.v.a9, .int a.v.a10, .int a.v.a11]), some (.int a.d), some (.tuple [.int b.v.a0, .int b.v.a1, .int b.v.a2, .int b.v.a3, .int b.v.a4, .int b.v.a5, .int b.v.a6, .int b.v.a7, .int b.v.a8, .int b.v.a9, .int b.v.a10, .int b.v.a11]), some (.int b.d), some (.list L), some (.int 0), some (.int 2), y]) = .nx ([6], [some (MD a), some (MD b), some (.tuple [.int a.v.a0, .int a.v.a1, .int a.v.a2, .int a.v.a3, .int a.v.a4, .int a.v.a5, .int a.v.a6, .int a.v.a7, .int a.v.a8, .int a.v.a9, .int a.v.a10, .int a.v.a11]), some (.int a.d), some (.tuple [.int b.v.a0, .int b.v.a1, .int b.v.a2, .int b.v.a3, .int b.v.a4, .int b.v.a5, .int b.v.a6, .int b.v.a7, .int b.v.a8, .int b.v.a9, .int b.v.a10, .int b.v.a11]), some (.int b.d), some (.list (L ++ [.int (b.v.a0 * a.v.a2 + b.v.a1 * a.v.a6 + b.v.a2 * a.v.a10)])), some (.int 0), some (.int 2), y]) := by
  have A := ha.b
  have A2 := ha.d
  have B := hb.b
  have h1 : j + i < 1000000 := by omega
  have h4 : j + i + 1 < 1000000 := by omega
  unfold l__law_joined_1
  refine seq1 (app_at (x := .int (b.v.a0 * a.v.a2 + b.v.a1 * a.v.a6 + b.v.a2 * a.v.a10)) ?_ rfl (by simp) rfl (by omega)) rfl
  · simp! []
    congr 2
    omega
theorem lo_0_3 (L : List PD) (y : Option PD) (hl : L.length < 100) : evSs (sgOf pg n) l__law_joined_1 ([6], [some (MD a), some (MD b), some (.tuple [.int a.v.a0, .int a.v.a1, .int a.v.a2, .int a.v.a3, .int a.v.a4, .int a.v.a5, .int a.v.a6, .int a.v.a7, .int a.v.a8, .int a.v.a9, .int a.v.a10, .int a.v.a11]), some (.int a.d), some (.tuple [.int b.v.a0, .int b.v.a1, .int b.v.a2, .int b.v.a3, .int b.v.a4, .int b.v.a5, .int b.v.a6, .int b.v.a7, .int b.v.a8, .int b.v.a9, .int b.v.a10, .int b.v.a11]), some (.int b.d), some (.list L), some (.int 0), some (.int 3), y]) = .nx ([6], [some (MD a), some (MD b), some (.tuple [.int a.v.a0, .int a.v.a1, .int a.v.a2, .int a.v.a3, .int a.v.a4, .int a.v.a5, .int a.v.a6, .int a.v.a7, .int a.v.a8, .int a.v.a9, .int a.v.a10, .int a.v.a11]), some (.int a.d), some (.tuple [.int b.v.a0, .int b.v.a1, .int b.v.a2, .int b.v.a3, .int b.v.a4, .int b.v.a5, .int b.v.a6, .int b.v.a7, .int b.v.a8, .int b.v.a9, .int b.v.a10, .int b.v.a11]), some (.int b.d), some (.list (L ++ [.int (b.v.a0 * a.v.a3 + b.v.a1 * a.v.a7 + b.v.a2 * a.v.a11 + b.v.a3 * a.d)])), some (.int 0), some (.int 3), y]) := by
  have A := ha.b
  have A2 := ha.d
  have B := hb.b
  have h1 : j + i < 1000000 := by omega
  have h4 : j + i + 1 < 1000000 := by omega
  unfold l__law_joined_1
  refine seq1 (app_at (x := .int (b.v.a0 * a.v.a3 + b.v.a1 * a.v.a7 + b.v.a2 * a.v.a11 + b.v.a3 * a.d)) ?_ rfl (by simp) rfl (by omega)) rfl
  · simp! []
    congr 2
    omega
theorem lo_1_0 (L : List PD) (y : Option PD) (hl : L.length < 100) : evSs (sgOf pg n) l__law_joined_1 ([6], [some (MD a), some (MD b), some (.tuple [.int a.v.a0, .int a.v.a1, .int a.v.a2, .int a.v.a3, .int a.v.a4, .int a.v.a5, .int a.v.a6, .int a.v.a7, .int a.v.a8, .int a.v.a9, .int a.v.a10, .int a.v.a11]), some (.int a.d), some (.tuple [.int b.v.a0, .int b.v.a1, .int b.v.a2, .int b.v.a3, .int b.v.a4, .int b.v.a5, .int b.v.a6, .int b.v.a7, .int b.v.a8, .int b.v.a9, .int b.v.a10, .int b.v.a11]), some (.int b.d), some (.list L), some (.int 1), some (.int 0), y]) = .nx ([6], [some (MD a), some (MD b), some (.tuple [.int a.v.a0, .int a.v.a1, .int a.v.a2, .int a.v.a3, .int a.v.a4, .int a.v.a5, .int a.v.a6, .int a.v.a7, .int a.v.a8, .int a.v.a9, .int a.v.a10, .int a.v.a11]), some (.int a.d), some (.tuple [.int b.v.a0, .int b.v.a1, .int b.v.a2, .int b.v.a3, .int b.v.a4, .int b.v.a5, .int b.v.a6, .int b.v.a7, .int b.v.a8, .int b.v.a9, .int b.v.a10, .int b.v.a11]), some (.int b.d), some (.list (L ++ [.int (b.v.a4 * a.v.a0 + b.v.a5 * a.v.a4 + b.v.a6 * a.v.a8)])), some (.int 1), some (.int 0), y]) := by
  have A := ha.b
  have A2 := ha.d
  have B := hb.b
  have h1 : j + i < 1000000 := by omega
  have h4 : j + i + 1 < 1000000 := by omega
  unfold l__law_joined_1
  refine seq1 (app_at (x := .int (b.v.a4 * a.v.a0 + b.v.a5 * a.v.a4 + b.v.a6 * a.v.a8)) ?_ rfl (by simp) rfl (by omega)) rfl
  · simp! []
    congr 2
    omega
theorem lo_1_1 (L : List PD) (y : Option PD) (hl : L.length < 100) : evSs (sgOf pg n) l__law_joined_1 ([6], [some (MD a), some (MD b), some (.tuple [.int a.v.a0, .int a.v.a1, .int a.v.a2, .int a.v.a3, .int a.v.a4, .int a.v.a5, .int a.v.a6, .int a.v.a7, .int a.v.a8, .int a.v.a9, .int a.v.a10, .int a.v.a11]), some (.int a.d), some (.tuple [.int b.v.a0, .int b.v.a1, .int b.v.a2, .int b.v.a3, .int b.v.a4, .int b.v.a5, .int b.v.a6, .int b.v.a7, .int b.v.a8, .int b.v.a9, .int b.v.a10, .int b.v.a11]), some (.int b.d), some (.list L), some (.int 1), some (.int 1), y]) = .nx ([6], [some (MD a), some (MD b), some (.tuple [.int a.v.a0, .int a.v.a1, .int a.v.a2, .int a.v.a3, .int a.v.a4, .int a.v.a5, .int a.v.a6, .int a.v.a7, .int a.v.a8, .int a.v.a9, .int a.v.a10, .int a.v.a11]), some (.int a.d), some (.tuple [.int b.v.a0, .int b.v.a1, .int b.v.a2, .int b.v.a3, .int b.v.a4, .int b.v.a5, .int b.v.a6, .int b.v.a7, .int b.v.a8, .int b.v.a9, .int b.v.a10, .int b.v.a11]), some (.int b.d), some (.list (L ++ [.int (b.v.a4 * a.v.a1 + b.v.a5 * a.v.a5 + b.v.a6 * a.v.a9)])), some (.int 1), some (.int 1), y]) := by
  have A := ha.b
  have A2 := ha.d
  have B := hb.b
  have h1 : j + i < 1000000 := by omega
  have h4 : j + i + 1 < 1000000 := by omega
  unfold l__law_joined_1
  refine seq1 (app_at (x := .int (b.v.a4 * a.v.a1 + b.v.a5 * a.v.a5 + b.v.a6 * a.v.a9)) ?_ rfl (by simp) rfl (by omega)) rfl
  · simp! []
    congr 2
    omega
theorem lo_1_2 (L : List PD) (y : Option PD) (hl : L.length < 100) : evSs (sgOf pg n) l__law_joined_1 ([6], [some (MD a), some (MD b), some (.tuple [.int a.v.a0, .int a.v.a1, .int a.v.a2, .int a.v.a3, .int a.v.a4, .int a.v.a5, .int a.v.a6, .int a.v.a7, .int a.v.a8, .int a.v.a9, .int a.v.a10, .int a.v.a11]), some (.int a.d), some (.tuple [.int b.v.a0, .int b.v.a1, .int b.v.a2, .int b.v.a3, .int b.v.a4, .int b.v.a5, .int b.v.a6, .int b.v.a7, .int b.v.a8, .int b.v.a9, .int b.v.a10, .int b.v.a11]), some (.int b.d), some (.list L), some (.int 1), some (.int 2), y]) = .nx ([6], [some (MD a), some (MD b), some (.tuple [.int a.v.a0, .int a.v.a1, .int a.v.a2, .int a.v.a3, .int a.v.a4, .int a.v.a5, .int a.v.a6, .int a.v.a7, .int a.v.a8, .int a.v.a9, .int a.v.a10, .int a.v.a11]), some (.int a.d), some (.tuple [.int b.v.a0, .int b.v.a1, .int b.v.a2, .int b.v.a3, .int b.v.a4, .int b.v.a5, .int b.v.a6, .int b.v.a7, .int b.v.a8, .int b.v.a9, .int b.v.a10, .int b.v.a11]), some (.int b.d), some (.list (L ++ [.int (b.v.a4 * a.v.a2 + b.v.a5 * a.v.a6 + b.v.a6 * a.v.a10)])), some (.int 1), some (.int 2), y]) := by
  have A := ha.b
  have A2 := ha.d
  have B := hb.b
  have h1 : j + i < 1000000 := by omega
  have h4 : j + i + 1 < 1000000 := by omega
  unfold l__law_joined_1
  refine seq1 (app_at (x := .int (b.v.a4 * a.v.a2 + b.v.a5 * a.v.a6 + b.v.a6 * a.v.a10)) ?_ rfl (by simp) rfl (by omega)) rfl
  · simp! []
    congr 2
    omega
theorem lo_1_3 (L : List PD) (y : Option PD) (hl : L.length < 100) : evSs (sgOf pg n) l__law_joined_1 ([6], [some (MD a), some (MD b), some (.tuple [.int a.v.a0, .int a.v.a1, .int a.v.a2, .int a.v.a3, .int a.v.a4, .int a.v.a5, .int a.v.a6, .int a.v.a7, .int a.v.a8, .int a.v.a9, .int a.v.a10, .int a.v.a11]), some (.int a.d), some (.tuple [.int b.v.a0, .int b.v.a1, .int b.v.a2, .int b.v.a3, .int b.v.a4, .int b.v.a5, .int b.v.a6, .int b.v.a7, .int b.v.a8, .int b.v.a9, .int b.v.a10, .int b.v.a11]), some (.int b.d), some (.list L), some (.int 1), some (.int 3), y]) = .nx ([6], [some (MD a), some (MD b), some (.tuple [.int a.v.a0, .int a.v.a1, .int a.v.a2, .int a.v.a3, .int a.v.a4, .int a.v.a5, .int a.v.a6, .int a.v.a7, .int a.v.a8, .int a.v.a9, .int a.v.a10, .int a.v.a11]), some (.int a.d), some (.tuple [.int b.v.a0, .int b.v.a1, .int b.v.a2, .int b.v.a3, .int b.v.a4, .int b.v.a5, .int b.v.a6, .int b.v.a7, .int b.v.a8, .int b.v.a9, .int b.v.a10, .int b.v.a11]), some (.int b.d), some (.list (L ++ [.int (b.v.a4 * a.v.a3 + b.v.a5 * a.v.a7 + b.v.a6 * a.v.a11 + b.v.a7 * a.d)])), some (.int 1), some (.int 3), y]) := by
  have A := ha.b
  have A2 := ha.d
  have B := hb.b
  have h1 : j + i < 1000000 := by omega
  have h4 : j + i + 1 < 1000000 := by omega
  unfold l__law_joined_1
  refine seq1 (app_at (x := .int (b.v.a4 * a.v.a3 + b.v.a5 * a.v.a7 + b.v.a6 * a.v.a11 + b.v.a7 * a.d)) ?_ rfl (by simp) rfl (by omega)) rfl
  · simp! []
    congr 2
    omega
theorem lo_2_0 (L : List PD) (y : Option PD) (hl : L.length < 100) : evSs (sgOf pg n) l__law_joined_1 ([6], [some (MD a), some (MD b), some (.tuple [.int a.v.a0, .int a.v.a1, .int a.v.a2, .int a.v.a3, .int a.v.a4, .int a.v.a5, .int a.v.a6, .int a.v.a7, .int a.v.a8, .int a.v.a9, .int a.v.a10, .int a.v.a11]), some (.int a.d), some (.tuple [.int b.v.a0, .int b.v.a1, .int b.v.a2, .int b.v.a3, .int b.v.a4, .int b.v.a5, .int b.v.a6, .int b.v.a7, .int b.v.a8, .int b.v.a9, .int b.v.a10, .int b.v.a11]), some (.int b.d), some (.list L), some (.int 2), some (.int 0), y]) = .nx ([6], [some (MD a), some (MD b), some (.tuple [.int a.v.a0, .int a.v.a1, .int a.v.a2, .int a.v.a3, .int a.v.a4, .int a.v.a5, .int a.v.a6, .int a.v.a7, .int a.v.a8, .int a.v.a9, .int a.v.a10, .int a.v.a11]), some (.int a.d), some (.tuple [.int b.v.a0, .int b.v.a1, .int b.v.a2, .int b.v.a3, .int b.v.a4, .int b.v.a5, .int b.v.a6, .int b.v.a7, .int b.v.a8, .int b.v.a9, .int b.v.a10, .int b.v.a11]), some (.int b.d), some (.list (L ++ [.int (b.v.a8 * a.v.a0 + b.v.a9 * a.v.a4 + b.v.a10 * a.v.a8)])), some (.int 2), some (.int 0), y]) := by
  have A := ha.b
  have A2 := ha.d
  have B := hb.b
  have h1 : j + i < 1000000 := by omega
  have h4 : j + i + 1 < 1000000 := by omega
  unfold l__law_joined_1
  refine seq1 (app_at (x := .int (b.v.a8 * a.v.a0 + b.v.a9 * a.v.a4 + b.v.a10 * a.v.a8)) ?_ rfl (by simp) rfl (by omega)) rfl
  · simp! []
    congr 2
    omega
theorem lo_2_1 (L : List PD) (y : Option PD) (hl : L.length < 100) : evSs (sgOf pg n) l__law_joined_1 ([6], [some (MD a), some (MD b), some (.tuple [.int a.v.a0, .int a.v.a1, .int a.v.a2, .int a.v.a3, .int a.v.a4, .int a.v.a5, .int a.v.a6, .int a.v.a7, .int a.v.a8, .int a.v.a9, .int a.v.a10, .int a.v.a11]), some (.int a.d), some (.tuple [.int b.v.a0, .int b.v.a1, .int b.v.a2, .int b.v.a3, .int b.v.a4, .int b.v.a5, .int b.v.a6, .int b.v.a7, .int b.v.a8, .int b.v.a9, .int b.v.a10, .int b.v.a11]), some (.int b.d), some (.list L), some (.int 2), some (.int 1), y]) = .nx ([6], [some (MD a), some (MD b), some (.tuple [.int a.v.a0, .int a.v.a1, .int a.v.a2, .int a.v.a3, .int a.v.a4, .int a.v.a5, .int a.v.a6, .int a.v.a7, .int a.v.a8, .int a.v.a9, .int a.v.a10, .int a.v.a11]), some (.int a.d), some (.tuple [.int b.v.a0, .int b.v.a1, .int b.v.a2, .int b.v.a3, .int b.v.a4, .int b.v.a5, .int b.v.a6, .int b.v.a7, .int b.v.a8, .int b.v.a9, .int b.v.a10, .int b.v.a11]), some (.int b.d), some (.list (L ++ [.int (b.v.a8 * a.v.a1 + b.v.a9 * a.v.a5 + b.v.a10 * a.v.a9)])), some (.int 2), some (.int 1), y]) := by
  have A := ha.b
  have A2 := ha.d
  have B := hb.b
  have h1 : j + i < 1000000 := by omega
  have h4 : j + i + 1 < 1000000 := by omega
  unfold l__law_joined_1
  refine seq1 (app_at (x := .int (b.v.a8 * a.v.a1 + b.v.a9 * a.v.a5 + b.v.a10 * a.v.a9)) ?_ rfl (by simp) rfl (by omega)) rfl
  · simp! []
    congr 2
    omega
theorem lo_2_2 (L : List PD) (y : Option PD) (hl : L.length < 100) : evSs (sgOf pg n) l__law_joined_1 ([6], [some (MD a), some (MD b), some (.tuple [.int a.v.a0, .int a.v.a1, .int a.v.a2, .int a.v.a3, .int a.v.a4, .int a.v.a5, .int a.v.a6, .int a.v.a7, .int a.v.a8, .int a.v.a9, .int a.v.a10, .int a.v.a11]), some (.int a.d), some (.tuple [.int b.v.a0, .int b.v.a1, .int b.v.a2, .int b.v.a3, .int b.v.a4, .int b.v.a5, .int b.v.a6, .int b.v.a7, .int b.v.a8, .int b.v.a9, .int b.v.a10, .int b.v.a11]), some (.int b.d), some (.list L), some (.int 2), some (.int 2), y]) = .nx ([6], [some (MD a), some (MD b), some (.tuple [.int a.v.a0, .int a.v.a1, .int a.v.a2, .int a.v.a3, .int a.v.a4, .int a.v.a5, .int a.v.a6, .int a.v.a7, .int a.v.a8, .int a.v.a9, .int a.v.a10, .int a.v.a11]), some (.int a.d), some (.tuple [.int b.v.a0, .int b.v.a1, .int b.v.a2, .int b.v.a3, .int b.v.a4, .int b.v.a5, .int b.v.a6, .int b.v.a7, .int b.v.a8, .int b.v.a9, .int b.v.a10, .int b.v.a11]), some (.int b.d), some (.list (L ++ [.int (b.v.a8 * a.v.a2 + b.v.a9 * a.v.a6 + b.v.a10 * a.v.a10)])), some (.int 2), some (.int 2), y]) := by
  have A := ha.b
  have A2 := ha.d
  have B := hb.b
  have h1 : j + i < 1000000 := by omega
  have h4 : j + i + 1 < 1000000 := by omega
  unfold l__law_joined_1
  refine seq1 (app_at (x := .int (b.v.a8 * a.v.a2 + b.v.a9 * a.v.a6 + b.v.a10 * a.v.a10)) ?_ rfl (by simp) rfl (by omega)) rfl
  · simp! []
    congr 2
    omega
theorem lo_2_3 (L : List PD) (y : Option PD) (hl : L.length < 100) : evSs (sgOf pg n) l__law_joined_1 ([6], [some (MD a), some (MD b), some (.tuple [.int a.v.a0, .int a.v.a1, .int a.v.a2, .int a.v.a3, .int a.v.a4, .int a.v.a5, .int a.v.a6, .int a.v.a7, .int a.v.a8, .int a.v.a9, .int a.v.a10, .int a.v.a11]), some (.int a.d), some (.tuple [.int b.v.a0, .int b.v.a1, .int b.v.a2, .int b.v.a3, .int b.v.a4, .int b.v.a5, .int b.v.a6, .int b.v.a7, .int b.v.a8, .int b.v.a9, .int b.v.a10, .int b.v.a11]), some (.int b.d), some (.list L), some (.int 2), some (.int 3), y]) = .nx ([6], [some (MD a), some (MD b), some (.tuple [.int a.v.a0, .int a.v.a1, .int a.v.a2, .int a.v.a3, .int a.v.a4, .int a.v.a5, .int a.v.a6, .int a.v.a7, .int a.v.a8, .int a.v.a9, .int a.v.a10, .int a.v.a11]), some (.int a.d), some (.tuple [.int b.v.a0, .int b.v.a1, .int b.v.a2, .int b.v.a3, .int b.v.a4, .int b.v.a5, .int b.v.a6, .int b.v.a7, .int b.v.a8, .int b.v.a9, .int b.v.a10, .int b.v.a11]), some (.int b.d), some (.list (L ++ [.int (b.v.a8 * a.v.a3 + b.v.a9 * a.v.a7 + b.v.a10 * a.v.a11 + b.v.a11 * a.d)])), some (.int 2), some (.int 3), y]) := by
  have A := ha.b
  have A2 := ha.d
  have B := hb.b
  have h1 : j + i < 1000000 := by omega
  have h4 : j + i + 1 < 1000000 := by omega
  unfold l__law_joined_1
  refine seq1 (app_at (x := .int (b.v.a8 * a.v.a3 + b.v.a9 * a.v.a7 + b.v.a10 * a.v.a11 + b.v.a11 * a.d)) ?_ rfl (by simp) rfl (by omega)) rfl
  · simp! []
    congr 2
    omega
theorem lr_0 (L : List PD) (x y : Option PD) (hl : L.length < 90) : ∃ x' y', evSs (sgOf pg n) l__law_joined_2 ([6], [some (MD a), some (MD b), some (.tuple [.int a.v.a0, .int a.v.a1, .int a.v.a2, .int a.v.a3, .int a.v.a4, .int a.v.a5, .int a.v.a6, .int a.v.a7, .int a.v.a8, .int a.v.a9, .int a.v.a10, .int a.v.a11]), some (.int a.d), some (.tuple [.int b.v.a0, .int b.v.a1, .int b.v.a2, .int b.v.a3, .int b.v.a4, .int b.v.a5, .int b.v.a6, .int b.v.a7, .int b.v.a8, .int b.v.a9, .int b.v.a10, .int b.v.a11]), some (.int b.d), some (.list L), some (.int 0), x, y]) = .nx ([6], [some (MD a), some (MD b), some (.tuple [.int a.v.a0, .int a.v.a1, .int a.v.a2, .int a.v.a3, .int a.v.a4, .int a.v.a5, .int a.v.a6, .int a.v.a7, .int a.v.a8, .int a.v.a9, .int a.v.a10, .int a.v.a11]), some (.int a.d), some (.tuple [.int b.v.a0, .int b.v.a1, .int b.v.a2, .int b.v.a3, .int b.v.a4, .int b.v.a5, .int b.v.a6, .int b.v.a7, .int b.v.a8, .int b.v.a9, .int b.v.a10, .int b.v.a11]), some (.int b.d), some (.list (L ++ [.int (b.v.a0 * a.v.a0 + b.v.a1 * a.v.a4 + b.v.a2 * a.v.a8), .int (b.v.a0 * a.v.a1 + b.v.a1 * a.v.a5 + b.v.a2 * a.v.a9), .int (b.v.a0 * a.v.a2 + b.v.a1 * a.v.a6 + b.v.a2 * a.v.a10), .int (b.v.a0 * a.v.a3 + b.v.a1 * a.v.a7 + b.v.a2 * a.v.a11 + b.v.a3 * a.d)])), some (.int 0), x', y']) := by
  unfold l__law_joined_2
  refine ⟨some (.int 3), y, ?_⟩
  have e1 := lo_0_0 n ha hb hi hj L y (by omega)
  have e2 := lo_0_1 n ha hb hi hj (L ++ [.int (b.v.a0 * a.v.a0 + b.v.a1 * a.v.a4 + b.v.a2 * a.v.a8)]) y (by simp; omega)
  have e3 := lo_0_2 n ha hb hi hj (L ++ [.int (b.v.a0 * a.v.a0 + b.v.a1 * a.v.a4 + b.v.a2 * a.v.a8), .int (b.v.a0 * a.v.a1 + b.v.a1 * a.v.a5 + b.v.a2 * a.v.a9)]) y (by simp; omega)
  have e4 := lo_0_3 n ha hb hi hj (L ++ [.int (b.v.a0 * a.v.a0 + b.v.a1 * a.v.a4 + b.v.a2 * a.v.a8), .int (b.v.a0 * a.v.a1 + b.v.a1 * a.v.a5 + b.v.a2 * a.v.a9), .int (b.v.a0 * a.v.a2 + b.v.a1 * a.v.a6 + b.v.a2 * a.v.a10)]) y (by simp; omega)
  simp only [List.append_assoc, List.cons_append, List.nil_append] at e2 e3 e4
  have r4 : evIt (sgOf pg n) (.r1 (.int 4)) [some (MD a), some (MD b), some (.tuple [.int a.v.a0, .int a.v.a1, .int a.v.a2, .int a.v.a3, .int a.v.a4, .int a.v.a5, .int a.v.a6, .int a.v.a7, .int a.v.a8, .int a.v.a9, .int a.v.a10, .int a.v.a11]), some (.int a.d), some (.tuple [.int b.v.a0, .int b.v.a1, .int b.v.a2, .int b.v.a3, .int b.v.a4, .int b.v.a5, .int b.v.a6, .int b.v.a7, .int b.v.a8, .int b.v.a9, .int b.v.a10, .int b.v.a11]), some (.int b.d), some (.list L), some (.int 0), x, y] = .ok [.int 0, .int 1, .int 2, .int 3] := rfl
  rw [evSs, evS, r4, sok]
  simp only [forGo, tgSet, List.set_cons_succ, List.set_cons_zero, escItM, escM, esc, show Fe.dl [6] [] = [6] from rfl, e1, e2, e3, e4, evSs]
theorem lr_1 (L : List PD) (x y : Option PD) (hl : L.length < 90) : ∃ x' y', evSs (sgOf pg n) l__law_joined_2 ([6], [some (MD a), some (MD b), some (.tuple [.int a.v.a0, .int a.v.a1, .int a.v.a2, .int a.v.a3, .int a.v.a4, .int a.v.a5, .int a.v.a6, .int a.v.a7, .int a.v.a8, .int a.v.a9, .int a.v.a10, .int a.v.a11]), some (.int a.d), some (.tuple [.int b.v.a0, .int b.v.a1, .int b.v.a2, .int b.v.a3, .int b.v.a4, .int b.v.a5, .int b.v.a6, .int b.v.a7, .int b.v.a8, .int b.v.a9, .int b.v.a10, .int b.v.a11]), some (.int b.d), some (.list L), some (.int 1), x, y]) = .nx ([6], [some (MD a), some (MD b), some (.tuple [.int a.v.a0, .int a.v.a1, .int a.v.a2, .int a.v.a3, .int a.v.a4, .int a.v.a5, .int a.v.a6, .int a.v.a7, .int a.v.a8, .int a.v.a9, .int a.v.a10, .int a.v.a11]), some (.int a.d), some (.tuple [.int b.v.a0, .int b.v.a1, .int b.v.a2, .int b.v.a3, .int b.v.a4, .int b.v.a5, .int b.v.a6, .int b.v.a7, .int b.v.a8, .int b.v.a9, .int b.v.a10, .int b.v.a11]), some (.int b.d), some (.list (L ++ [.int (b.v.a4 * a.v.a0 + b.v.a5 * a.v.a4 + b.v.a6 * a.v.a8), .int (b.v.a4 * a.v.a1 + b.v.a5 * a.v.a5 + b.v.a6 * a.v.a9), .int (b.v.a4 * a.v.a2 + b.v.a5 * a.v.a6 + b.v.a6 * a.v.a10), .int (b.v.a4 * a.v.a3 + b.v.a5 * a.v.a7 + b.v.a6 * a.v.a11 + b.v.a7 * a.d)])), some (.int 1), x', y']) := by
  unfold l__law_joined_2
  refine ⟨some (.int 3), y, ?_⟩
  have e1 := lo_1_0 n ha hb hi hj L y (by omega)
  have e2 := lo_1_1 n ha hb hi hj (L ++ [.int (b.v.a4 * a.v.a0 + b.v.a5 * a.v.a4 + b.v.a6 * a.v.a8)]) y (by simp; omega)
  have e3 := lo_1_2 n ha hb hi hj (L ++ [.int (b.v.a4 * a.v.a0 + b.v.a5 * a.v.a4 + b.v.a6 * a.v.a8), .int (b.v.a4 * a.v.a1 + b.v.a5 * a.v.a5 + b.v.a6 * a.v.a9)]) y (by simp; omega)
  have e4 := lo_1_3 n ha hb hi hj (L ++ [.int (b.v.a4 * a.v.a0 + b.v.a5 * a.v.a4 + b.v.a6 * a.v.a8), .int (b.v.a4 * a.v.a1 + b.v.a5 * a.v.a5 + b.v.a6 * a.v.a9), .int (b.v.a4 * a.v.a2 + b.v.a5 * a.v.a6 + b.v.a6 * a.v.a10)]) y (by simp; omega)
  simp only [List.append_assoc, List.cons_append, List.nil_append] at e2 e3 e4
  have r4 : evIt (sgOf pg n) (.r1 (.int 4)) [some (MD a), some (MD b), some (.tuple [.int a.v.a0, .int a.v.a1, .int a.v.a2, .int a.v.a3, .int a.v.a4, .int a.v.a5, .int a.v.a6, .int a.v.a7, .int a.v.a8, .int a.v.a9, .int a.v.a10, .int a.v.a11]), some (.int a.d), some (.tuple [.int b.v.a0, .int b.v.a1, .int b.v.a2, .int b.v.a3, .int b.v.a4, .int b.v.a5, .int b.v.a6, .int b.v.a7, .int b.v.a8, .int b.v.a9, .int b.v.a10, .int b.v.a11]), some (.int b.d), some (.list L), some (.int 1), x, y] = .ok [.int 0, .int 1, .int 2, .int 3] := rfl
  rw [evSs, evS, r4, sok]
  simp only [forGo, tgSet, List.set_cons_succ, List.set_cons_zero, escItM, escM, esc, show Fe.dl [6] [] = [6] from rfl, e1, e2, e3, e4, evSs]
theorem lr_2 (L : List PD) (x y : Option PD) (hl : L.length < 90) : ∃ x' y', evSs (sgOf pg n) l__law_joined_2 ([6], [some (MD a), some (MD b), some (.tuple [.int a.v.a0, .int a.v.a1, .int a.v.a2, .int a.v.a3, .int a.v.a4, .int a.v.a5, .int a.v.a6, .int a.v.a7, .int a.v.a8, .int a.v.a9, .int a.v.a10, .int a.v.a11]), some (.int a.d), some (.tuple [.int b.v.a0, .int b.v.a1, .int b.v.a2, .int b.v.a3, .int b.v.a4, .int b.v.a5, .int b.v.a6, .int b.v.a7, .int b.v.a8, .int b.v.a9, .int b.v.a10, .int b.v.a11]), some (.int b.d), some (.list L), some (.int 2), x, y]) = .nx ([6], [some (MD a), some (MD b), some (.tuple [.int a.v.a0, .int a.v.a1, .int a.v.a2, .int a.v.a3, .int a.v.a4, .int a.v.a5, .int a.v.a6, .int a.v.a7, .int a.v.a8, .int a.v.a9, .int a.v.a10, .int a.v.a11]), some (.int a.d), some (.tuple [.int b.v.a0, .int b.v.a1, .int b.v.a2, .int b.v.a3, .int b.v.a4, .int b.v.a5, .int b.v.a6, .int b.v.a7, .int b.v.a8, .int b.v.a9, .int b.v.a10, .int b.v.a11]), some (.int b.d), some (.list (L ++ [.int (b.v.a8 * a.v.a0 + b.v.a9 * a.v.a4 + b.v.a10 * a.v.a8), .int (b.v.a8 * a.v.a1 + b.v.a9 * a.v.a5 + b.v.a10 * a.v.a9), .int (b.v.a8 * a.v.a2 + b.v.a9 * a.v.a6 + b.v.a10 * a.v.a10), .int (b.v.a8 * a.v.a3 + b.v.a9 * a.v.a7 + b.v.a10 * a.v.a11 + b.v.a11 * a.d)])), some (.int 2), x', y']) := by
  unfold l__law_joined_2
  refine ⟨some (.int 3), y, ?_⟩
  have e1 := lo_2_0 n ha hb hi hj L y (by omega)
  have e2 := lo_2_1 n ha hb hi hj (L ++ [.int (b.v.a8 * a.v.a0 + b.v.a9 * a.v.a4 + b.v.a10 * a.v.a8)]) y (by simp; omega)
  have e3 := lo_2_2 n ha hb hi hj (L ++ [.int (b.v.a8 * a.v.a0 + b.v.a9 * a.v.a4 + b.v.a10 * a.v.a8), .int (b.v.a8 * a.v.a1 + b.v.a9 * a.v.a5 + b.v.a10 * a.v.a9)]) y (by simp; omega)
  have e4 := lo_2_3 n ha hb hi hj (L ++ [.int (b.v.a8 * a.v.a0 + b.v.a9 * a.v.a4 + b.v.a10 * a.v.a8), .int (b.v.a8 * a.v.a1 + b.v.a9 * a.v.a5 + b.v.a10 * a.v.a9), .int (b.v.a8 * a.v.a2 + b.v.a9 * a.v.a6 + b.v.a10 * a.v.a10)]) y (by simp; omega)
  simp only [List.append_assoc, List.cons_append, List.nil_append] at e2 e3 e4
  have r4 : evIt (sgOf pg n) (.r1 (.int 4)) [some (MD a), some (MD b), some (.tuple [.int a.v.a0, .int a.v.a1, .int a.v.a2, .int a.v.a3, .int a.v.a4, .int a.v.a5, .int a.v.a6, .int a.v.a7, .int a.v.a8, .int a.v.a9, .int a.v.a10, .int a.v.a11]), some (.int a.d), some (.tuple [.int b.v.a0, .int b.v.a1, .int b.v.a2, .int b.v.a3, .int b.v.a4, .int b.v.a5, .int b.v.a6, .int b.v.a7, .int b.v.a8, .int b.v.a9, .int b.v.a10, .int b.v.a11]), some (.int b.d), some (.list L), some (.int 2), x, y] = .ok [.int 0, .int 1, .int 2, .int 3] := rfl
  rw [evSs, evS, r4, sok]
  simp only [forGo, tgSet, List.set_cons_succ, List.set_cons_zero, escItM, escM, esc, show Fe.dl [6] [] = [6] from rfl, e1, e2, e3, e4, evSs]
theorem ev_ljoined : evF pg (n + 3) i__law_joined [MD a, MD b] = .ok (MD (joinM a b)) := by
  rw [u__law_joined]
  unfold b__law_joined
  have A := ha.b
  have A2 := ha.d
  have B := hb.b
  have B2 := hb.d
  have h2 : i + j < 1000000 := by omega
  have d0 : a.d ≠ 0 := by have := ha.ok.d; omega
  have e0 : b.d ≠ 0 := by have := hb.ok.d; omega
  have d1 : a.d * b.d ≠ 0 := Int.mul_ne_zero d0 e0
  have l := ev_lmoveL n (joinV a b) (a.d * b.d) d1 (by omega) (by omega)
  obtain ⟨x1, y1, r1⟩ := lr_0 (n + 2) ha hb hi hj [] none none (by simp)
  obtain ⟨x2, y2, r2⟩ := lr_1 (n + 2) ha hb hi hj [.int (b.v.a0 * a.v.a0 + b.v.a1 * a.v.a4 + b.v.a2 * a.v.a8), .int (b.v.a0 * a.v.a1 + b.v.a1 * a.v.a5 + b.v.a2 * a.v.a9), .int (b.v.a0 * a.v.a2 + b.v.a1 * a.v.a6 + b.v.a2 * a.v.a10), .int (b.v.a0 * a.v.a3 + b.v.a1 * a.v.a7 + b.v.a2 * a.v.a11 + b.v.a3 * a.d)] x1 y1 (by simp)
  obtain ⟨x3, y3, r3⟩ := lr_2 (n + 2) ha hb hi hj [.int (b.v.a0 * a.v.a0 + b.v.a1 * a.v.a4 + b.v.a2 * a.v.a8), .int (b.v.a0 * a.v.a1 + b.v.a1 * a.v.a5 + b.v.a2 * a.v.a9), .int (b.v.a0 * a.v.a2 + b.v.a1 * a.v.a6 + b.v.a2 * a.v.a10), .int (b.v.a0 * a.v.a3 + b.v.a1 * a.v.a7 + b.v.a2 * a.v.a11 + b.v.a3 * a.d), .int (b.v.a4 * a.v.a0 + b.v.a5 * a.v.a4 + b.v.a6 * a.v.a8), .int (b.v.a4 * a.v.a1 + b.v.a5 * a.v.a5 + b.v.a6 * a.v.a9), .int (b.v.a4 * a.v.a2 + b.v.a5 * a.v.a6 + b.v.a6 * a.v.a10), .int (b.v.a4 * a.v.a3 + b.v.a5 * a.v.a7 + b.v.a6 * a.v.a11 + b.v.a7 * a.d)] x2 y2 (by simp)
  simp only [List.append_assoc, List.cons_append, List.nil_append] at r1 r2 r3
  refine congrArg fin (seq1 (s' := ([], [some (MD a), some (MD b), some (.tuple [.int a.v.a0, .int a.v.a1, .int a.v.a2, .int a.v.a3, .int a.v.a4, .int a.v.a5, .int a.v.a6, .int a.v.a7, .int a.v.a8, .int a.v.a9, .int a.v.a10, .int a.v.a11]), some (.int a.d), some (.tuple [.int b.v.a0, .int b.v.a1, .int b.v.a2, .int b.v.a3, .int b.v.a4, .int b.v.a5, .int b.v.a6, .int b.v.a7, .int b.v.a8, .int b.v.a9, .int b.v.a10, .int b.v.a11]), some (.int b.d), none, none, none, none])) rfl (seq1 (s' := ([6], [some (MD a), some (MD b), some (.tuple [.int a.v.a0, .int a.v.a1, .int a.v.a2, .int a.v.a3, .int a.v.a4, .int a.v.a5, .int a.v.a6, .int a.v.a7, .int a.v.a8, .int a.v.a9, .int a.v.a10, .int a.v.a11]), some (.int a.d), some (.tuple [.int b.v.a0, .int b.v.a1, .int b.v.a2, .int b.v.a3, .int b.v.a4, .int b.v.a5, .int b.v.a6, .int b.v.a7, .int b.v.a8, .int b.v.a9, .int b.v.a10, .int b.v.a11]), some (.int b.d), some (.list []), none, none, none])) rfl (seq1 (s' := ([6], [some (MD a), some (MD b), some (.tuple [.int a.v.a0, .int a.v.a1, .int a.v.a2, .int a.v.a3, .int a.v.a4, .int a.v.a5, .int a.v.a6, .int a.v.a7, .int a.v.a8, .int a.v.a9, .int a.v.a10, .int a.v.a11]), some (.int a.d), some (.tuple [.int b.v.a0, .int b.v.a1, .int b.v.a2, .int b.v.a3, .int b.v.a4, .int b.v.a5, .int b.v.a6, .int b.v.a7, .int b.v.a8, .int b.v.a9, .int b.v.a10, .int b.v.a11]), some (.int b.d), some (.list (joinV a b).l), some (.int 2), x3, y3])) ?_ (seqR (d := MD (joinM a b)) ?_))))
  · have r4 : evIt (sgOf pg (n + 2)) (.r1 (.int 3)) [some (MD a), some (MD b), some (.tuple [.int a.v.a0, .int a.v.a1, .int a.v.a2, .int a.v.a3, .int a.v.a4, .int a.v.a5, .int a.v.a6, .int a.v.a7, .int a.v.a8, .int a.v.a9, .int a.v.a10, .int a.v.a11]), some (.int a.d), some (.tuple [.int b.v.a0, .int b.v.a1, .int b.v.a2, .int b.v.a3, .int b.v.a4, .int b.v.a5, .int b.v.a6, .int b.v.a7, .int b.v.a8, .int b.v.a9, .int b.v.a10, .int b.v.a11]), some (.int b.d), some (.list []), none, none, none] = .ok [.int 0, .int 1, .int 2] := rfl
    rw [evS, r4, sok]
    simp only [forGo, tgSet, List.set_cons_succ, List.set_cons_zero, escItM, escM, esc, show Fe.dl [6] [] = [6] from rfl, r1, r2, r3]
    rfl
  · simp! [l]
    rfl
end
/-! ### places -/
abbrev Pt := Rat × Rat × Rat
abbrev PT (p : Pt) : PD := .tuple [QD p.1, QD p.2.1, QD p.2.2]
structure BdP (p : Pt) (k : Nat) : Prop where
  x : BdQ p.1 k
  y : BdQ p.2.1 k
  z : BdQ p.2.2 k
theorem numden (x : Rat) {D : Int} (h : D ≠ 0) : ((x.num : Rat) / (((x.den : Int) * D : Int) : Rat)) = x / (D : Rat) := by
  have hx := den_cast x
  have hD := cast_ne h
  have ex := rat_num x
  rw [Rat.intCast_mul]
  generalize (x.num : Rat) = a at *
  generalize ((x.den : Int) : Rat) = c at *
  generalize (D : Rat) = d at *
  subst ex
  grind
def act0 (m : Mv) (p : Pt) : Rat := ((m.v.a0 : Rat) * p.1 + (m.v.a1 : Rat) * p.2.1 + (m.v.a2 : Rat) * p.2.2 + (m.v.a3 : Rat)) / (m.d : Rat)
def act1 (m : Mv) (p : Pt) : Rat := ((m.v.a4 : Rat) * p.1 + (m.v.a5 : Rat) * p.2.1 + (m.v.a6 : Rat) * p.2.2 + (m.v.a7 : Rat)) / (m.d : Rat)
def act2 (m : Mv) (p : Pt) : Rat := ((m.v.a8 : Rat) * p.1 + (m.v.a9 : Rat) * p.2.1 + (m.v.a10 : Rat) * p.2.2 + (m.v.a11 : Rat)) / (m.d : Rat)
def act (m : Mv) (p : Pt) : Pt := (act0 m p, act1 m p, act2 m p)
section
variable (n : Nat) {m : Mv} {p : Pt} {i j : Nat} (ha : IsM m i) (hp : BdP p j) (hi : i ≤ 200) (hj : j ≤ 200)
include ha hp hi hj
theorem mv_0 (L : List PD) (x4 x5 x6 x7 : Option PD) (hl : L.length < 90) : ∃ x4' x6' x7', evSs (sgOf pg (n + 4)) l_moved_1 ([2], [some (MD m), some (PT p), some (.list L), some (.int 0), x4, x5, x6, x7]) = .nx ([2], [some (MD m), some (PT p), some (.list (L ++ [QD (act0 m p)])), some (.int 0), x4', x5, x6', x7']) := by
  unfold l_moved_1
  have A := ha.b
  have A2 := ha.d
  have B1 := hp.x
  have B2 := hp.y
  have B3 := hp.z
  have d0 : m.d ≠ 0 := by have := ha.ok.d; omega
  refine ⟨_, _, _, seq1 (s' := ([2], [some (MD m), some (PT p), some (.list L), some (.int 0), some (.list [QD ((m.v.a0 : Rat) * p.1), QD ((m.v.a1 : Rat) * p.2.1), QD ((m.v.a2 : Rat) * p.2.2)]), x5, x6, x7])) ?_ (seq1 (s' := ([2], [some (MD m), some (PT p), some (.list L), some (.int 0), some (.list [QD ((m.v.a0 : Rat) * p.1), QD ((m.v.a1 : Rat) * p.2.1), QD ((m.v.a2 : Rat) * p.2.2)]), x5, some (.int ((m.v.a0 : Rat) * p.1 + (m.v.a1 : Rat) * p.2.1 + (m.v.a2 : Rat) * p.2.2 + (m.v.a3 : Rat)).num), some (.int ((m.v.a0 : Rat) * p.1 + (m.v.a1 : Rat) * p.2.1 + (m.v.a2 : Rat) * p.2.2 + (m.v.a3 : Rat)).den)])) ?_ (seq1 (app_at (x := QD (act0 m p)) ?_ rfl (by simp) rfl (by omega)) rfl))⟩
  · simp! [en_0_0, en_0_1, en_0_2, P1, ev_times]
    rfl
  · simp! [en_0_3, P1, ev_summed4]
    rfl
  · have h0 := mul_ne (den_ne ((m.v.a0 : Rat) * p.1 + (m.v.a1 : Rat) * p.2.1 + (m.v.a2 : Rat) * p.2.2 + (m.v.a3 : Rat))) d0
    simp! [ev_plain]
    rw [numden _ d0]
    rfl
theorem mv_1 (L : List PD) (x4 x5 x6 x7 : Option PD) (hl : L.length < 90) : ∃ x4' x6' x7', evSs (sgOf pg (n + 4)) l_moved_1 ([2], [some (MD m), some (PT p), some (.list L), some (.int 1), x4, x5, x6, x7]) = .nx ([2], [some (MD m), some (PT p), some (.list (L ++ [QD (act1 m p)])), some (.int 1), x4', x5, x6', x7']) := by
  unfold l_moved_1
  have A := ha.b
  have A2 := ha.d
  have B1 := hp.x
  have B2 := hp.y
  have B3 := hp.z
  have d0 : m.d ≠ 0 := by have := ha.ok.d; omega
  refine ⟨_, _, _, seq1 (s' := ([2], [some (MD m), some (PT p), some (.list L), some (.int 1), some (.list [QD ((m.v.a4 : Rat) * p.1), QD ((m.v.a5 : Rat) * p.2.1), QD ((m.v.a6 : Rat) * p.2.2)]), x5, x6, x7])) ?_ (seq1 (s' := ([2], [some (MD m), some (PT p), some (.list L), some (.int 1), some (.list [QD ((m.v.a4 : Rat) * p.1), QD ((m.v.a5 : Rat) * p.2.1), QD ((m.v.a6 : Rat) * p.2.2)]), x5, some (.int ((m.v.a4 : Rat) * p.1 + (m.v.a5 : Rat) * p.2.1 + (m.v.a6 : Rat) * p.2.2 + (m.v.a7 : Rat)).num), some (.int ((m.v.a4 : Rat) * p.1 + (m.v.a5 : Rat) * p.2.1 + (m.v.a6 : Rat) * p.2.2 + (m.v.a7 : Rat)).den)])) ?_ (seq1 (app_at (x := QD (act1 m p)) ?_ rfl (by simp) rfl (by omega)) rfl))⟩
  · simp! [en_1_0, en_1_1, en_1_2, P1, ev_times]
    rfl
  · simp! [en_1_3, P1, ev_summed4]
    rfl
  · have h0 := mul_ne (den_ne ((m.v.a4 : Rat) * p.1 + (m.v.a5 : Rat) * p.2.1 + (m.v.a6 : Rat) * p.2.2 + (m.v.a7 : Rat))) d0
    simp! [ev_plain]
    rw [numden _ d0]
    rfl
theorem mv_2 (L : List PD) (x4 x5 x6 x7 : Option PD) (hl : L.length < 90) : ∃ x4' x6' x7', evSs (sgOf pg (n + 4)) l_moved_1 ([2], [some (MD m), some (PT p), some (.list L), some (.int 2), x4, x5, x6, x7]) = .nx ([2], [some (MD m), some (PT p), some (.list (L ++ [QD (act2 m p)])), some (.int 2), x4', x5, x6', x7']) := by
  unfold l_moved_1
  have A := ha.b
  have A2 := ha.d
  have B1 := hp.x
  have B2 := hp.y
  have B3 := hp.z
  have d0 : m.d ≠ 0 := by have := ha.ok.d; omega
  refine ⟨_, _, _, seq1 (s' := ([2], [some (MD m), some (PT p), some (.list L), some (.int 2), some (.list [QD ((m.v.a8 : Rat) * p.1), QD ((m.v.a9 : Rat) * p.2.1), QD ((m.v.a10 : Rat) * p.2.2)]), x5, x6, x7])) ?_ (seq1 (s' := ([2], [some (MD m), some (PT p), some (.list L), some (.int 2), some (.list [QD ((m.v.a8 : Rat) * p.1), QD ((m.v.a9 : Rat) * p.2.1), QD ((m.v.a10 : Rat) * p.2.2)]), x5, some (.int ((m.v.a8 : Rat) * p.1 + (m.v.a9 : Rat) * p.2.1 + (m.v.a10 : Rat) * p.2.2 + (m.v.a11 : Rat)).num), some (.int ((m.v.a8 : Rat) * p.1 + (m.v.a9 : Rat) * p.2.1 + (m.v.a10 : Rat) * p.2.2 + (m.v.a11 : Rat)).den)])) ?_ (seq1 (app_at (x := QD (act2 m p)) ?_ rfl (by simp) rfl (by omega)) rfl))⟩
  · simp! [en_2_0, en_2_1, en_2_2, P1, ev_times]
    rfl
  · simp! [en_2_3, P1, ev_summed4]
    rfl
  · have h0 := mul_ne (den_ne ((m.v.a8 : Rat) * p.1 + (m.v.a9 : Rat) * p.2.1 + (m.v.a10 : Rat) * p.2.2 + (m.v.a11 : Rat))) d0
    simp! [ev_plain]
    rw [numden _ d0]
    rfl
theorem ev_moved : evF pg (n + 5) i_moved [MD m, PT p] = .ok (PT (act m p)) := by
  rw [u_moved]
  unfold b_moved
  obtain ⟨x1, y1, z1, r1⟩ := mv_0 n ha hp hi hj [] none none none none (by simp)
  obtain ⟨x2, y2, z2, r2⟩ := mv_1 n ha hp hi hj [QD (act0 m p)] x1 none y1 z1 (by simp)
  obtain ⟨x3, y3, z3, r3⟩ := mv_2 n ha hp hi hj [QD (act0 m p), QD (act1 m p)] x2 none y2 z2 (by simp)
  simp only [List.append_assoc, List.cons_append, List.nil_append] at r1 r2 r3
  refine congrArg fin (seq1 (s' := ([], [some (MD m), some (PT p), none, none, none, none, none, none])) ?_ (seq1 (s' := ([2], [some (MD m), some (PT p), some (.list []), none, none, none, none, none])) rfl (seq1 (s' := ([2], [some (MD m), some (PT p), some (.list [QD (act0 m p), QD (act1 m p), QD (act2 m p)]), some (.int 2), x3, none, y3, z3])) ?_ (seqR (d := PT (act m p)) rfl))))
  · simp! [ev_chk n ha (by omega)]
  · have r4 : evIt (sgOf pg (n + 4)) (.r1 (.int 3)) [some (MD m), some (PT p), some (.list []), none, none, none, none, none] = .ok [.int 0, .int 1, .int 2] := rfl
    rw [evS, r4, sok]
    simp only [forGo, tgSet, List.set_cons_succ, List.set_cons_zero, escItM, escM, esc, show Fe.dl [2] [] = [2] from rfl, r1, r2, r3]
end
end k01
set_option Elab.async false
set_option linter.all false
set_option maxRecDepth 100000
set_option maxHeartbeats 4000000
namespace k01
open PySem PySem.Spec PyProof.Rows L2 Fe
theorem goal0 (m : Mv) (p : Pt) (hD : m.d ≠ 0) : ((((m.v.a3 * (p.1.den : Int) + m.v.a0 * p.1.num * 1) * (p.2.1.den : Int) + m.v.a1 * p.2.1.num * (1 * (p.1.den : Int))) * (p.2.2.den : Int) + m.v.a2 * p.2.2.num * (1 * (p.1.den : Int) * (p.2.1.den : Int)) : Int) : Rat) / ((1 * (p.1.den : Int) * (p.2.1.den : Int) * (p.2.2.den : Int) * m.d : Int) : Rat) = act0 m p := by
  unfold act0
  have h1 := den_cast p.1
  have h2 := den_cast p.2.1
  have h3 := den_cast p.2.2
  have hd := cast_ne hD
  have e1 := rat_num p.1
  have e2 := rat_num p.2.1
  have e3 := rat_num p.2.2
  simp only [Rat.intCast_add, Rat.intCast_mul]
  generalize (p.1.num : Rat) = n1 at *
  generalize (p.2.1.num : Rat) = n2 at *
  generalize (p.2.2.num : Rat) = n3 at *
  generalize ((p.1.den : Int) : Rat) = d1 at *
  generalize ((p.2.1.den : Int) : Rat) = d2 at *
  generalize ((p.2.2.den : Int) : Rat) = d3 at *
  rw [e1, e2, e3]
  generalize (m.v.a0 : Rat) = r0 at *
  generalize (m.v.a1 : Rat) = r1 at *
  generalize (m.v.a2 : Rat) = r2 at *
  generalize (m.v.a3 : Rat) = r3 at *
  generalize (m.d : Rat) = D at *
  clear e1 e2 e3 hD
  have : ((1 : Int) : Rat) = 1 := rfl
  rw [this]
  grind
theorem goal1 (m : Mv) (p : Pt) (hD : m.d ≠ 0) : ((((m.v.a7 * (p.1.den : Int) + m.v.a4 * p.1.num * 1) * (p.2.1.den : Int) + m.v.a5 * p.2.1.num * (1 * (p.1.den : Int))) * (p.2.2.den : Int) + m.v.a6 * p.2.2.num * (1 * (p.1.den : Int) * (p.2.1.den : Int)) : Int) : Rat) / ((1 * (p.1.den : Int) * (p.2.1.den : Int) * (p.2.2.den : Int) * m.d : Int) : Rat) = act1 m p := by
  unfold act1
  have h1 := den_cast p.1
  have h2 := den_cast p.2.1
  have h3 := den_cast p.2.2
  have hd := cast_ne hD
  have e1 := rat_num p.1
  have e2 := rat_num p.2.1
  have e3 := rat_num p.2.2
  simp only [Rat.intCast_add, Rat.intCast_mul]
  generalize (p.1.num : Rat) = n1 at *
  generalize (p.2.1.num : Rat) = n2 at *
  generalize (p.2.2.num : Rat) = n3 at *
  generalize ((p.1.den : Int) : Rat) = d1 at *
  generalize ((p.2.1.den : Int) : Rat) = d2 at *
  generalize ((p.2.2.den : Int) : Rat) = d3 at *
  rw [e1, e2, e3]
  generalize (m.v.a4 : Rat) = r0 at *
  generalize (m.v.a5 : Rat) = r1 at *
  generalize (m.v.a6 : Rat) = r2 at *
  generalize (m.v.a7 : Rat) = r3 at *
  generalize (m.d : Rat) = D at *
  clear e1 e2 e3 hD
  have : ((1 : Int) : Rat) = 1 := rfl
  rw [this]
  grind
theorem goal2 (m : Mv) (p : Pt) (hD : m.d ≠ 0) : ((((m.v.a11 * (p.1.den : Int) + m.v.a8 * p.1.num * 1) * (p.2.1.den : Int) + m.v.a9 * p.2.1.num * (1 * (p.1.den : Int))) * (p.2.2.den : Int) + m.v.a10 * p.2.2.num * (1 * (p.1.den : Int) * (p.2.1.den : Int)) : Int) : Rat) / ((1 * (p.1.den : Int) * (p.2.1.den : Int) * (p.2.2.den : Int) * m.d : Int) : Rat) = act2 m p := by
  unfold act2
  have h1 := den_cast p.1
  have h2 := den_cast p.2.1
  have h3 := den_cast p.2.2
  have hd := cast_ne hD
  have e1 := rat_num p.1
  have e2 := rat_num p.2.1
  have e3 := rat_num p.2.2
  simp only [Rat.intCast_add, Rat.intCast_mul]
  generalize (p.1.num : Rat) = n1 at *
  generalize (p.2.1.num : Rat) = n2 at *
  generalize (p.2.2.num : Rat) = n3 at *
  generalize ((p.1.den : Int) : Rat) = d1 at *
  generalize ((p.2.1.den : Int) : Rat) = d2 at *
  generalize ((p.2.2.den : Int) : Rat) = d3 at *
  rw [e1, e2, e3]
  generalize (m.v.a8 : Rat) = r0 at *
  generalize (m.v.a9 : Rat) = r1 at *
  generalize (m.v.a10 : Rat) = r2 at *
  generalize (m.v.a11 : Rat) = r3 at *
  generalize (m.d : Rat) = D at *
  clear e1 e2 e3 hD
  have : ((1 : Int) : Rat) = 1 := rfl
  rw [this]
  grind
section
variable (n : Nat) {m : Mv} {p : Pt} {i j : Nat} (ha : IsM m i) (hp : BdP p j) (hij : 3 * j + i ≤ 190)
include ha hp hij
theorem go_0 (L : List PD) (x6 x7 x8 : Option PD) (hl : L.length < 90) : ∃ x6' x7' x8', evSs (sgOf pg (n + 2)) l__law_goes_2 ([4], [some (MD m), some (PT p), some (.tuple [.int m.v.a0, .int m.v.a1, .int m.v.a2, .int m.v.a3, .int m.v.a4, .int m.v.a5, .int m.v.a6, .int m.v.a7, .int m.v.a8, .int m.v.a9, .int m.v.a10, .int m.v.a11]), some (.int m.d), some (.list L), some (.int 0), x6, x7, x8]) = .nx ([4], [some (MD m), some (PT p), some (.tuple [.int m.v.a0, .int m.v.a1, .int m.v.a2, .int m.v.a3, .int m.v.a4, .int m.v.a5, .int m.v.a6, .int m.v.a7, .int m.v.a8, .int m.v.a9, .int m.v.a10, .int m.v.a11]), some (.int m.d), some (.list (L ++ [QD (act0 m p)])), some (.int 0), x6', x7', x8']) := by
  unfold l__law_goes_2 l__law_goes_1
  have A := ha.b
  have A2 := ha.d
  have B1 := hp.x
  have B2 := hp.y
  have B3 := hp.z
  have d0 : m.d ≠ 0 := by have := ha.ok.d; omega
  have n0 : (1 * (p.1.den : Int) * (p.2.1.den : Int) * (p.2.2.den : Int)) * m.d ≠ 0 := mul_ne (mul_ne (mul_ne (mul_ne (by decide) (den_ne _)) (den_ne _)) (den_ne _)) d0
  refine ⟨_, _, _, seq1 (s' := ([4], [some (MD m), some (PT p), some (.tuple [.int m.v.a0, .int m.v.a1, .int m.v.a2, .int m.v.a3, .int m.v.a4, .int m.v.a5, .int m.v.a6, .int m.v.a7, .int m.v.a8, .int m.v.a9, .int m.v.a10, .int m.v.a11]), some (.int m.d), some (.list L), some (.int 0), some (.int m.v.a3), some (.int 1), x8])) rfl (seq1 (s' := ([4], [some (MD m), some (PT p), some (.tuple [.int m.v.a0, .int m.v.a1, .int m.v.a2, .int m.v.a3, .int m.v.a4, .int m.v.a5, .int m.v.a6, .int m.v.a7, .int m.v.a8, .int m.v.a9, .int m.v.a10, .int m.v.a11]), some (.int m.d), some (.list L), some (.int 0), some (.int (((m.v.a3 * (p.1.den : Int) + m.v.a0 * p.1.num * 1) * (p.2.1.den : Int) + m.v.a1 * p.2.1.num * (1 * (p.1.den : Int))) * (p.2.2.den : Int) + m.v.a2 * p.2.2.num * (1 * (p.1.den : Int) * (p.2.1.den : Int)))), some (.int (1 * (p.1.den : Int) * (p.2.1.den : Int) * (p.2.2.den : Int))), some (.int 2)])) ?_ (seq1 (app_at (x := QD (act0 m p)) ?_ rfl (by simp) rfl (by omega)) rfl))⟩
  · have r4 : ∀ ρ, evIt (sgOf pg (n + 2)) (.r1 (.int 3)) ρ = .ok [.int 0, .int 1, .int 2] := fun _ => rfl
    rw [evS, r4, sok]
    simp! []
    rfl
  · simp! [ev_lw]
    rw [goal0 m p d0]
theorem go_1 (L : List PD) (x6 x7 x8 : Option PD) (hl : L.length < 90) : ∃ x6' x7' x8', evSs (sgOf pg (n + 2)) l__law_goes_2 ([4], [some (MD m), some (PT p), some (.tuple [.int m.v.a0, .int m.v.a1, .int m.v.a2, .int m.v.a3, .int m.v.a4, .int m.v.a5, .int m.v.a6, .int m.v.a7, .int m.v.a8, .int m.v.a9, .int m.v.a10, .int m.v.a11]), some (.int m.d), some (.list L), some (.int 1), x6, x7, x8]) = .nx ([4], [some (MD m), some (PT p), some (.tuple [.int m.v.a0, .int m.v.a1, .int m.v.a2, .int m.v.a3, .int m.v.a4, .int m.v.a5, .int m.v.a6, .int m.v.a7, .int m.v.a8, .int m.v.a9, .int m.v.a10, .int m.v.a11]), some (.int m.d), some (.list (L ++ [QD (act1 m p)])), some (.int 1), x6', x7', x8']) := by
  unfold l__law_goes_2 l__law_goes_1
  have A := ha.b
  have A2 := ha.d
  have B1 := hp.x
  have B2 := hp.y
  have B3 := hp.z
  have d0 : m.d ≠ 0 := by have := ha.ok.d; omega
  have n0 : (1 * (p.1.den : Int) * (p.2.1.den : Int) * (p.2.2.den : Int)) * m.d ≠ 0 := mul_ne (mul_ne (mul_ne (mul_ne (by decide) (den_ne _)) (den_ne _)) (den_ne _)) d0
  refine ⟨_, _, _, seq1 (s' := ([4], [some (MD m), some (PT p), some (.tuple [.int m.v.a0, .int m.v.a1, .int m.v.a2, .int m.v.a3, .int m.v.a4, .int m.v.a5, .int m.v.a6, .int m.v.a7, .int m.v.a8, .int m.v.a9, .int m.v.a10, .int m.v.a11]), some (.int m.d), some (.list L), some (.int 1), some (.int m.v.a7), some (.int 1), x8])) rfl (seq1 (s' := ([4], [some (MD m), some (PT p), some (.tuple [.int m.v.a0, .int m.v.a1, .int m.v.a2, .int m.v.a3, .int m.v.a4, .int m.v.a5, .int m.v.a6, .int m.v.a7, .int m.v.a8, .int m.v.a9, .int m.v.a10, .int m.v.a11]), some (.int m.d), some (.list L), some (.int 1), some (.int (((m.v.a7 * (p.1.den : Int) + m.v.a4 * p.1.num * 1) * (p.2.1.den : Int) + m.v.a5 * p.2.1.num * (1 * (p.1.den : Int))) * (p.2.2.den : Int) + m.v.a6 * p.2.2.num * (1 * (p.1.den : Int) * (p.2.1.den : Int)))), some (.int (1 * (p.1.den : Int) * (p.2.1.den : Int) * (p.2.2.den : Int))), some (.int 2)])) ?_ (seq1 (app_at (x := QD (act1 m p)) ?_ rfl (by simp) rfl (by omega)) rfl))⟩
  · have r4 : ∀ ρ, evIt (sgOf pg (n + 2)) (.r1 (.int 3)) ρ = .ok [.int 0, .int 1, .int 2] := fun _ => rfl
    rw [evS, r4, sok]
    simp! []
    rfl
  · simp! [ev_lw]
    rw [goal1 m p d0]
theorem go_2 (L : List PD) (x6 x7 x8 : Option PD) (hl : L.length < 90) : ∃ x6' x7' x8', evSs (sgOf pg (n + 2)) l__law_goes_2 ([4], [some (MD m), some (PT p), some (.tuple [.int m.v.a0, .int m.v.a1, .int m.v.a2, .int m.v.a3, .int m.v.a4, .int m.v.a5, .int m.v.a6, .int m.v.a7, .int m.v.a8, .int m.v.a9, .int m.v.a10, .int m.v.a11]), some (.int m.d), some (.list L), some (.int 2), x6, x7, x8]) = .nx ([4], [some (MD m), some (PT p), some (.tuple [.int m.v.a0, .int m.v.a1, .int m.v.a2, .int m.v.a3, .int m.v.a4, .int m.v.a5, .int m.v.a6, .int m.v.a7, .int m.v.a8, .int m.v.a9, .int m.v.a10, .int m.v.a11]), some (.int m.d), some (.list (L ++ [QD (act2 m p)])), some (.int 2), x6', x7', x8']) := by
  unfold l__law_goes_2 l__law_goes_1
  have A := ha.b
  have A2 := ha.d
  have B1 := hp.x
  have B2 := hp.y
  have B3 := hp.z
  have d0 : m.d ≠ 0 := by have := ha.ok.d; omega
  have n0 : (1 * (p.1.den : Int) * (p.2.1.den : Int) * (p.2.2.den : Int)) * m.d ≠ 0 := mul_ne (mul_ne (mul_ne (mul_ne (by decide) (den_ne _)) (den_ne _)) (den_ne _)) d0
  refine ⟨_, _, _, seq1 (s' := ([4], [some (MD m), some (PT p), some (.tuple [.int m.v.a0, .int m.v.a1, .int m.v.a2, .int m.v.a3, .int m.v.a4, .int m.v.a5, .int m.v.a6, .int m.v.a7, .int m.v.a8, .int m.v.a9, .int m.v.a10, .int m.v.a11]), some (.int m.d), some (.list L), some (.int 2), some (.int m.v.a11), some (.int 1), x8])) rfl (seq1 (s' := ([4], [some (MD m), some (PT p), some (.tuple [.int m.v.a0, .int m.v.a1, .int m.v.a2, .int m.v.a3, .int m.v.a4, .int m.v.a5, .int m.v.a6, .int m.v.a7, .int m.v.a8, .int m.v.a9, .int m.v.a10, .int m.v.a11]), some (.int m.d), some (.list L), some (.int 2), some (.int (((m.v.a11 * (p.1.den : Int) + m.v.a8 * p.1.num * 1) * (p.2.1.den : Int) + m.v.a9 * p.2.1.num * (1 * (p.1.den : Int))) * (p.2.2.den : Int) + m.v.a10 * p.2.2.num * (1 * (p.1.den : Int) * (p.2.1.den : Int)))), some (.int (1 * (p.1.den : Int) * (p.2.1.den : Int) * (p.2.2.den : Int))), some (.int 2)])) ?_ (seq1 (app_at (x := QD (act2 m p)) ?_ rfl (by simp) rfl (by omega)) rfl))⟩
  · have r4 : ∀ ρ, evIt (sgOf pg (n + 2)) (.r1 (.int 3)) ρ = .ok [.int 0, .int 1, .int 2] := fun _ => rfl
    rw [evS, r4, sok]
    simp! []
    rfl
  · simp! [ev_lw]
    rw [goal2 m p d0]
theorem ev_goes : evF pg (n + 3) i__law_goes [MD m, PT p] = .ok (PT (act m p)) := by
  rw [u__law_goes]
  unfold b__law_goes
  obtain ⟨x1, y1, z1, r1⟩ := go_0 n ha hp hij [] none none none (by simp)
  obtain ⟨x2, y2, z2, r2⟩ := go_1 n ha hp hij [QD (act0 m p)] x1 y1 z1 (by simp)
  obtain ⟨x3, y3, z3, r3⟩ := go_2 n ha hp hij [QD (act0 m p), QD (act1 m p)] x2 y2 z2 (by simp)
  simp only [List.append_assoc, List.cons_append, List.nil_append] at r1 r2 r3
  refine congrArg fin (seq1 (s' := ([], [some (MD m), some (PT p), some (.tuple [.int m.v.a0, .int m.v.a1, .int m.v.a2, .int m.v.a3, .int m.v.a4, .int m.v.a5, .int m.v.a6, .int m.v.a7, .int m.v.a8, .int m.v.a9, .int m.v.a10, .int m.v.a11]), some (.int m.d), none, none, none, none, none])) rfl (seq1 (s' := ([4], [some (MD m), some (PT p), some (.tuple [.int m.v.a0, .int m.v.a1, .int m.v.a2, .int m.v.a3, .int m.v.a4, .int m.v.a5, .int m.v.a6, .int m.v.a7, .int m.v.a8, .int m.v.a9, .int m.v.a10, .int m.v.a11]), some (.int m.d), some (.list []), none, none, none, none])) rfl (seq1 (s' := ([4], [some (MD m), some (PT p), some (.tuple [.int m.v.a0, .int m.v.a1, .int m.v.a2, .int m.v.a3, .int m.v.a4, .int m.v.a5, .int m.v.a6, .int m.v.a7, .int m.v.a8, .int m.v.a9, .int m.v.a10, .int m.v.a11]), some (.int m.d), some (.list [QD (act0 m p), QD (act1 m p), QD (act2 m p)]), some (.int 2), x3, y3, z3])) ?_ (seqR (d := PT (act m p)) rfl))))
  · have r4 : ∀ ρ, evIt (sgOf pg (n + 2)) (.r1 (.int 3)) ρ = .ok [.int 0, .int 1, .int 2] := fun _ => rfl
    rw [evS, r4, sok]
    simp only [forGo, tgSet, List.set_cons_succ, List.set_cons_zero, escItM, escM, esc, show Fe.dl [4] [] = [4] from rfl, r1, r2, r3]
end
theorem slT (ds : List PD) (l h : Option Int) : slV (.tuple ds) l h = .ok (.tuple (cutD ds l h)) := rfl
theorem slL (ds : List PD) (l h : Option Int) : slV (.list ds) l h = .ok (.list (cutD ds l h)) := rfl
theorem ct0 (m : Mv) : cutD [.int m.v.a0, .int m.v.a1, .int m.v.a2, .int m.v.a3, .int m.v.a4, .int m.v.a5, .int m.v.a6, .int m.v.a7, .int m.v.a8, .int m.v.a9, .int m.v.a10, .int m.v.a11] (some 0) (some 3) = [.int m.v.a0, .int m.v.a1, .int m.v.a2] := rfl
theorem ct1 (m : Mv) : cutD [.int m.v.a0, .int m.v.a1, .int m.v.a2, .int m.v.a3, .int m.v.a4, .int m.v.a5, .int m.v.a6, .int m.v.a7, .int m.v.a8, .int m.v.a9, .int m.v.a10, .int m.v.a11] (some 4) (some 7) = [.int m.v.a4, .int m.v.a5, .int m.v.a6] := rfl
theorem ct2 (m : Mv) : cutD [.int m.v.a0, .int m.v.a1, .int m.v.a2, .int m.v.a3, .int m.v.a4, .int m.v.a5, .int m.v.a6, .int m.v.a7, .int m.v.a8, .int m.v.a9, .int m.v.a10, .int m.v.a11] (some 8) (some 11) = [.int m.v.a8, .int m.v.a9, .int m.v.a10] := rfl
theorem lm_0_0 (n : Nat) (m : Mv) {k : Nat} [A : BdV m.v k] (hk : k ≤ 8000) : evF pg (n + 1) i__law_minor [.tuple [.int m.v.a0, .int m.v.a1, .int m.v.a2, .int m.v.a3, .int m.v.a4, .int m.v.a5, .int m.v.a6, .int m.v.a7, .int m.v.a8, .int m.v.a9, .int m.v.a10, .int m.v.a11], .int 0, .int 0] = .ok (.int (m.v.a5 * m.v.a10 - m.v.a6 * m.v.a9)) := by
  rw [u__law_minor]
  unfold b__law_minor
  have h : k + k < 1000000 := by omega
  simp! [slT, ct0, ct1, ct2]
theorem lm_0_1 (n : Nat) (m : Mv) {k : Nat} [A : BdV m.v k] (hk : k ≤ 8000) : evF pg (n + 1) i__law_minor [.tuple [.int m.v.a0, .int m.v.a1, .int m.v.a2, .int m.v.a3, .int m.v.a4, .int m.v.a5, .int m.v.a6, .int m.v.a7, .int m.v.a8, .int m.v.a9, .int m.v.a10, .int m.v.a11], .int 0, .int 1] = .ok (.int (m.v.a4 * m.v.a10 - m.v.a6 * m.v.a8)) := by
  rw [u__law_minor]
  unfold b__law_minor
  have h : k + k < 1000000 := by omega
  simp! [slT, ct0, ct1, ct2]
theorem lm_0_2 (n : Nat) (m : Mv) {k : Nat} [A : BdV m.v k] (hk : k ≤ 8000) : evF pg (n + 1) i__law_minor [.tuple [.int m.v.a0, .int m.v.a1, .int m.v.a2, .int m.v.a3, .int m.v.a4, .int m.v.a5, .int m.v.a6, .int m.v.a7, .int m.v.a8, .int m.v.a9, .int m.v.a10, .int m.v.a11], .int 0, .int 2] = .ok (.int (m.v.a4 * m.v.a9 - m.v.a5 * m.v.a8)) := by
  rw [u__law_minor]
  unfold b__law_minor
  have h : k + k < 1000000 := by omega
  simp! [slT, ct0, ct1, ct2]
theorem lm_1_0 (n : Nat) (m : Mv) {k : Nat} [A : BdV m.v k] (hk : k ≤ 8000) : evF pg (n + 1) i__law_minor [.tuple [.int m.v.a0, .int m.v.a1, .int m.v.a2, .int m.v.a3, .int m.v.a4, .int m.v.a5, .int m.v.a6, .int m.v.a7, .int m.v.a8, .int m.v.a9, .int m.v.a10, .int m.v.a11], .int 1, .int 0] = .ok (.int (m.v.a1 * m.v.a10 - m.v.a2 * m.v.a9)) := by
  rw [u__law_minor]
  unfold b__law_minor
  have h : k + k < 1000000 := by omega
  simp! [slT, ct0, ct1, ct2]
theorem lm_1_1 (n : Nat) (m : Mv) {k : Nat} [A : BdV m.v k] (hk : k ≤ 8000) : evF pg (n + 1) i__law_minor [.tuple [.int m.v.a0, .int m.v.a1, .int m.v.a2, .int m.v.a3, .int m.v.a4, .int m.v.a5, .int m.v.a6, .int m.v.a7, .int m.v.a8, .int m.v.a9, .int m.v.a10, .int m.v.a11], .int 1, .int 1] = .ok (.int (m.v.a0 * m.v.a10 - m.v.a2 * m.v.a8)) := by
  rw [u__law_minor]
  unfold b__law_minor
  have h : k + k < 1000000 := by omega
  simp! [slT, ct0, ct1, ct2]
theorem lm_1_2 (n : Nat) (m : Mv) {k : Nat} [A : BdV m.v k] (hk : k ≤ 8000) : evF pg (n + 1) i__law_minor [.tuple [.int m.v.a0, .int m.v.a1, .int m.v.a2, .int m.v.a3, .int m.v.a4, .int m.v.a5, .int m.v.a6, .int m.v.a7, .int m.v.a8, .int m.v.a9, .int m.v.a10, .int m.v.a11], .int 1, .int 2] = .ok (.int (m.v.a0 * m.v.a9 - m.v.a1 * m.v.a8)) := by
  rw [u__law_minor]
  unfold b__law_minor
  have h : k + k < 1000000 := by omega
  simp! [slT, ct0, ct1, ct2]
theorem lm_2_0 (n : Nat) (m : Mv) {k : Nat} [A : BdV m.v k] (hk : k ≤ 8000) : evF pg (n + 1) i__law_minor [.tuple [.int m.v.a0, .int m.v.a1, .int m.v.a2, .int m.v.a3, .int m.v.a4, .int m.v.a5, .int m.v.a6, .int m.v.a7, .int m.v.a8, .int m.v.a9, .int m.v.a10, .int m.v.a11], .int 2, .int 0] = .ok (.int (m.v.a1 * m.v.a6 - m.v.a2 * m.v.a5)) := by
  rw [u__law_minor]
  unfold b__law_minor
  have h : k + k < 1000000 := by omega
  simp! [slT, ct0, ct1, ct2]
theorem lm_2_1 (n : Nat) (m : Mv) {k : Nat} [A : BdV m.v k] (hk : k ≤ 8000) : evF pg (n + 1) i__law_minor [.tuple [.int m.v.a0, .int m.v.a1, .int m.v.a2, .int m.v.a3, .int m.v.a4, .int m.v.a5, .int m.v.a6, .int m.v.a7, .int m.v.a8, .int m.v.a9, .int m.v.a10, .int m.v.a11], .int 2, .int 1] = .ok (.int (m.v.a0 * m.v.a6 - m.v.a2 * m.v.a4)) := by
  rw [u__law_minor]
  unfold b__law_minor
  have h : k + k < 1000000 := by omega
  simp! [slT, ct0, ct1, ct2]
theorem lm_2_2 (n : Nat) (m : Mv) {k : Nat} [A : BdV m.v k] (hk : k ≤ 8000) : evF pg (n + 1) i__law_minor [.tuple [.int m.v.a0, .int m.v.a1, .int m.v.a2, .int m.v.a3, .int m.v.a4, .int m.v.a5, .int m.v.a6, .int m.v.a7, .int m.v.a8, .int m.v.a9, .int m.v.a10, .int m.v.a11], .int 2, .int 2] = .ok (.int (m.v.a0 * m.v.a5 - m.v.a1 * m.v.a4)) := by
  rw [u__law_minor]
  unfold b__law_minor
  have h : k + k < 1000000 := by omega
  simp! [slT, ct0, ct1, ct2]
theorem ev_ldet (n : Nat) (m : Mv) {k : Nat} [A : BdV m.v k] (hk : k ≤ 2000) : evF pg (n + 2) i__law_determinant [.tuple [.int m.v.a0, .int m.v.a1, .int m.v.a2, .int m.v.a3, .int m.v.a4, .int m.v.a5, .int m.v.a6, .int m.v.a7, .int m.v.a8, .int m.v.a9, .int m.v.a10, .int m.v.a11]] = .ok (.int (det m)) := by
  rw [u__law_determinant]
  unfold b__law_determinant
  have h1 : k ≤ 8000 := by omega
  have h2 : 1 + k < 1000000 := by omega
  have h : 1 + k + (max (k + k) (k + k) + 1) < 1000000 := by omega
  simp! [lm_0_0, lm_0_1, lm_0_2]
  congr 2
  unfold det
  grind
def backV (m : Mv) : V12 := ⟨m.d * (m.v.a5 * m.v.a10 - m.v.a6 * m.v.a9), m.d * (m.v.a9 * m.v.a2 - m.v.a10 * m.v.a1), m.d * (m.v.a1 * m.v.a6 - m.v.a2 * m.v.a5), -((m.v.a5 * m.v.a10 - m.v.a6 * m.v.a9) * m.v.a3 + (m.v.a9 * m.v.a2 - m.v.a10 * m.v.a1) * m.v.a7 + (m.v.a1 * m.v.a6 - m.v.a2 * m.v.a5) * m.v.a11), m.d * (m.v.a6 * m.v.a8 - m.v.a4 * m.v.a10), m.d * (m.v.a10 * m.v.a0 - m.v.a8 * m.v.a2), m.d * (m.v.a2 * m.v.a4 - m.v.a0 * m.v.a6), -((m.v.a6 * m.v.a8 - m.v.a4 * m.v.a10) * m.v.a3 + (m.v.a10 * m.v.a0 - m.v.a8 * m.v.a2) * m.v.a7 + (m.v.a2 * m.v.a4 - m.v.a0 * m.v.a6) * m.v.a11), m.d * (m.v.a4 * m.v.a9 - m.v.a5 * m.v.a8), m.d * (m.v.a8 * m.v.a1 - m.v.a9 * m.v.a0), m.d * (m.v.a0 * m.v.a5 - m.v.a1 * m.v.a4), -((m.v.a4 * m.v.a9 - m.v.a5 * m.v.a8) * m.v.a3 + (m.v.a8 * m.v.a1 - m.v.a9 * m.v.a0) * m.v.a7 + (m.v.a0 * m.v.a5 - m.v.a1 * m.v.a4) * m.v.a11)⟩
def backM (m : Mv) : Mv := lowM (backV m) (det m)
instance backV_bd (m : Mv) {i : Nat} [A : BdV m.v i] [A2 : Bd m.d i] : BdV (backV m) (3 * i + 4) := by
  have key : ∀ {x : Int} {k : Nat}, Bd x k → k ≤ 3 * i + 4 → x.natAbs < 2 ^ (3 * i + 4) := fun B h => (B.up h).h
  unfold backV
  exact ⟨key inferInstance (by omega), key inferInstance (by omega), key inferInstance (by omega), key inferInstance (by omega), key inferInstance (by omega), key inferInstance (by omega), key inferInstance (by omega), key inferInstance (by omega), key inferInstance (by omega), key inferInstance (by omega), key inferInstance (by omega), key inferInstance (by omega)⟩
section
variable (n : Nat) {m : Mv} {i : Nat} (ha : IsM m i) (hi : i ≤ 60)
include ha hi
theorem bk_0 (L : List PD) (x4 x5 x6 x7 : Option PD) (hl : L.length < 90) : ∃ x4' x6', evSs (sgOf pg (n + 4)) l_back_1 ([2], [some (MD m), some (.int (det m)), some (.list L), some (.int 0), x4, x5, x6, x7]) = .nx ([2], [some (MD m), some (.int (det m)), some (.list (L ++ [.int (m.d * (m.v.a5 * m.v.a10 - m.v.a6 * m.v.a9)), .int (m.d * (m.v.a9 * m.v.a2 - m.v.a10 * m.v.a1)), .int (m.d * (m.v.a1 * m.v.a6 - m.v.a2 * m.v.a5)), .int (-((m.v.a5 * m.v.a10 - m.v.a6 * m.v.a9) * m.v.a3 + (m.v.a9 * m.v.a2 - m.v.a10 * m.v.a1) * m.v.a7 + (m.v.a1 * m.v.a6 - m.v.a2 * m.v.a5) * m.v.a11))])), some (.int 0), x4', x5, x6', x7]) := by
  unfold l_back_1
  have A := ha.b
  have A2 := ha.d
  have h1 : i ≤ 8000 := by omega
  refine ⟨some (.list [.int (m.v.a5 * m.v.a10 - m.v.a6 * m.v.a9), .int (m.v.a9 * m.v.a2 - m.v.a10 * m.v.a1), .int (m.v.a1 * m.v.a6 - m.v.a2 * m.v.a5)]), some (.int ((m.v.a5 * m.v.a10 - m.v.a6 * m.v.a9) * m.v.a3 + (m.v.a9 * m.v.a2 - m.v.a10 * m.v.a1) * m.v.a7 + (m.v.a1 * m.v.a6 - m.v.a2 * m.v.a5) * m.v.a11)), seq1 (s' := ([2], [some (MD m), some (.int (det m)), some (.list L), some (.int 0), some (.list [.int (m.v.a5 * m.v.a10 - m.v.a6 * m.v.a9), .int (m.v.a9 * m.v.a2 - m.v.a10 * m.v.a1), .int (m.v.a1 * m.v.a6 - m.v.a2 * m.v.a5)]), x5, x6, x7])) ?_ (seq1 (s' := ([2], [some (MD m), some (.int (det m)), some (.list L), some (.int 0), some (.list [.int (m.v.a5 * m.v.a10 - m.v.a6 * m.v.a9), .int (m.v.a9 * m.v.a2 - m.v.a10 * m.v.a1), .int (m.v.a1 * m.v.a6 - m.v.a2 * m.v.a5)]), x5, some (.int ((m.v.a5 * m.v.a10 - m.v.a6 * m.v.a9) * m.v.a3 + (m.v.a9 * m.v.a2 - m.v.a10 * m.v.a1) * m.v.a7 + (m.v.a1 * m.v.a6 - m.v.a2 * m.v.a5) * m.v.a11)), x7])) ?_ (seq1 (s' := ([2], [some (MD m), some (.int (det m)), some (.list (L ++ [.int (m.d * (m.v.a5 * m.v.a10 - m.v.a6 * m.v.a9)), .int (m.d * (m.v.a9 * m.v.a2 - m.v.a10 * m.v.a1)), .int (m.d * (m.v.a1 * m.v.a6 - m.v.a2 * m.v.a5))])), some (.int 0), some (.list [.int (m.v.a5 * m.v.a10 - m.v.a6 * m.v.a9), .int (m.v.a9 * m.v.a2 - m.v.a10 * m.v.a1), .int (m.v.a1 * m.v.a6 - m.v.a2 * m.v.a5)]), x5, some (.int ((m.v.a5 * m.v.a10 - m.v.a6 * m.v.a9) * m.v.a3 + (m.v.a9 * m.v.a2 - m.v.a10 * m.v.a1) * m.v.a7 + (m.v.a1 * m.v.a6 - m.v.a2 * m.v.a5) * m.v.a11)), x7])) ?_ (seq1 (app_at (x := .int (-((m.v.a5 * m.v.a10 - m.v.a6 * m.v.a9) * m.v.a3 + (m.v.a9 * m.v.a2 - m.v.a10 * m.v.a1) * m.v.a7 + (m.v.a1 * m.v.a6 - m.v.a2 * m.v.a5) * m.v.a11))) rfl rfl (by simp) rfl (by simp; omega)) ?_)))⟩
  · simp! [mn_0_0, mn_1_0, mn_2_0]
    rfl
  · simp! [en_0_3, en_1_3, en_2_3]
    rw [show (m.v.a5 * m.v.a10 - m.v.a6 * m.v.a9) * m.v.a3 + ((m.v.a9 * m.v.a2 - m.v.a10 * m.v.a1) * m.v.a7 + ((m.v.a1 * m.v.a6 - m.v.a2 * m.v.a5) * m.v.a11 + 0)) = (m.v.a5 * m.v.a10 - m.v.a6 * m.v.a9) * m.v.a3 + (m.v.a9 * m.v.a2 - m.v.a10 * m.v.a1) * m.v.a7 + (m.v.a1 * m.v.a6 - m.v.a2 * m.v.a5) * m.v.a11 by omega]
    rfl
  · rw [evS]
    have h3 : L.length + 3 ≤ sLine := by unfold sLine; omega
    simp! []
    rw [if_pos (show 2 ∈ Fe.dl [2] [] by decide), if_pos h3]
    rfl
  · simp only [List.append_assoc, List.cons_append, List.nil_append]
    rfl
theorem bk_1 (L : List PD) (x4 x5 x6 x7 : Option PD) (hl : L.length < 90) : ∃ x4' x6', evSs (sgOf pg (n + 4)) l_back_1 ([2], [some (MD m), some (.int (det m)), some (.list L), some (.int 1), x4, x5, x6, x7]) = .nx ([2], [some (MD m), some (.int (det m)), some (.list (L ++ [.int (m.d * (m.v.a6 * m.v.a8 - m.v.a4 * m.v.a10)), .int (m.d * (m.v.a10 * m.v.a0 - m.v.a8 * m.v.a2)), .int (m.d * (m.v.a2 * m.v.a4 - m.v.a0 * m.v.a6)), .int (-((m.v.a6 * m.v.a8 - m.v.a4 * m.v.a10) * m.v.a3 + (m.v.a10 * m.v.a0 - m.v.a8 * m.v.a2) * m.v.a7 + (m.v.a2 * m.v.a4 - m.v.a0 * m.v.a6) * m.v.a11))])), some (.int 1), x4', x5, x6', x7]) := by
  unfold l_back_1
  have A := ha.b
  have A2 := ha.d
  have h1 : i ≤ 8000 := by omega
  refine ⟨some (.list [.int (m.v.a6 * m.v.a8 - m.v.a4 * m.v.a10), .int (m.v.a10 * m.v.a0 - m.v.a8 * m.v.a2), .int (m.v.a2 * m.v.a4 - m.v.a0 * m.v.a6)]), some (.int ((m.v.a6 * m.v.a8 - m.v.a4 * m.v.a10) * m.v.a3 + (m.v.a10 * m.v.a0 - m.v.a8 * m.v.a2) * m.v.a7 + (m.v.a2 * m.v.a4 - m.v.a0 * m.v.a6) * m.v.a11)), seq1 (s' := ([2], [some (MD m), some (.int (det m)), some (.list L), some (.int 1), some (.list [.int (m.v.a6 * m.v.a8 - m.v.a4 * m.v.a10), .int (m.v.a10 * m.v.a0 - m.v.a8 * m.v.a2), .int (m.v.a2 * m.v.a4 - m.v.a0 * m.v.a6)]), x5, x6, x7])) ?_ (seq1 (s' := ([2], [some (MD m), some (.int (det m)), some (.list L), some (.int 1), some (.list [.int (m.v.a6 * m.v.a8 - m.v.a4 * m.v.a10), .int (m.v.a10 * m.v.a0 - m.v.a8 * m.v.a2), .int (m.v.a2 * m.v.a4 - m.v.a0 * m.v.a6)]), x5, some (.int ((m.v.a6 * m.v.a8 - m.v.a4 * m.v.a10) * m.v.a3 + (m.v.a10 * m.v.a0 - m.v.a8 * m.v.a2) * m.v.a7 + (m.v.a2 * m.v.a4 - m.v.a0 * m.v.a6) * m.v.a11)), x7])) ?_ (seq1 (s' := ([2], [some (MD m), some (.int (det m)), some (.list (L ++ [.int (m.d * (m.v.a6 * m.v.a8 - m.v.a4 * m.v.a10)), .int (m.d * (m.v.a10 * m.v.a0 - m.v.a8 * m.v.a2)), .int (m.d * (m.v.a2 * m.v.a4 - m.v.a0 * m.v.a6))])), some (.int 1), some (.list [.int (m.v.a6 * m.v.a8 - m.v.a4 * m.v.a10), .int (m.v.a10 * m.v.a0 - m.v.a8 * m.v.a2), .int (m.v.a2 * m.v.a4 - m.v.a0 * m.v.a6)]), x5, some (.int ((m.v.a6 * m.v.a8 - m.v.a4 * m.v.a10) * m.v.a3 + (m.v.a10 * m.v.a0 - m.v.a8 * m.v.a2) * m.v.a7 + (m.v.a2 * m.v.a4 - m.v.a0 * m.v.a6) * m.v.a11)), x7])) ?_ (seq1 (app_at (x := .int (-((m.v.a6 * m.v.a8 - m.v.a4 * m.v.a10) * m.v.a3 + (m.v.a10 * m.v.a0 - m.v.a8 * m.v.a2) * m.v.a7 + (m.v.a2 * m.v.a4 - m.v.a0 * m.v.a6) * m.v.a11))) rfl rfl (by simp) rfl (by simp; omega)) ?_)))⟩
  · simp! [mn_0_1, mn_1_1, mn_2_1]
    rfl
  · simp! [en_0_3, en_1_3, en_2_3]
    rw [show (m.v.a6 * m.v.a8 - m.v.a4 * m.v.a10) * m.v.a3 + ((m.v.a10 * m.v.a0 - m.v.a8 * m.v.a2) * m.v.a7 + ((m.v.a2 * m.v.a4 - m.v.a0 * m.v.a6) * m.v.a11 + 0)) = (m.v.a6 * m.v.a8 - m.v.a4 * m.v.a10) * m.v.a3 + (m.v.a10 * m.v.a0 - m.v.a8 * m.v.a2) * m.v.a7 + (m.v.a2 * m.v.a4 - m.v.a0 * m.v.a6) * m.v.a11 by omega]
    rfl
  · rw [evS]
    have h3 : L.length + 3 ≤ sLine := by unfold sLine; omega
    simp! []
    rw [if_pos (show 2 ∈ Fe.dl [2] [] by decide), if_pos h3]
    rfl
  · simp only [List.append_assoc, List.cons_append, List.nil_append]
    rfl
theorem bk_2 (L : List PD) (x4 x5 x6 x7 : Option PD) (hl : L.length < 90) : ∃ x4' x6', evSs (sgOf pg (n + 4)) l_back_1 ([2], [some (MD m), some (.int (det m)), some (.list L), some (.int 2), x4, x5, x6, x7]) = .nx ([2], [some (MD m), some (.int (det m)), some (.list (L ++ [.int (m.d * (m.v.a4 * m.v.a9 - m.v.a5 * m.v.a8)), .int (m.d * (m.v.a8 * m.v.a1 - m.v.a9 * m.v.a0)), .int (m.d * (m.v.a0 * m.v.a5 - m.v.a1 * m.v.a4)), .int (-((m.v.a4 * m.v.a9 - m.v.a5 * m.v.a8) * m.v.a3 + (m.v.a8 * m.v.a1 - m.v.a9 * m.v.a0) * m.v.a7 + (m.v.a0 * m.v.a5 - m.v.a1 * m.v.a4) * m.v.a11))])), some (.int 2), x4', x5, x6', x7]) := by
  unfold l_back_1
  have A := ha.b
  have A2 := ha.d
  have h1 : i ≤ 8000 := by omega
  refine ⟨some (.list [.int (m.v.a4 * m.v.a9 - m.v.a5 * m.v.a8), .int (m.v.a8 * m.v.a1 - m.v.a9 * m.v.a0), .int (m.v.a0 * m.v.a5 - m.v.a1 * m.v.a4)]), some (.int ((m.v.a4 * m.v.a9 - m.v.a5 * m.v.a8) * m.v.a3 + (m.v.a8 * m.v.a1 - m.v.a9 * m.v.a0) * m.v.a7 + (m.v.a0 * m.v.a5 - m.v.a1 * m.v.a4) * m.v.a11)), seq1 (s' := ([2], [some (MD m), some (.int (det m)), some (.list L), some (.int 2), some (.list [.int (m.v.a4 * m.v.a9 - m.v.a5 * m.v.a8), .int (m.v.a8 * m.v.a1 - m.v.a9 * m.v.a0), .int (m.v.a0 * m.v.a5 - m.v.a1 * m.v.a4)]), x5, x6, x7])) ?_ (seq1 (s' := ([2], [some (MD m), some (.int (det m)), some (.list L), some (.int 2), some (.list [.int (m.v.a4 * m.v.a9 - m.v.a5 * m.v.a8), .int (m.v.a8 * m.v.a1 - m.v.a9 * m.v.a0), .int (m.v.a0 * m.v.a5 - m.v.a1 * m.v.a4)]), x5, some (.int ((m.v.a4 * m.v.a9 - m.v.a5 * m.v.a8) * m.v.a3 + (m.v.a8 * m.v.a1 - m.v.a9 * m.v.a0) * m.v.a7 + (m.v.a0 * m.v.a5 - m.v.a1 * m.v.a4) * m.v.a11)), x7])) ?_ (seq1 (s' := ([2], [some (MD m), some (.int (det m)), some (.list (L ++ [.int (m.d * (m.v.a4 * m.v.a9 - m.v.a5 * m.v.a8)), .int (m.d * (m.v.a8 * m.v.a1 - m.v.a9 * m.v.a0)), .int (m.d * (m.v.a0 * m.v.a5 - m.v.a1 * m.v.a4))])), some (.int 2), some (.list [.int (m.v.a4 * m.v.a9 - m.v.a5 * m.v.a8), .int (m.v.a8 * m.v.a1 - m.v.a9 * m.v.a0), .int (m.v.a0 * m.v.a5 - m.v.a1 * m.v.a4)]), x5, some (.int ((m.v.a4 * m.v.a9 - m.v.a5 * m.v.a8) * m.v.a3 + (m.v.a8 * m.v.a1 - m.v.a9 * m.v.a0) * m.v.a7 + (m.v.a0 * m.v.a5 - m.v.a1 * m.v.a4) * m.v.a11)), x7])) ?_ (seq1 (app_at (x := .int (-((m.v.a4 * m.v.a9 - m.v.a5 * m.v.a8) * m.v.a3 + (m.v.a8 * m.v.a1 - m.v.a9 * m.v.a0) * m.v.a7 + (m.v.a0 * m.v.a5 - m.v.a1 * m.v.a4) * m.v.a11))) rfl rfl (by simp) rfl (by simp; omega)) ?_)))⟩
  · simp! [mn_0_2, mn_1_2, mn_2_2]
    rfl
  · simp! [en_0_3, en_1_3, en_2_3]
    rw [show (m.v.a4 * m.v.a9 - m.v.a5 * m.v.a8) * m.v.a3 + ((m.v.a8 * m.v.a1 - m.v.a9 * m.v.a0) * m.v.a7 + ((m.v.a0 * m.v.a5 - m.v.a1 * m.v.a4) * m.v.a11 + 0)) = (m.v.a4 * m.v.a9 - m.v.a5 * m.v.a8) * m.v.a3 + (m.v.a8 * m.v.a1 - m.v.a9 * m.v.a0) * m.v.a7 + (m.v.a0 * m.v.a5 - m.v.a1 * m.v.a4) * m.v.a11 by omega]
    rfl
  · rw [evS]
    have h3 : L.length + 3 ≤ sLine := by unfold sLine; omega
    simp! []
    rw [if_pos (show 2 ∈ Fe.dl [2] [] by decide), if_pos h3]
    rfl
  · simp only [List.append_assoc, List.cons_append, List.nil_append]
    rfl
theorem ev_back0 (h : det m = 0) : evF pg (n + 5) i_back [MD m] = .exc "NoWay" 0 := by
  rw [u_back]
  unfold b_back
  have A := ha.b
  simp! [ev_chk n ha (by omega), ev_whole, h, fexc]
theorem ev_back (h : det m ≠ 0) : evF pg (n + 5) i_back [MD m] = .ok (MD (backM m)) := by
  rw [u_back]
  unfold b_back
  have A := ha.b
  have A2 := ha.d
  have l := ev_leastL (n + 1) (backV m) (det m) h (by omega) (by omega)
  obtain ⟨x1, y1, r1⟩ := bk_0 n ha hi [] none none none none (by simp)
  obtain ⟨x2, y2, r2⟩ := bk_1 n ha hi [.int (m.d * (m.v.a5 * m.v.a10 - m.v.a6 * m.v.a9)), .int (m.d * (m.v.a9 * m.v.a2 - m.v.a10 * m.v.a1)), .int (m.d * (m.v.a1 * m.v.a6 - m.v.a2 * m.v.a5)), .int (-((m.v.a5 * m.v.a10 - m.v.a6 * m.v.a9) * m.v.a3 + (m.v.a9 * m.v.a2 - m.v.a10 * m.v.a1) * m.v.a7 + (m.v.a1 * m.v.a6 - m.v.a2 * m.v.a5) * m.v.a11))] x1 none y1 none (by simp)
  obtain ⟨x3, y3, r3⟩ := bk_2 n ha hi [.int (m.d * (m.v.a5 * m.v.a10 - m.v.a6 * m.v.a9)), .int (m.d * (m.v.a9 * m.v.a2 - m.v.a10 * m.v.a1)), .int (m.d * (m.v.a1 * m.v.a6 - m.v.a2 * m.v.a5)), .int (-((m.v.a5 * m.v.a10 - m.v.a6 * m.v.a9) * m.v.a3 + (m.v.a9 * m.v.a2 - m.v.a10 * m.v.a1) * m.v.a7 + (m.v.a1 * m.v.a6 - m.v.a2 * m.v.a5) * m.v.a11)), .int (m.d * (m.v.a6 * m.v.a8 - m.v.a4 * m.v.a10)), .int (m.d * (m.v.a10 * m.v.a0 - m.v.a8 * m.v.a2)), .int (m.d * (m.v.a2 * m.v.a4 - m.v.a0 * m.v.a6)), .int (-((m.v.a6 * m.v.a8 - m.v.a4 * m.v.a10) * m.v.a3 + (m.v.a10 * m.v.a0 - m.v.a8 * m.v.a2) * m.v.a7 + (m.v.a2 * m.v.a4 - m.v.a0 * m.v.a6) * m.v.a11))] x2 none y2 none (by simp)
  simp only [List.append_assoc, List.cons_append, List.nil_append] at r1 r2 r3
  refine congrArg fin (seq1 (s' := ([], [some (MD m), none, none, none, none, none, none, none])) ?_ (seq1 (s' := ([], [some (MD m), some (.int (det m)), none, none, none, none, none, none])) ?_ (seq1 (s' := ([], [some (MD m), some (.int (det m)), none, none, none, none, none, none])) ?_ (seq1 (s' := ([2], [some (MD m), some (.int (det m)), some (.list []), none, none, none, none, none])) rfl (seq1 (s' := ([2], [some (MD m), some (.int (det m)), some (.list (backV m).l), some (.int 2), x3, none, y3, none])) ?_ (seqR (d := MD (backM m)) ?_))))))
  · simp! [ev_chk n ha (by omega)]
  · simp! [ev_whole]
  · simp! [h]
  · have r4 : ∀ ρ, evIt (sgOf pg (n + 4)) (.r1 (.int 3)) ρ = .ok [.int 0, .int 1, .int 2] := fun _ => rfl
    rw [evS, r4, sok]
    simp only [forGo, tgSet, List.set_cons_succ, List.set_cons_zero, escItM, escM, esc, show Fe.dl [2] [] = [2] from rfl, r1, r2, r3]
    rfl
  · simp! [l]
    rfl
theorem lb_0 (L : List PD) (x6 x7 : Option PD) (hl : L.length < 90) : ∃ x6', evSs (sgOf pg (n + 2)) l__law_back_1 ([], [some (MD m), some (.tuple [.int m.v.a0, .int m.v.a1, .int m.v.a2, .int m.v.a3, .int m.v.a4, .int m.v.a5, .int m.v.a6, .int m.v.a7, .int m.v.a8, .int m.v.a9, .int m.v.a10, .int m.v.a11]), some (.int m.d), some (.int (det m)), some (.list L), some (.int 0), x6, x7]) = .nx ([], [some (MD m), some (.tuple [.int m.v.a0, .int m.v.a1, .int m.v.a2, .int m.v.a3, .int m.v.a4, .int m.v.a5, .int m.v.a6, .int m.v.a7, .int m.v.a8, .int m.v.a9, .int m.v.a10, .int m.v.a11]), some (.int m.d), some (.int (det m)), some (.list (L ++ [.int (m.d * (m.v.a5 * m.v.a10 - m.v.a6 * m.v.a9)), .int (m.d * (m.v.a9 * m.v.a2 - m.v.a10 * m.v.a1)), .int (m.d * (m.v.a1 * m.v.a6 - m.v.a2 * m.v.a5)), .int (-((m.v.a5 * m.v.a10 - m.v.a6 * m.v.a9) * m.v.a3 + (m.v.a9 * m.v.a2 - m.v.a10 * m.v.a1) * m.v.a7 + (m.v.a1 * m.v.a6 - m.v.a2 * m.v.a5) * m.v.a11))])), some (.int 0), x6', x7]) := by
  unfold l__law_back_1
  have A := ha.b
  have A2 := ha.d
  have d0 : m.d ≠ 0 := by have := ha.ok.d; omega
  have h1 : i ≤ 8000 := by omega
  have h2 : i < 9000 := by omega
  refine ⟨_, seq1 (s' := ([], [some (MD m), some (.tuple [.int m.v.a0, .int m.v.a1, .int m.v.a2, .int m.v.a3, .int m.v.a4, .int m.v.a5, .int m.v.a6, .int m.v.a7, .int m.v.a8, .int m.v.a9, .int m.v.a10, .int m.v.a11]), some (.int m.d), some (.int (det m)), some (.list L), some (.int 0), some (.list [.int (1 * (m.v.a5 * m.v.a10 - m.v.a6 * m.v.a9) * m.d), .int (-1 * (m.v.a1 * m.v.a10 - m.v.a2 * m.v.a9) * m.d), .int (1 * (m.v.a1 * m.v.a6 - m.v.a2 * m.v.a5) * m.d)]), x7])) ?_ (seq1 (s' := ([], [some (MD m), some (.tuple [.int m.v.a0, .int m.v.a1, .int m.v.a2, .int m.v.a3, .int m.v.a4, .int m.v.a5, .int m.v.a6, .int m.v.a7, .int m.v.a8, .int m.v.a9, .int m.v.a10, .int m.v.a11]), some (.int m.d), some (.int (det m)), some (.list (L ++ [.int (m.d * (m.v.a5 * m.v.a10 - m.v.a6 * m.v.a9)), .int (m.d * (m.v.a9 * m.v.a2 - m.v.a10 * m.v.a1)), .int (m.d * (m.v.a1 * m.v.a6 - m.v.a2 * m.v.a5)), .int (-((m.v.a5 * m.v.a10 - m.v.a6 * m.v.a9) * m.v.a3 + (m.v.a9 * m.v.a2 - m.v.a10 * m.v.a1) * m.v.a7 + (m.v.a1 * m.v.a6 - m.v.a2 * m.v.a5) * m.v.a11))])), some (.int 0), some (.list [.int (1 * (m.v.a5 * m.v.a10 - m.v.a6 * m.v.a9) * m.d), .int (-1 * (m.v.a1 * m.v.a10 - m.v.a2 * m.v.a9) * m.d), .int (1 * (m.v.a1 * m.v.a6 - m.v.a2 * m.v.a5) * m.d)]), x7])) ?_ rfl)⟩
  · simp! [lm_0_0, lm_1_0, lm_2_0]
    all_goals rfl
  · have o1 : okLen (L.length + 3) = true := decide_eq_true (by unfold sLine; omega)
    have o2 : okLen (L.length + 3 + 1) = true := decide_eq_true (by unfold sLine; omega)
    have bad : ∀ a b : List PD, binV .add (.list a) (.list b) = if okLen (a.length + b.length) then .ok (.list (a ++ b)) else .bad := fun _ _ => rfl
    have hs : Int.fdiv (-(1 * (m.v.a5 * m.v.a10 - m.v.a6 * m.v.a9) * m.d * m.v.a3 + (-1 * (m.v.a1 * m.v.a10 - m.v.a2 * m.v.a9) * m.d * m.v.a7 + (1 * (m.v.a1 * m.v.a6 - m.v.a2 * m.v.a5) * m.d * m.v.a11 + 0)))) m.d = -((m.v.a5 * m.v.a10 - m.v.a6 * m.v.a9) * m.v.a3 + (m.v.a9 * m.v.a2 - m.v.a10 * m.v.a1) * m.v.a7 + (m.v.a1 * m.v.a6 - m.v.a2 * m.v.a5) * m.v.a11) := by
      rw [show (-(1 * (m.v.a5 * m.v.a10 - m.v.a6 * m.v.a9) * m.d * m.v.a3 + (-1 * (m.v.a1 * m.v.a10 - m.v.a2 * m.v.a9) * m.d * m.v.a7 + (1 * (m.v.a1 * m.v.a6 - m.v.a2 * m.v.a5) * m.d * m.v.a11 + 0)))) = m.d * (-((m.v.a5 * m.v.a10 - m.v.a6 * m.v.a9) * m.v.a3 + (m.v.a9 * m.v.a2 - m.v.a10 * m.v.a1) * m.v.a7 + (m.v.a1 * m.v.a6 - m.v.a2 * m.v.a5) * m.v.a11)) by grind]
      exact Int.mul_fdiv_cancel_left _ d0
    have e0 : 1 * (m.v.a5 * m.v.a10 - m.v.a6 * m.v.a9) * m.d = m.d * (m.v.a5 * m.v.a10 - m.v.a6 * m.v.a9) := by grind
    have e1 : -1 * (m.v.a1 * m.v.a10 - m.v.a2 * m.v.a9) * m.d = m.d * (m.v.a9 * m.v.a2 - m.v.a10 * m.v.a1) := by grind
    have e2 : 1 * (m.v.a1 * m.v.a6 - m.v.a2 * m.v.a5) * m.d = m.d * (m.v.a1 * m.v.a6 - m.v.a2 * m.v.a5) := by grind
    simp! [bad, List.length_append, o1, o2, hs, List.append_assoc]
    rw [e0, e1, e2]
    all_goals rfl
theorem lb_1 (L : List PD) (x6 x7 : Option PD) (hl : L.length < 90) : ∃ x6', evSs (sgOf pg (n + 2)) l__law_back_1 ([], [some (MD m), some (.tuple [.int m.v.a0, .int m.v.a1, .int m.v.a2, .int m.v.a3, .int m.v.a4, .int m.v.a5, .int m.v.a6, .int m.v.a7, .int m.v.a8, .int m.v.a9, .int m.v.a10, .int m.v.a11]), some (.int m.d), some (.int (det m)), some (.list L), some (.int 1), x6, x7]) = .nx ([], [some (MD m), some (.tuple [.int m.v.a0, .int m.v.a1, .int m.v.a2, .int m.v.a3, .int m.v.a4, .int m.v.a5, .int m.v.a6, .int m.v.a7, .int m.v.a8, .int m.v.a9, .int m.v.a10, .int m.v.a11]), some (.int m.d), some (.int (det m)), some (.list (L ++ [.int (m.d * (m.v.a6 * m.v.a8 - m.v.a4 * m.v.a10)), .int (m.d * (m.v.a10 * m.v.a0 - m.v.a8 * m.v.a2)), .int (m.d * (m.v.a2 * m.v.a4 - m.v.a0 * m.v.a6)), .int (-((m.v.a6 * m.v.a8 - m.v.a4 * m.v.a10) * m.v.a3 + (m.v.a10 * m.v.a0 - m.v.a8 * m.v.a2) * m.v.a7 + (m.v.a2 * m.v.a4 - m.v.a0 * m.v.a6) * m.v.a11))])), some (.int 1), x6', x7]) := by
  unfold l__law_back_1
  have A := ha.b
  have A2 := ha.d
  have d0 : m.d ≠ 0 := by have := ha.ok.d; omega
  have h1 : i ≤ 8000 := by omega
  have h2 : i < 9000 := by omega
  refine ⟨_, seq1 (s' := ([], [some (MD m), some (.tuple [.int m.v.a0, .int m.v.a1, .int m.v.a2, .int m.v.a3, .int m.v.a4, .int m.v.a5, .int m.v.a6, .int m.v.a7, .int m.v.a8, .int m.v.a9, .int m.v.a10, .int m.v.a11]), some (.int m.d), some (.int (det m)), some (.list L), some (.int 1), some (.list [.int (-1 * (m.v.a4 * m.v.a10 - m.v.a6 * m.v.a8) * m.d), .int (1 * (m.v.a0 * m.v.a10 - m.v.a2 * m.v.a8) * m.d), .int (-1 * (m.v.a0 * m.v.a6 - m.v.a2 * m.v.a4) * m.d)]), x7])) ?_ (seq1 (s' := ([], [some (MD m), some (.tuple [.int m.v.a0, .int m.v.a1, .int m.v.a2, .int m.v.a3, .int m.v.a4, .int m.v.a5, .int m.v.a6, .int m.v.a7, .int m.v.a8, .int m.v.a9, .int m.v.a10, .int m.v.a11]), some (.int m.d), some (.int (det m)), some (.list (L ++ [.int (m.d * (m.v.a6 * m.v.a8 - m.v.a4 * m.v.a10)), .int (m.d * (m.v.a10 * m.v.a0 - m.v.a8 * m.v.a2)), .int (m.d * (m.v.a2 * m.v.a4 - m.v.a0 * m.v.a6)), .int (-((m.v.a6 * m.v.a8 - m.v.a4 * m.v.a10) * m.v.a3 + (m.v.a10 * m.v.a0 - m.v.a8 * m.v.a2) * m.v.a7 + (m.v.a2 * m.v.a4 - m.v.a0 * m.v.a6) * m.v.a11))])), some (.int 1), some (.list [.int (-1 * (m.v.a4 * m.v.a10 - m.v.a6 * m.v.a8) * m.d), .int (1 * (m.v.a0 * m.v.a10 - m.v.a2 * m.v.a8) * m.d), .int (-1 * (m.v.a0 * m.v.a6 - m.v.a2 * m.v.a4) * m.d)]), x7])) ?_ rfl)⟩
  · simp! [lm_0_1, lm_1_1, lm_2_1]
    all_goals rfl
  · have o1 : okLen (L.length + 3) = true := decide_eq_true (by unfold sLine; omega)
    have o2 : okLen (L.length + 3 + 1) = true := decide_eq_true (by unfold sLine; omega)
    have bad : ∀ a b : List PD, binV .add (.list a) (.list b) = if okLen (a.length + b.length) then .ok (.list (a ++ b)) else .bad := fun _ _ => rfl
    have hs : Int.fdiv (-(-1 * (m.v.a4 * m.v.a10 - m.v.a6 * m.v.a8) * m.d * m.v.a3 + (1 * (m.v.a0 * m.v.a10 - m.v.a2 * m.v.a8) * m.d * m.v.a7 + (-1 * (m.v.a0 * m.v.a6 - m.v.a2 * m.v.a4) * m.d * m.v.a11 + 0)))) m.d = -((m.v.a6 * m.v.a8 - m.v.a4 * m.v.a10) * m.v.a3 + (m.v.a10 * m.v.a0 - m.v.a8 * m.v.a2) * m.v.a7 + (m.v.a2 * m.v.a4 - m.v.a0 * m.v.a6) * m.v.a11) := by
      rw [show (-(-1 * (m.v.a4 * m.v.a10 - m.v.a6 * m.v.a8) * m.d * m.v.a3 + (1 * (m.v.a0 * m.v.a10 - m.v.a2 * m.v.a8) * m.d * m.v.a7 + (-1 * (m.v.a0 * m.v.a6 - m.v.a2 * m.v.a4) * m.d * m.v.a11 + 0)))) = m.d * (-((m.v.a6 * m.v.a8 - m.v.a4 * m.v.a10) * m.v.a3 + (m.v.a10 * m.v.a0 - m.v.a8 * m.v.a2) * m.v.a7 + (m.v.a2 * m.v.a4 - m.v.a0 * m.v.a6) * m.v.a11)) by grind]
      exact Int.mul_fdiv_cancel_left _ d0
    have e0 : -1 * (m.v.a4 * m.v.a10 - m.v.a6 * m.v.a8) * m.d = m.d * (m.v.a6 * m.v.a8 - m.v.a4 * m.v.a10) := by grind
    have e1 : 1 * (m.v.a0 * m.v.a10 - m.v.a2 * m.v.a8) * m.d = m.d * (m.v.a10 * m.v.a0 - m.v.a8 * m.v.a2) := by grind
    have e2 : -1 * (m.v.a0 * m.v.a6 - m.v.a2 * m.v.a4) * m.d = m.d * (m.v.a2 * m.v.a4 - m.v.a0 * m.v.a6) := by grind
    simp! [bad, List.length_append, o1, o2, hs, List.append_assoc]
    rw [e0, e1, e2]
    all_goals rfl
theorem lb_2 (L : List PD) (x6 x7 : Option PD) (hl : L.length < 90) : ∃ x6', evSs (sgOf pg (n + 2)) l__law_back_1 ([], [some (MD m), some (.tuple [.int m.v.a0, .int m.v.a1, .int m.v.a2, .int m.v.a3, .int m.v.a4, .int m.v.a5, .int m.v.a6, .int m.v.a7, .int m.v.a8, .int m.v.a9, .int m.v.a10, .int m.v.a11]), some (.int m.d), some (.int (det m)), some (.list L), some (.int 2), x6, x7]) = .nx ([], [some (MD m), some (.tuple [.int m.v.a0, .int m.v.a1, .int m.v.a2, .int m.v.a3, .int m.v.a4, .int m.v.a5, .int m.v.a6, .int m.v.a7, .int m.v.a8, .int m.v.a9, .int m.v.a10, .int m.v.a11]), some (.int m.d), some (.int (det m)), some (.list (L ++ [.int (m.d * (m.v.a4 * m.v.a9 - m.v.a5 * m.v.a8)), .int (m.d * (m.v.a8 * m.v.a1 - m.v.a9 * m.v.a0)), .int (m.d * (m.v.a0 * m.v.a5 - m.v.a1 * m.v.a4)), .int (-((m.v.a4 * m.v.a9 - m.v.a5 * m.v.a8) * m.v.a3 + (m.v.a8 * m.v.a1 - m.v.a9 * m.v.a0) * m.v.a7 + (m.v.a0 * m.v.a5 - m.v.a1 * m.v.a4) * m.v.a11))])), some (.int 2), x6', x7]) := by
  unfold l__law_back_1
  have A := ha.b
  have A2 := ha.d
  have d0 : m.d ≠ 0 := by have := ha.ok.d; omega
  have h1 : i ≤ 8000 := by omega
  have h2 : i < 9000 := by omega
  refine ⟨_, seq1 (s' := ([], [some (MD m), some (.tuple [.int m.v.a0, .int m.v.a1, .int m.v.a2, .int m.v.a3, .int m.v.a4, .int m.v.a5, .int m.v.a6, .int m.v.a7, .int m.v.a8, .int m.v.a9, .int m.v.a10, .int m.v.a11]), some (.int m.d), some (.int (det m)), some (.list L), some (.int 2), some (.list [.int (1 * (m.v.a4 * m.v.a9 - m.v.a5 * m.v.a8) * m.d), .int (-1 * (m.v.a0 * m.v.a9 - m.v.a1 * m.v.a8) * m.d), .int (1 * (m.v.a0 * m.v.a5 - m.v.a1 * m.v.a4) * m.d)]), x7])) ?_ (seq1 (s' := ([], [some (MD m), some (.tuple [.int m.v.a0, .int m.v.a1, .int m.v.a2, .int m.v.a3, .int m.v.a4, .int m.v.a5, .int m.v.a6, .int m.v.a7, .int m.v.a8, .int m.v.a9, .int m.v.a10, .int m.v.a11]), some (.int m.d), some (.int (det m)), some (.list (L ++ [.int (m.d * (m.v.a4 * m.v.a9 - m.v.a5 * m.v.a8)), .int (m.d * (m.v.a8 * m.v.a1 - m.v.a9 * m.v.a0)), .int (m.d * (m.v.a0 * m.v.a5 - m.v.a1 * m.v.a4)), .int (-((m.v.a4 * m.v.a9 - m.v.a5 * m.v.a8) * m.v.a3 + (m.v.a8 * m.v.a1 - m.v.a9 * m.v.a0) * m.v.a7 + (m.v.a0 * m.v.a5 - m.v.a1 * m.v.a4) * m.v.a11))])), some (.int 2), some (.list [.int (1 * (m.v.a4 * m.v.a9 - m.v.a5 * m.v.a8) * m.d), .int (-1 * (m.v.a0 * m.v.a9 - m.v.a1 * m.v.a8) * m.d), .int (1 * (m.v.a0 * m.v.a5 - m.v.a1 * m.v.a4) * m.d)]), x7])) ?_ rfl)⟩
  · simp! [lm_0_2, lm_1_2, lm_2_2]
    all_goals rfl
  · have o1 : okLen (L.length + 3) = true := decide_eq_true (by unfold sLine; omega)
    have o2 : okLen (L.length + 3 + 1) = true := decide_eq_true (by unfold sLine; omega)
    have bad : ∀ a b : List PD, binV .add (.list a) (.list b) = if okLen (a.length + b.length) then .ok (.list (a ++ b)) else .bad := fun _ _ => rfl
    have hs : Int.fdiv (-(1 * (m.v.a4 * m.v.a9 - m.v.a5 * m.v.a8) * m.d * m.v.a3 + (-1 * (m.v.a0 * m.v.a9 - m.v.a1 * m.v.a8) * m.d * m.v.a7 + (1 * (m.v.a0 * m.v.a5 - m.v.a1 * m.v.a4) * m.d * m.v.a11 + 0)))) m.d = -((m.v.a4 * m.v.a9 - m.v.a5 * m.v.a8) * m.v.a3 + (m.v.a8 * m.v.a1 - m.v.a9 * m.v.a0) * m.v.a7 + (m.v.a0 * m.v.a5 - m.v.a1 * m.v.a4) * m.v.a11) := by
      rw [show (-(1 * (m.v.a4 * m.v.a9 - m.v.a5 * m.v.a8) * m.d * m.v.a3 + (-1 * (m.v.a0 * m.v.a9 - m.v.a1 * m.v.a8) * m.d * m.v.a7 + (1 * (m.v.a0 * m.v.a5 - m.v.a1 * m.v.a4) * m.d * m.v.a11 + 0)))) = m.d * (-((m.v.a4 * m.v.a9 - m.v.a5 * m.v.a8) * m.v.a3 + (m.v.a8 * m.v.a1 - m.v.a9 * m.v.a0) * m.v.a7 + (m.v.a0 * m.v.a5 - m.v.a1 * m.v.a4) * m.v.a11)) by grind]
      exact Int.mul_fdiv_cancel_left _ d0
    have e0 : 1 * (m.v.a4 * m.v.a9 - m.v.a5 * m.v.a8) * m.d = m.d * (m.v.a4 * m.v.a9 - m.v.a5 * m.v.a8) := by grind
    have e1 : -1 * (m.v.a0 * m.v.a9 - m.v.a1 * m.v.a8) * m.d = m.d * (m.v.a8 * m.v.a1 - m.v.a9 * m.v.a0) := by grind
    have e2 : 1 * (m.v.a0 * m.v.a5 - m.v.a1 * m.v.a4) * m.d = m.d * (m.v.a0 * m.v.a5 - m.v.a1 * m.v.a4) := by grind
    simp! [bad, List.length_append, o1, o2, hs, List.append_assoc]
    rw [e0, e1, e2]
    all_goals rfl
theorem ev_lback0 (h : det m = 0) : evF pg (n + 3) i__law_back [MD m] = .ok .none := by
  rw [u__law_back]
  unfold b__law_back
  have A := ha.b
  simp! [ev_ldet, h]
theorem ev_lback (h : det m ≠ 0) : evF pg (n + 3) i__law_back [MD m] = .ok (MD (backM m)) := by
  rw [u__law_back]
  unfold b__law_back
  have A := ha.b
  have A2 := ha.d
  have l := ev_lmoveL n (backV m) (det m) h (by omega) (by omega)
  obtain ⟨x1, r1⟩ := lb_0 n ha hi [] none none (by simp)
  obtain ⟨x2, r2⟩ := lb_1 n ha hi [.int (m.d * (m.v.a5 * m.v.a10 - m.v.a6 * m.v.a9)), .int (m.d * (m.v.a9 * m.v.a2 - m.v.a10 * m.v.a1)), .int (m.d * (m.v.a1 * m.v.a6 - m.v.a2 * m.v.a5)), .int (-((m.v.a5 * m.v.a10 - m.v.a6 * m.v.a9) * m.v.a3 + (m.v.a9 * m.v.a2 - m.v.a10 * m.v.a1) * m.v.a7 + (m.v.a1 * m.v.a6 - m.v.a2 * m.v.a5) * m.v.a11))] x1 none (by simp)
  obtain ⟨x3, r3⟩ := lb_2 n ha hi [.int (m.d * (m.v.a5 * m.v.a10 - m.v.a6 * m.v.a9)), .int (m.d * (m.v.a9 * m.v.a2 - m.v.a10 * m.v.a1)), .int (m.d * (m.v.a1 * m.v.a6 - m.v.a2 * m.v.a5)), .int (-((m.v.a5 * m.v.a10 - m.v.a6 * m.v.a9) * m.v.a3 + (m.v.a9 * m.v.a2 - m.v.a10 * m.v.a1) * m.v.a7 + (m.v.a1 * m.v.a6 - m.v.a2 * m.v.a5) * m.v.a11)), .int (m.d * (m.v.a6 * m.v.a8 - m.v.a4 * m.v.a10)), .int (m.d * (m.v.a10 * m.v.a0 - m.v.a8 * m.v.a2)), .int (m.d * (m.v.a2 * m.v.a4 - m.v.a0 * m.v.a6)), .int (-((m.v.a6 * m.v.a8 - m.v.a4 * m.v.a10) * m.v.a3 + (m.v.a10 * m.v.a0 - m.v.a8 * m.v.a2) * m.v.a7 + (m.v.a2 * m.v.a4 - m.v.a0 * m.v.a6) * m.v.a11))] x2 none (by simp)
  simp only [List.append_assoc, List.cons_append, List.nil_append] at r1 r2 r3
  refine congrArg fin (seq1 (s' := ([], [some (MD m), some (.tuple [.int m.v.a0, .int m.v.a1, .int m.v.a2, .int m.v.a3, .int m.v.a4, .int m.v.a5, .int m.v.a6, .int m.v.a7, .int m.v.a8, .int m.v.a9, .int m.v.a10, .int m.v.a11]), some (.int m.d), none, none, none, none, none])) rfl (seq1 (s' := ([], [some (MD m), some (.tuple [.int m.v.a0, .int m.v.a1, .int m.v.a2, .int m.v.a3, .int m.v.a4, .int m.v.a5, .int m.v.a6, .int m.v.a7, .int m.v.a8, .int m.v.a9, .int m.v.a10, .int m.v.a11]), some (.int m.d), some (.int (det m)), none, none, none, none])) ?_ (seq1 (s' := ([], [some (MD m), some (.tuple [.int m.v.a0, .int m.v.a1, .int m.v.a2, .int m.v.a3, .int m.v.a4, .int m.v.a5, .int m.v.a6, .int m.v.a7, .int m.v.a8, .int m.v.a9, .int m.v.a10, .int m.v.a11]), some (.int m.d), some (.int (det m)), none, none, none, none])) ?_ (seq1 (s' := ([], [some (MD m), some (.tuple [.int m.v.a0, .int m.v.a1, .int m.v.a2, .int m.v.a3, .int m.v.a4, .int m.v.a5, .int m.v.a6, .int m.v.a7, .int m.v.a8, .int m.v.a9, .int m.v.a10, .int m.v.a11]), some (.int m.d), some (.int (det m)), some (.list []), none, none, none])) rfl (seq1 (s' := ([], [some (MD m), some (.tuple [.int m.v.a0, .int m.v.a1, .int m.v.a2, .int m.v.a3, .int m.v.a4, .int m.v.a5, .int m.v.a6, .int m.v.a7, .int m.v.a8, .int m.v.a9, .int m.v.a10, .int m.v.a11]), some (.int m.d), some (.int (det m)), some (.list (backV m).l), some (.int 2), x3, none])) ?_ (seqR (d := MD (backM m)) ?_))))))
  · simp! [ev_ldet]
  · simp! [h]
  · have r4 : ∀ ρ, evIt (sgOf pg (n + 2)) (.r1 (.int 3)) ρ = .ok [.int 0, .int 1, .int 2] := fun _ => rfl
    rw [evS, r4, sok]
    simp only [forGo, tgSet, List.set_cons_succ, List.set_cons_zero, escItM, escM, esc, show Fe.dl [] [] = [] from rfl, r1, r2, r3]
    rfl
  · simp! [l]
    rfl
end
end k01
set_option Elab.async false
set_option linter.all false
set_option maxRecDepth 100000
set_option maxHeartbeats 4000000
namespace k01
open PySem PySem.Spec PyProof.Rows L2 Fe
theorem isM_low {v : V12} {D : Int} {k : Nat} [A : BdV v k] [B : Bd D k] (h : D ≠ 0) : IsM (lowM v D) k := ⟨lowM_ok v h, lowM_bd h, lowM_bdd h⟩
theorem act_low0 (v : V12) {D : Int} (h : D ≠ 0) (p : Pt) : act0 (lowM v D) p = ((v.a0 : Rat) * p.1 + (v.a1 : Rat) * p.2.1 + (v.a2 : Rat) * p.2.2 + (v.a3 : Rat)) / (D : Rat) := by
  obtain ⟨e0, e1, e2, e3, e4, e5, e6, e7, e8, e9, e10, e11, ed⟩ := lowM_eq v h
  have k0 := cast_ne (kV_ne v h)
  have d0 := cast_ne (show (lowM v D).d ≠ 0 by have := (lowM_ok v h).d; omega)
  have c0 := congrArg (fun x : Int => (x : Rat)) e0
  have c1 := congrArg (fun x : Int => (x : Rat)) e1
  have c2 := congrArg (fun x : Int => (x : Rat)) e2
  have c3 := congrArg (fun x : Int => (x : Rat)) e3
  have c4 := congrArg (fun x : Int => (x : Rat)) ed
  simp only [Rat.intCast_mul] at c0 c1 c2 c3 c4
  rw [c0, c1, c2, c3, c4]
  unfold act0
  generalize ((lowM v D).v.a0 : Rat) = r0 at *
  generalize ((lowM v D).v.a1 : Rat) = r1 at *
  generalize ((lowM v D).v.a2 : Rat) = r2 at *
  generalize ((lowM v D).v.a3 : Rat) = r3 at *
  generalize ((lowM v D).d : Rat) = d at *
  generalize (kV D v : Rat) = k at *
  clear c0 c1 c2 c3 c4 e0 e1 e2 e3 e4 e5 e6 e7 e8 e9 e10 e11 ed
  grind
theorem act_low1 (v : V12) {D : Int} (h : D ≠ 0) (p : Pt) : act1 (lowM v D) p = ((v.a4 : Rat) * p.1 + (v.a5 : Rat) * p.2.1 + (v.a6 : Rat) * p.2.2 + (v.a7 : Rat)) / (D : Rat) := by
  obtain ⟨e0, e1, e2, e3, e4, e5, e6, e7, e8, e9, e10, e11, ed⟩ := lowM_eq v h
  have k0 := cast_ne (kV_ne v h)
  have d0 := cast_ne (show (lowM v D).d ≠ 0 by have := (lowM_ok v h).d; omega)
  have c0 := congrArg (fun x : Int => (x : Rat)) e4
  have c1 := congrArg (fun x : Int => (x : Rat)) e5
  have c2 := congrArg (fun x : Int => (x : Rat)) e6
  have c3 := congrArg (fun x : Int => (x : Rat)) e7
  have c4 := congrArg (fun x : Int => (x : Rat)) ed
  simp only [Rat.intCast_mul] at c0 c1 c2 c3 c4
  rw [c0, c1, c2, c3, c4]
  unfold act1
  generalize ((lowM v D).v.a4 : Rat) = r0 at *
  generalize ((lowM v D).v.a5 : Rat) = r1 at *
  generalize ((lowM v D).v.a6 : Rat) = r2 at *
  generalize ((lowM v D).v.a7 : Rat) = r3 at *
  generalize ((lowM v D).d : Rat) = d at *
  generalize (kV D v : Rat) = k at *
  clear c0 c1 c2 c3 c4 e0 e1 e2 e3 e4 e5 e6 e7 e8 e9 e10 e11 ed
  grind
theorem act_low2 (v : V12) {D : Int} (h : D ≠ 0) (p : Pt) : act2 (lowM v D) p = ((v.a8 : Rat) * p.1 + (v.a9 : Rat) * p.2.1 + (v.a10 : Rat) * p.2.2 + (v.a11 : Rat)) / (D : Rat) := by
  obtain ⟨e0, e1, e2, e3, e4, e5, e6, e7, e8, e9, e10, e11, ed⟩ := lowM_eq v h
  have k0 := cast_ne (kV_ne v h)
  have d0 := cast_ne (show (lowM v D).d ≠ 0 by have := (lowM_ok v h).d; omega)
  have c0 := congrArg (fun x : Int => (x : Rat)) e8
  have c1 := congrArg (fun x : Int => (x : Rat)) e9
  have c2 := congrArg (fun x : Int => (x : Rat)) e10
  have c3 := congrArg (fun x : Int => (x : Rat)) e11
  have c4 := congrArg (fun x : Int => (x : Rat)) ed
  simp only [Rat.intCast_mul] at c0 c1 c2 c3 c4
  rw [c0, c1, c2, c3, c4]
  unfold act2
  generalize ((lowM v D).v.a8 : Rat) = r0 at *
  generalize ((lowM v D).v.a9 : Rat) = r1 at *
  generalize ((lowM v D).v.a10 : Rat) = r2 at *
  generalize ((lowM v D).v.a11 : Rat) = r3 at *
  generalize ((lowM v D).d : Rat) = d at *
  generalize (kV D v : Rat) = k at *
  clear c0 c1 c2 c3 c4 e0 e1 e2 e3 e4 e5 e6 e7 e8 e9 e10 e11 ed
  grind
theorem act_join {a b : Mv} (ha : a.d ≠ 0) (hb : b.d ≠ 0) (p : Pt) : act (joinM a b) p = act b (act a p) := by
  have h := Int.mul_ne_zero ha hb
  have h1 := cast_ne ha
  have h2 := cast_ne hb
  unfold act joinM
  rw [act_low0 _ h, act_low1 _ h, act_low2 _ h]
  unfold joinV act0 act1 act2
  simp only [Rat.intCast_add, Rat.intCast_mul]
  clear h ha hb
  refine Prod.ext ?_ (Prod.ext ?_ ?_)
  · dsimp only; grind
  · dsimp only; grind
  · dsimp only; grind
theorem act_back {m : Mv} (hd : m.d ≠ 0) (h : det m ≠ 0) (p : Pt) : act (backM m) (act m p) = p := by
  have h1 := cast_ne hd
  have h2 := cast_ne h
  unfold backM
  conv => lhs; unfold act
  rw [act_low0 _ h, act_low1 _ h, act_low2 _ h]
  unfold backV act0 act1 act2
  have e : (det m : Rat) = (det m : Rat) := rfl
  conv at e => rhs; unfold det
  simp only [Rat.intCast_add, Rat.intCast_mul, Rat.intCast_neg, Rat.intCast_sub] at e ⊢
  generalize (det m : Rat) = D at *
  clear h hd
  refine Prod.ext ?_ (Prod.ext ?_ ?_)
  · dsimp only; grind
  · dsimp only; grind
  · dsimp only; grind
def none1 : Mv := ⟨⟨1, 0, 0, 0, 0, 1, 0, 0, 0, 0, 1, 0⟩, 1⟩
theorem isM_none : IsM none1 8 := ⟨⟨by decide, by decide⟩, ⟨by decide, by decide, by decide, by decide, by decide, by decide, by decide, by decide, by decide, by decide, by decide, by decide⟩, ⟨by decide⟩⟩
theorem joinR {k a b x : Int} (k0 : k ≠ 0) (h : k * a = k * b * x) : a * 1 = x * b := by
  have : k * a = k * (x * b) := by rw [h]; grind
  have := Int.eq_of_mul_eq_mul_left k0 this
  omega
theorem join_back {m : Mv} (hd : m.d ≠ 0) (h : det m ≠ 0) : joinM m (backM m) = none1 := by
  obtain ⟨e0, e1, e2, e3, e4, e5, e6, e7, e8, e9, e10, e11, ed⟩ := lowM_eq (backV m) h
  have k0 := kV_ne (backV m) h
  have b0 : (backM m).d ≠ 0 := by have := (lowM_ok (backV m) h).d; unfold backM; omega
  have hm := Int.mul_ne_zero hd b0
  rw [← low_self isM_none.ok]
  unfold joinM
  unfold backM at *
  generalize kV (det m) (backV m) = k at *
  generalize lowM (backV m) (det m) = b at *
  unfold backV at e0 e1 e2 e3 e4 e5 e6 e7 e8 e9 e10 e11
  dsimp only at e0 e1 e2 e3 e4 e5 e6 e7 e8 e9 e10 e11
  unfold det at ed
  have h1 : none1.d = 1 := rfl
  rw [h1]
  refine low_low hm (by decide) ?_ ?_ ?_ ?_ ?_ ?_ ?_ ?_ ?_ ?_ ?_ ?_
  · show (b.v.a0 * m.v.a0 + b.v.a1 * m.v.a4 + b.v.a2 * m.v.a8) * 1 = 1 * (m.d * b.d)
    clear hm h hd e4 e5 e6 e7 e8 e9 e10 e11
    refine joinR k0 ?_
    clear k0
    grind
  · show (b.v.a0 * m.v.a1 + b.v.a1 * m.v.a5 + b.v.a2 * m.v.a9) * 1 = 0 * (m.d * b.d)
    clear hm h hd e4 e5 e6 e7 e8 e9 e10 e11
    refine joinR k0 ?_
    clear k0
    grind
  · show (b.v.a0 * m.v.a2 + b.v.a1 * m.v.a6 + b.v.a2 * m.v.a10) * 1 = 0 * (m.d * b.d)
    clear hm h hd e4 e5 e6 e7 e8 e9 e10 e11
    refine joinR k0 ?_
    clear k0
    grind
  · show (b.v.a0 * m.v.a3 + b.v.a1 * m.v.a7 + b.v.a2 * m.v.a11 + b.v.a3 * m.d) * 1 = 0 * (m.d * b.d)
    clear hm h hd e4 e5 e6 e7 e8 e9 e10 e11
    refine joinR k0 ?_
    clear k0
    grind
  · show (b.v.a4 * m.v.a0 + b.v.a5 * m.v.a4 + b.v.a6 * m.v.a8) * 1 = 0 * (m.d * b.d)
    clear hm h hd e0 e1 e2 e3 e8 e9 e10 e11
    refine joinR k0 ?_
    clear k0
    grind
  · show (b.v.a4 * m.v.a1 + b.v.a5 * m.v.a5 + b.v.a6 * m.v.a9) * 1 = 1 * (m.d * b.d)
    clear hm h hd e0 e1 e2 e3 e8 e9 e10 e11
    refine joinR k0 ?_
    clear k0
    grind
  · show (b.v.a4 * m.v.a2 + b.v.a5 * m.v.a6 + b.v.a6 * m.v.a10) * 1 = 0 * (m.d * b.d)
    clear hm h hd e0 e1 e2 e3 e8 e9 e10 e11
    refine joinR k0 ?_
    clear k0
    grind
  · show (b.v.a4 * m.v.a3 + b.v.a5 * m.v.a7 + b.v.a6 * m.v.a11 + b.v.a7 * m.d) * 1 = 0 * (m.d * b.d)
    clear hm h hd e0 e1 e2 e3 e8 e9 e10 e11
    refine joinR k0 ?_
    clear k0
    grind
  · show (b.v.a8 * m.v.a0 + b.v.a9 * m.v.a4 + b.v.a10 * m.v.a8) * 1 = 0 * (m.d * b.d)
    clear hm h hd e0 e1 e2 e3 e4 e5 e6 e7
    refine joinR k0 ?_
    clear k0
    grind
  · show (b.v.a8 * m.v.a1 + b.v.a9 * m.v.a5 + b.v.a10 * m.v.a9) * 1 = 0 * (m.d * b.d)
    clear hm h hd e0 e1 e2 e3 e4 e5 e6 e7
    refine joinR k0 ?_
    clear k0
    grind
  · show (b.v.a8 * m.v.a2 + b.v.a9 * m.v.a6 + b.v.a10 * m.v.a10) * 1 = 1 * (m.d * b.d)
    clear hm h hd e0 e1 e2 e3 e4 e5 e6 e7
    refine joinR k0 ?_
    clear k0
    grind
  · show (b.v.a8 * m.v.a3 + b.v.a9 * m.v.a7 + b.v.a10 * m.v.a11 + b.v.a11 * m.d) * 1 = 0 * (m.d * b.d)
    clear hm h hd e0 e1 e2 e3 e4 e5 e6 e7
    refine joinR k0 ?_
    clear k0
    grind
theorem neg2 {v : V12} {D : Int} (h : D ≠ 0) : lowM ⟨2 * v.a0, 2 * v.a1, 2 * v.a2, 2 * v.a3, 2 * v.a4, 2 * v.a5, 2 * v.a6, 2 * v.a7, 2 * v.a8, 2 * v.a9, 2 * v.a10, 2 * v.a11⟩ (-2 * D) = lowM ⟨-v.a0, -v.a1, -v.a2, -v.a3, -v.a4, -v.a5, -v.a6, -v.a7, -v.a8, -v.a9, -v.a10, -v.a11⟩ D :=
  low_low (by omega) h (by dsimp only; grind) (by dsimp only; grind) (by dsimp only; grind) (by dsimp only; grind) (by dsimp only; grind) (by dsimp only; grind) (by dsimp only; grind) (by dsimp only; grind) (by dsimp only; grind) (by dsimp only; grind) (by dsimp only; grind) (by dsimp only; grind)
structure BdN (p : Pt) : Prop where
  nx : p.1.num.natAbs < 2 ^ 7
  dx : p.1.den < 2 ^ 4
  ny : p.2.1.num.natAbs < 2 ^ 7
  dy : p.2.1.den < 2 ^ 4
  nz : p.2.2.num.natAbs < 2 ^ 7
  dz : p.2.2.den < 2 ^ 4
theorem BdN.p {p : Pt} (h : BdN p) : BdP p 7 := ⟨⟨h.nx, Nat.lt_trans h.dx (by decide)⟩, ⟨h.ny, Nat.lt_trans h.dy (by decide)⟩, ⟨h.nz, Nat.lt_trans h.dz (by decide)⟩⟩
theorem act_bd {m : Mv} {p : Pt} {i : Nat} (hm : IsM m i) (hp : BdN p) : BdP (act m p) (i + 20) := by
  have A := hm.b
  have A2 := hm.d
  have d0 : m.d ≠ 0 := by have := hm.ok.d; omega
  have b1 : Bd p.1.num 7 := ⟨hp.nx⟩
  have b2 : Bd p.2.1.num 7 := ⟨hp.ny⟩
  have b3 : Bd p.2.2.num 7 := ⟨hp.nz⟩
  have c1 : Bd (p.1.den : Int) 4 := ⟨hp.dx⟩
  have c2 : Bd (p.2.1.den : Int) 4 := ⟨hp.dy⟩
  have c3 : Bd (p.2.2.den : Int) 4 := ⟨hp.dz⟩
  have n0 : 1 * (p.1.den : Int) * (p.2.1.den : Int) * (p.2.2.den : Int) * m.d ≠ 0 := mul_ne (mul_ne (mul_ne (mul_ne (by decide) (den_ne _)) (den_ne _)) (den_ne _)) d0
  have key : ∀ {x : Int} {k : Nat}, Bd x k → k ≤ i + 20 → x.natAbs < 2 ^ (i + 20) := fun B h => (B.up h).h
  exact ⟨BdQ.of_div n0 (goal0 m p d0).symm (key inferInstance (by omega)) (key inferInstance (by omega)), BdQ.of_div n0 (goal1 m p d0).symm (key inferInstance (by omega)) (key inferInstance (by omega)), BdQ.of_div n0 (goal2 m p d0).symm (key inferInstance (by omega)) (key inferInstance (by omega))⟩
theorem ix2if (a b : Int) (c : Prop) [Decidable c] : ixV (.list [.int a, .int b]) (.int (if c then 1 else 0)) = .ok (.int (if c then b else a)) := by split <;> rfl
theorem bdV_mk {k : Nat} (a0 a1 a2 a3 a4 a5 a6 a7 a8 a9 a10 a11 : Int) (h0 : a0.natAbs < 2 ^ k) (h1 : a1.natAbs < 2 ^ k) (h2 : a2.natAbs < 2 ^ k) (h3 : a3.natAbs < 2 ^ k) (h4 : a4.natAbs < 2 ^ k) (h5 : a5.natAbs < 2 ^ k) (h6 : a6.natAbs < 2 ^ k) (h7 : a7.natAbs < 2 ^ k) (h8 : a8.natAbs < 2 ^ k) (h9 : a9.natAbs < 2 ^ k) (h10 : a10.natAbs < 2 ^ k) (h11 : a11.natAbs < 2 ^ k) : BdV ⟨a0, a1, a2, a3, a4, a5, a6, a7, a8, a9, a10, a11⟩ k := ⟨h0, h1, h2, h3, h4, h5, h6, h7, h8, h9, h10, h11⟩
theorem ev_drawn (n : Nat) {ds : List Int} (hd : okD ds) (k : Int) (h0 : 0 ≤ k) (h1 : k < 9000) : ∃ m, evF pg (n + 3) i__law_drawn [Ld ds, .int k] = .ok (MD m) ∧ IsM m 8 := by
  rw [u__law_drawn]
  unfold b__law_drawn
  have key : ∀ {x : Int} {k : Nat}, Bd x k → k ≤ 8 → x.natAbs < 2 ^ 8 := fun B h => (B.up h).h
  by_cases c : mixF ds k 5 = 0
  · have A : BdV ⟨1, 0, 0, (mixF ds (k + 1) 41 - 20), 0, 1, 0, (mixF ds (k + 2) 41 - 20), 0, 0, 1, (mixF ds (k + 3) 41 - 20)⟩ 8 := ⟨key inferInstance (by decide), key inferInstance (by decide), key inferInstance (by decide), key inferInstance (by decide), key inferInstance (by decide), key inferInstance (by decide), key inferInstance (by decide), key inferInstance (by decide), key inferInstance (by decide), key inferInstance (by decide), key inferInstance (by decide), key inferInstance (by decide)⟩
    have l := ev_lmoveL n ⟨1, 0, 0, (mixF ds (k + 1) 41 - 20), 0, 1, 0, (mixF ds (k + 2) 41 - 20), 0, 0, 1, (mixF ds (k + 3) 41 - 20)⟩ 1 (by decide) (by decide) (by decide)
    dsimp only at l
    refine ⟨_, ?_, @isM_low ⟨1, 0, 0, (mixF ds (k + 1) 41 - 20), 0, 1, 0, (mixF ds (k + 2) 41 - 20), 0, 0, 1, (mixF ds (k + 3) 41 - 20)⟩ 1 8 A ⟨by decide⟩ (by decide)⟩
    simp! [ev_mix _ hd, c, l]
  · by_cases c2 : mixF ds k 5 = 1
    · have A : BdV ⟨(mixF ds (k + 1) 13 - 6), 0, 0, 0, 0, (mixF ds (k + 1) 13 - 6), 0, 0, 0, 0, (mixF ds (k + 1) 13 - 6), 0⟩ 8 := ⟨key inferInstance (by decide), key inferInstance (by decide), key inferInstance (by decide), key inferInstance (by decide), key inferInstance (by decide), key inferInstance (by decide), key inferInstance (by decide), key inferInstance (by decide), key inferInstance (by decide), key inferInstance (by decide), key inferInstance (by decide), key inferInstance (by decide)⟩
      have hm := mix0 ds (k + 2) 6
      have B : Bd (1 + mixF ds (k + 2) 6) 8 := ⟨key inferInstance (by decide)⟩
      have D0 : 1 + mixF ds (k + 2) 6 ≠ 0 := by omega
      have l := ev_lmoveL n ⟨(mixF ds (k + 1) 13 - 6), 0, 0, 0, 0, (mixF ds (k + 1) 13 - 6), 0, 0, 0, 0, (mixF ds (k + 1) 13 - 6), 0⟩ _ D0 (by decide) (by decide)
      dsimp only at l
      refine ⟨_, ?_, isM_low (v := ⟨(mixF ds (k + 1) 13 - 6), 0, 0, 0, 0, (mixF ds (k + 1) 13 - 6), 0, 0, 0, 0, (mixF ds (k + 1) 13 - 6), 0⟩) D0⟩
      simp! [ev_mix _ hd, c, c2, l]
    · have A : BdV ⟨(if mixF ds (k + 15 + 0) 3 = 0 then 0 else mixF ds (k + 1 + 0) 13 - 6), (if mixF ds (k + 15 + 1) 3 = 0 then 0 else mixF ds (k + 1 + 1) 13 - 6), (if mixF ds (k + 15 + 2) 3 = 0 then 0 else mixF ds (k + 1 + 2) 13 - 6), (if mixF ds (k + 15 + 3) 3 = 0 then 0 else mixF ds (k + 1 + 3) 13 - 6), (if mixF ds (k + 15 + 4) 3 = 0 then 0 else mixF ds (k + 1 + 4) 13 - 6), (if mixF ds (k + 15 + 5) 3 = 0 then 0 else mixF ds (k + 1 + 5) 13 - 6), (if mixF ds (k + 15 + 6) 3 = 0 then 0 else mixF ds (k + 1 + 6) 13 - 6), (if mixF ds (k + 15 + 7) 3 = 0 then 0 else mixF ds (k + 1 + 7) 13 - 6), (if mixF ds (k + 15 + 8) 3 = 0 then 0 else mixF ds (k + 1 + 8) 13 - 6), (if mixF ds (k + 15 + 9) 3 = 0 then 0 else mixF ds (k + 1 + 9) 13 - 6), (if mixF ds (k + 15 + 10) 3 = 0 then 0 else mixF ds (k + 1 + 10) 13 - 6), (if mixF ds (k + 15 + 11) 3 = 0 then 0 else mixF ds (k + 1 + 11) 13 - 6)⟩ 8 := ⟨key inferInstance (by decide), key inferInstance (by decide), key inferInstance (by decide), key inferInstance (by decide), key inferInstance (by decide), key inferInstance (by decide), key inferInstance (by decide), key inferInstance (by decide), key inferInstance (by decide), key inferInstance (by decide), key inferInstance (by decide), key inferInstance (by decide)⟩
      obtain ⟨D, D0, B, hD⟩ : ∃ D : Int, D ≠ 0 ∧ Bd D 8 ∧ ixV (.list [.int 1, .int 6, .int (-4), .int (1 + mixF ds (k + 13) 30)]) (.int (mixF ds (k + 14) 4)) = .ok (.int D) := by
        have h4 := mix0 ds (k + 14) 4
        have h5 := mixL ds (k + 14) 4 (by decide)
        have h6 := mix0 ds (k + 13) 30
        have h7 : mixF ds (k + 14) 4 = 0 ∨ mixF ds (k + 14) 4 = 1 ∨ mixF ds (k + 14) 4 = 2 ∨ mixF ds (k + 14) 4 = 3 := by omega
        rcases h7 with h | h | h | h <;> rw [h]
        · exact ⟨1, by decide, ⟨by decide⟩, rfl⟩
        · exact ⟨6, by decide, ⟨by decide⟩, rfl⟩
        · exact ⟨-4, by decide, ⟨by decide⟩, rfl⟩
        · exact ⟨1 + mixF ds (k + 13) 30, by omega, ⟨key inferInstance (by decide)⟩, rfl⟩
      have l := ev_lmoveL n ⟨(if mixF ds (k + 15 + 0) 3 = 0 then 0 else mixF ds (k + 1 + 0) 13 - 6), (if mixF ds (k + 15 + 1) 3 = 0 then 0 else mixF ds (k + 1 + 1) 13 - 6), (if mixF ds (k + 15 + 2) 3 = 0 then 0 else mixF ds (k + 1 + 2) 13 - 6), (if mixF ds (k + 15 + 3) 3 = 0 then 0 else mixF ds (k + 1 + 3) 13 - 6), (if mixF ds (k + 15 + 4) 3 = 0 then 0 else mixF ds (k + 1 + 4) 13 - 6), (if mixF ds (k + 15 + 5) 3 = 0 then 0 else mixF ds (k + 1 + 5) 13 - 6), (if mixF ds (k + 15 + 6) 3 = 0 then 0 else mixF ds (k + 1 + 6) 13 - 6), (if mixF ds (k + 15 + 7) 3 = 0 then 0 else mixF ds (k + 1 + 7) 13 - 6), (if mixF ds (k + 15 + 8) 3 = 0 then 0 else mixF ds (k + 1 + 8) 13 - 6), (if mixF ds (k + 15 + 9) 3 = 0 then 0 else mixF ds (k + 1 + 9) 13 - 6), (if mixF ds (k + 15 + 10) 3 = 0 then 0 else mixF ds (k + 1 + 10) 13 - 6), (if mixF ds (k + 15 + 11) 3 = 0 then 0 else mixF ds (k + 1 + 11) 13 - 6)⟩ D D0 (by decide) (by decide)
      dsimp only at l
      refine ⟨_, ?_, isM_low (v := ⟨(if mixF ds (k + 15 + 0) 3 = 0 then 0 else mixF ds (k + 1 + 0) 13 - 6), (if mixF ds (k + 15 + 1) 3 = 0 then 0 else mixF ds (k + 1 + 1) 13 - 6), (if mixF ds (k + 15 + 2) 3 = 0 then 0 else mixF ds (k + 1 + 2) 13 - 6), (if mixF ds (k + 15 + 3) 3 = 0 then 0 else mixF ds (k + 1 + 3) 13 - 6), (if mixF ds (k + 15 + 4) 3 = 0 then 0 else mixF ds (k + 1 + 4) 13 - 6), (if mixF ds (k + 15 + 5) 3 = 0 then 0 else mixF ds (k + 1 + 5) 13 - 6), (if mixF ds (k + 15 + 6) 3 = 0 then 0 else mixF ds (k + 1 + 6) 13 - 6), (if mixF ds (k + 15 + 7) 3 = 0 then 0 else mixF ds (k + 1 + 7) 13 - 6), (if mixF ds (k + 15 + 8) 3 = 0 then 0 else mixF ds (k + 1 + 8) 13 - 6), (if mixF ds (k + 15 + 9) 3 = 0 then 0 else mixF ds (k + 1 + 9) 13 - 6), (if mixF ds (k + 15 + 10) 3 = 0 then 0 else mixF ds (k + 1 + 10) 13 - 6), (if mixF ds (k + 15 + 11) 3 = 0 then 0 else mixF ds (k + 1 + 11) 13 - 6)⟩) D0⟩
      simp! [ev_mix _ hd, c, c2, hD, ix2if, l]
end k01
set_option Elab.async false
set_option linter.all false
set_option maxRecDepth 100000
set_option maxHeartbeats 4000000
namespace k01
open PySem PySem.Spec PyProof.Rows L2 Fe
theorem ev_move_of (n : Nat) (v : V12) (D : Int) {k j : Nat} [A : BdV v k] [B : Bd D j] (h : D ≠ 0) (hk : k ≤ 8000) (hj : j ≤ 8000) : evF pg (n + 4) i_move_of [.list [.int v.a0, .int v.a1, .int v.a2, .int v.a3, .int v.a4, .int v.a5, .int v.a6, .int v.a7, .int v.a8, .int v.a9, .int v.a10, .int v.a11], .int D] = .ok (MD (lowM v D)) := by
  rw [u_move_of]
  unfold b_move_of
  have g : List.lookup ("SIZE" : Str) pg.G = some (.int 12) := rfl
  have l := ev_leastL n v D h hk hj
  have e12 : (12 : Int) = (((0 + 1 + 1 + 1 + 1 + 1 + 1 + 1 + 1 + 1 + 1 + 1 + 1 : Nat)) : Int) := rfl
  simp! [g, h, l, ← e12]
theorem cneM (m : Mv) : cmpV .ne (MD m) (MD m) = .ok (.bool false) := cneS rfl
theorem cneP (q : Pt) : cmpV .ne (PT q) (PT q) = .ok (.bool false) := cneS rfl
theorem cneQ1 (q : Rat) : cmpV .ne (QD q) (QD q) = .ok (.bool false) := cneS rfl
section
variable (scr : PD) (ds : List Int)
theorem one_ok {p : Pt} {w m : Mv} {i : Nat} (hp : BdN p) (hw : IsM w i) (hm : IsM m 8) (hi : i ≤ 30) (x3 x4 x5 x6 x11 x12 x13 x14 x15 x16 x17 x18 x19 x20 x21 x22 x23 x24 : Option PD) : evSs (sgOf pg 7) l_law_2 ([], [some scr, some (Ld ds), some (MD none1), x3, x4, x5, x6, some (PT p), some (PT (act w p)), some (MD w), some (MD m), x11, x12, x13, x14, x15, x16, x17, x18, x19, x20, x21, x22, x23, x24]) = .nx ([], [some scr, some (Ld ds), some (MD none1), x3, x4, x5, x6, some (PT p), some (PT (act (joinM w m) p)), some (MD (joinM w m)), some (MD m), x11, x12, x13, x14, x15, x16, x17, x18, x19, x20, x21, x22, x23, x24]) := by
  unfold l_law_2
  have A := hm.b
  have B := hm.d
  have A2 := hw.b
  have B2 := hw.d
  have d0 : m.d ≠ 0 := by have := hm.ok.d; omega
  have w0 : w.d ≠ 0 := by have := hw.ok.d; omega
  have d2 : -2 * m.d ≠ 0 := by omega
  have d3 : m.d * m.d * m.d ≠ 0 := mul_ne (mul_ne d0 d0) d0
  have hh := act_bd hw hp
  have key : ∀ {x : Int} {k : Nat}, Bd x k → k ≤ 12 → x.natAbs < 2 ^ 12 := fun B h => (B.up h).h
  have V1 : BdV ⟨2 * m.v.a0, 2 * m.v.a1, 2 * m.v.a2, 2 * m.v.a3, 2 * m.v.a4, 2 * m.v.a5, 2 * m.v.a6, 2 * m.v.a7, 2 * m.v.a8, 2 * m.v.a9, 2 * m.v.a10, 2 * m.v.a11⟩ 12 := ⟨key inferInstance (by decide), key inferInstance (by decide), key inferInstance (by decide), key inferInstance (by decide), key inferInstance (by decide), key inferInstance (by decide), key inferInstance (by decide), key inferInstance (by decide), key inferInstance (by decide), key inferInstance (by decide), key inferInstance (by decide), key inferInstance (by decide)⟩
  have V2 : BdV ⟨-m.v.a0, -m.v.a1, -m.v.a2, -m.v.a3, -m.v.a4, -m.v.a5, -m.v.a6, -m.v.a7, -m.v.a8, -m.v.a9, -m.v.a10, -m.v.a11⟩ 12 := ⟨key inferInstance (by decide), key inferInstance (by decide), key inferInstance (by decide), key inferInstance (by decide), key inferInstance (by decide), key inferInstance (by decide), key inferInstance (by decide), key inferInstance (by decide), key inferInstance (by decide), key inferInstance (by decide), key inferInstance (by decide), key inferInstance (by decide)⟩
  have l1 := ev_move_of 3 ⟨2 * m.v.a0, 2 * m.v.a1, 2 * m.v.a2, 2 * m.v.a3, 2 * m.v.a4, 2 * m.v.a5, 2 * m.v.a6, 2 * m.v.a7, 2 * m.v.a8, 2 * m.v.a9, 2 * m.v.a10, 2 * m.v.a11⟩ (-2 * m.d) d2 (by decide) (by decide)
  have l2 := ev_lmoveL 5 ⟨-m.v.a0, -m.v.a1, -m.v.a2, -m.v.a3, -m.v.a4, -m.v.a5, -m.v.a6, -m.v.a7, -m.v.a8, -m.v.a9, -m.v.a10, -m.v.a11⟩ m.d d0 (by decide) (by decide)
  dsimp only at l1 l2
  have l3 := ev_ism 4 hm (by decide)
  have l4 := ev_joined 2 hw hm (by omega) (by decide)
  have l5 := ev_ljoined 4 hw hm (by omega) (by decide)
  have l6 := ev_moved 2 hm hh (by decide) (by omega)
  have l7 := ev_goes 4 hm hh (by omega)
  have l8 := ev_det 2 hm (by decide)
  have l9 := ev_ldet 5 m (k := 8) (by decide)
  have l10 := ev_lw 5 (det m) (m.d * m.d * m.d) d3 (by decide)
  have e1 := neg2 (v := m.v) d0
  refine seq1 (s' := ([], [some scr, some (Ld ds), some (MD none1), x3, x4, x5, x6, some (PT p), some (PT (act w p)), some (MD w), some (MD m), x11, x12, x13, x14, x15, x16, x17, x18, x19, x20, x21, x22, x23, x24])) ?_ (seq1 (s' := ([], [some scr, some (Ld ds), some (MD none1), x3, x4, x5, x6, some (PT p), some (PT (act w p)), some (MD w), some (MD m), x11, x12, x13, x14, x15, x16, x17, x18, x19, x20, x21, x22, x23, x24])) ?_ (seq1 (s' := ([], [some scr, some (Ld ds), some (MD none1), x3, x4, x5, x6, some (PT p), some (PT (act (joinM w m) p)), some (MD (joinM w m)), some (MD m), x11, x12, x13, x14, x15, x16, x17, x18, x19, x20, x21, x22, x23, x24])) ?_ rfl))
  · simp! [l1, l2, l3, e1, cneM]
  · simp! [l4, l5, l6, l7, l8, l9, l10, cneM, cneP, cneQ1]
  · simp! [l5, l7]
    rw [act_join w0 d0]

theorem moves_ok {p : Pt} (hp : BdN p) (x3 x4 x5 x6 x11 x12 x13 x14 x15 x16 x17 x18 x19 x20 x21 x22 x23 x24 : Option PD) : ∀ (Ms : List Mv) (w : Mv) (i : Nat), IsM w i → (∀ m ∈ Ms, IsM m 8) → i + 11 * Ms.length ≤ 41 → ∀ x10, ∃ w' x10', IsM w' (i + 11 * Ms.length) ∧ forGo (.nm 10) (evSs (sgOf pg 7) l_law_2) (Ms.map MD) ([], [some scr, some (Ld ds), some (MD none1), x3, x4, x5, x6, some (PT p), some (PT (act w p)), some (MD w), x10, x11, x12, x13, x14, x15, x16, x17, x18, x19, x20, x21, x22, x23, x24]) = .nx ([], [some scr, some (Ld ds), some (MD none1), x3, x4, x5, x6, some (PT p), some (PT (act w' p)), some (MD w'), x10', x11, x12, x13, x14, x15, x16, x17, x18, x19, x20, x21, x22, x23, x24])
  | [], w, i, hw, _, _, x10 => ⟨w, x10, hw, rfl⟩
  | m :: Ms, w, i, hw, hM, hi, x10 => by
    rw [List.length_cons] at hi
    have hm := hM m (List.mem_cons_self ..)
    have h1 := one_ok scr ds hp hw hm (by omega) x3 x4 x5 x6 x11 x12 x13 x14 x15 x16 x17 x18 x19 x20 x21 x22 x23 x24
    have A2 := hw.b
    have B2 := hw.d
    have A := hm.b
    have B := hm.d
    have dd : w.d * m.d ≠ 0 := mul_ne (by have := hw.ok.d; omega) (by have := hm.ok.d; omega)
    have hj : IsM (joinM w m) (i + 11) := @isM_low (joinV w m) (w.d * m.d) (i + 11) (joinV_bd w m) ((inferInstance : Bd (w.d * m.d) (i + 8)).up (by omega)) dd
    obtain ⟨w', y, hw', q⟩ := moves_ok hp x3 x4 x5 x6 x11 x12 x13 x14 x15 x16 x17 x18 x19 x20 x21 x22 x23 x24 Ms (joinM w m) (i + 11) hj (fun m' h => hM m' (List.mem_cons_of_mem _ h)) (by omega) (some (MD m))
    refine ⟨w', y, by rw [List.length_cons]; have : i + 11 * (Ms.length + 1) = i + 11 + 11 * Ms.length := by omega
                      rw [this]; exact hw', ?_⟩
    rw [List.map_cons, forGo]
    dsimp only [tgSet, List.set_cons_succ, List.set_cons_zero]
    rw [h1]
    exact q
theorem ev_ref0 (n : Nat) {m : Mv} {i : Nat} (hm : IsM m i) (hi : i ≤ 60) (h : det m = 0) : evF pg (n + 6) i__law_refused [.int 3, MD m, .int 0] = .ok (.tuple [.str "way", .int 0]) := by
  rw [u__law_refused]
  unfold b__law_refused
  simp! [ev_back0 n hm hi h]
  rfl
theorem bdN_of (a b c d e f : Int) (ha : a.natAbs ≤ 100) (hb : 0 < b ∧ b ≤ 9) (hc : c.natAbs ≤ 100) (hd : 0 < d ∧ d ≤ 9) (he : e.natAbs ≤ 100) (hf : 0 < f ∧ f ≤ 9) : BdN ((a : Rat) / (b : Rat), (c : Rat) / (d : Rat), (e : Rat) / (f : Rat)) := by
  obtain ⟨a1, a2⟩ := rat_div_le (n := a) (d := b) (by omega)
  obtain ⟨b1, b2⟩ := rat_div_le (n := c) (d := d) (by omega)
  obtain ⟨c1, c2⟩ := rat_div_le (n := e) (d := f) (by omega)
  refine ⟨?_, ?_, ?_, ?_, ?_, ?_⟩
  · exact Nat.lt_of_le_of_lt a1 (Nat.lt_of_le_of_lt ha (by decide))
  · exact Nat.lt_of_le_of_lt a2 (by omega)
  · exact Nat.lt_of_le_of_lt b1 (Nat.lt_of_le_of_lt hc (by decide))
  · exact Nat.lt_of_le_of_lt b2 (by omega)
  · exact Nat.lt_of_le_of_lt c1 (Nat.lt_of_le_of_lt he (by decide))
  · exact Nat.lt_of_le_of_lt c2 (by omega)
theorem turn_ok (hd : okD ds) (turn : Int) (t0 : 0 ≤ turn) (t1 : turn < 4) (x3 x4 x5 x6 x7 x8 x9 x10 x11 x12 x13 x14 x15 x16 x17 x18 x19 x20 x21 x22 x23 x24 : Option PD) : ∃ y3 y4 y5 y6 y7 y8 y9 y10 y11 y12 y13 y14 y15 y16 y17 y18 y19 y20 y21 y22 y23 y24, evSs (sgOf pg 7) l_law_3 ([], [some scr, some (Ld ds), some (MD none1), some (.int turn), x4, x5, x6, x7, x8, x9, x10, x11, x12, x13, x14, x15, x16, x17, x18, x19, x20, x21, x22, x23, x24]) = .nx ([], [some scr, some (Ld ds), some (MD none1), y3, y4, y5, y6, y7, y8, y9, y10, y11, y12, y13, y14, y15, y16, y17, y18, y19, y20, y21, y22, y23, y24]) := by
  unfold l_law_3
  have tb : Bd turn 3 := ⟨by show _ < 8; omega⟩
  obtain ⟨k, hk, k0, k1⟩ : ∃ k : Int, 10 + 100 * turn = k ∧ 0 ≤ k ∧ k < 1000 := ⟨_, rfl, by omega, by omega⟩
  obtain ⟨m0, e0, i0⟩ := ev_drawn 4 hd (k + 0) (by omega) (by omega)
  obtain ⟨m1, e1, i1⟩ := ev_drawn 4 hd (k + 30) (by omega) (by omega)
  obtain ⟨m2, e2, i2⟩ := ev_drawn 4 hd (k + 60) (by omega) (by omega)
  obtain ⟨Ms, hMs, lMs, sMs⟩ : ∃ Ms : List Mv, (∀ m ∈ Ms, IsM m 8) ∧ Ms.length ≤ 3 ∧ evS (sgOf pg 7) (.set 5 (.comp (.call i__law_drawn (.cons (.var 1) (.cons (.bin .add (.var 4) (.bin .mul (.int 30) (.var 6))) (.nil)))) (.nm 6) (.r1 (.bin .add (.int 2) (.call i__law_mix (.cons (.var 1) (.cons (.bin .add (.var 4) (.int 95)) (.cons (.int 2) (.nil))))))) (.none) [6])) ([], [some scr, some (Ld ds), some (MD none1), some (.int turn), some (.int k), x5, x6, x7, x8, x9, x10, x11, x12, x13, x14, x15, x16, x17, x18, x19, x20, x21, x22, x23, x24]) = .nx ([], [some scr, some (Ld ds), some (MD none1), some (.int turn), some (.int k), some (.list (Ms.map MD)), x6, x7, x8, x9, x10, x11, x12, x13, x14, x15, x16, x17, x18, x19, x20, x21, x22, x23, x24]) := by
    have a0 := mix0 ds (k + 95) 2
    have a1 := mixL ds (k + 95) 2 (by decide)
    have a2 : mixF ds (k + 95) 2 = 0 ∨ mixF ds (k + 95) 2 = 1 := by omega
    rcases a2 with a2 | a2
    · refine ⟨[m0, m1], ?_, by simp, ?_⟩
      · intro m h
        simp only [List.mem_cons, List.not_mem_nil, or_false] at h
        rcases h with rfl | rfl <;> assumption
      · simp! [ev_mix _ hd, a2, e0, e1]
    · refine ⟨[m0, m1, m2], ?_, by simp, ?_⟩
      · intro m h
        simp only [List.mem_cons, List.not_mem_nil, or_false] at h
        rcases h with rfl | rfl | rfl <;> assumption
      · simp! [ev_mix _ hd, a2, e0, e1, e2]
  obtain ⟨p, hp, sp⟩ : ∃ p : Pt, BdN p ∧ evS (sgOf pg 7) (.set 7 (.bi .tuple (.cons (.comp (.call i__law_low (.cons (.bin .sub (.call i__law_mix (.cons (.var 1) (.cons (.bin .add (.bin .add (.var 4) (.int 90)) (.var 6)) (.cons (.int 200) (.nil))))) (.int 100)) (.cons (.bin .add (.int 1) (.call i__law_mix (.cons (.var 1) (.cons (.bin .add (.bin .add (.var 4) (.int 93)) (.var 6)) (.cons (.int 9) (.nil)))))) (.nil)))) (.nm 6) (.r1 (.int 3)) (.none) [6]) (.nil)))) ([], [some scr, some (Ld ds), some (MD none1), some (.int turn), some (.int k), some (.list (Ms.map MD)), x6, x7, x8, x9, x10, x11, x12, x13, x14, x15, x16, x17, x18, x19, x20, x21, x22, x23, x24]) = .nx ([], [some scr, some (Ld ds), some (MD none1), some (.int turn), some (.int k), some (.list (Ms.map MD)), x6, some (PT p), x8, x9, x10, x11, x12, x13, x14, x15, x16, x17, x18, x19, x20, x21, x22, x23, x24]) := by
    have q : ∀ t : Int, 0 ≤ t → t < 3 → (mixF ds (k + 90 + t) 200 - 100).natAbs ≤ 100 ∧ (0 < 1 + mixF ds (k + 93 + t) 9 ∧ 1 + mixF ds (k + 93 + t) 9 ≤ 9) := by
      intro t _ _
      have a0 := mix0 ds (k + 90 + t) 200
      have a1 := mixL ds (k + 90 + t) 200 (by decide)
      have b0 := mix0 ds (k + 93 + t) 9
      have b1 := mixL ds (k + 93 + t) 9 (by decide)
      omega
    obtain ⟨q0, r0⟩ := q 0 (by decide) (by decide)
    obtain ⟨q1, r1⟩ := q 1 (by decide) (by decide)
    obtain ⟨q2, r2⟩ := q 2 (by decide) (by decide)
    refine ⟨_, bdN_of _ _ _ _ _ _ q0 r0 q1 r1 q2 r2, ?_⟩
    have n0 : 1 + mixF ds (k + 93 + 0) 9 ≠ 0 := by omega
    have n1 : 1 + mixF ds (k + 93 + 1) 9 ≠ 0 := by omega
    have n2 : 1 + mixF ds (k + 93 + 2) 9 ≠ 0 := by omega
    simp! [ev_mix _ hd, ev_lw]
  have h3 : 8 + 11 * Ms.length ≤ 41 := by omega
  have a1 : act none1 p = p := by
    unfold act act0 act1 act2 none1
    refine Prod.ext ?_ (Prod.ext ?_ ?_)
    · show ((1 : Rat) * p.1 + (0 : Rat) * p.2.1 + (0 : Rat) * p.2.2 + (0 : Rat)) / (1 : Rat) = p.1
      grind
    · show ((0 : Rat) * p.1 + (1 : Rat) * p.2.1 + (0 : Rat) * p.2.2 + (0 : Rat)) / (1 : Rat) = p.2.1
      grind
    · show ((0 : Rat) * p.1 + (0 : Rat) * p.2.1 + (1 : Rat) * p.2.2 + (0 : Rat)) / (1 : Rat) = p.2.2
      grind
  obtain ⟨w, y10, hw, sw⟩ := moves_ok scr ds hp (some (.int turn)) (some (.int k)) (some (.list (Ms.map MD))) x6 x11 x12 x13 x14 x15 x16 x17 x18 x19 x20 x21 x22 x23 x24 Ms none1 8 isM_none hMs h3 x10
  rw [a1] at sw
  have w0 : w.d ≠ 0 := by have := hw.ok.d; omega
  have A2 := hw.b
  have B2 := hw.d
  have hh := act_bd hw hp
  have l1 := ev_moved 2 hw hp.p (by omega) (by decide)
  obtain ⟨way, sway, s7⟩ : ∃ way : PD, evS (sgOf pg 7) (.set 12 (.call i__law_back (.cons (.var 9) (.nil)))) ([], [some scr, some (Ld ds), some (MD none1), some (.int turn), some (.int k), some (.list (Ms.map MD)), x6, some (PT p), some (PT (act w p)), some (MD w), y10, x11, x12, x13, x14, x15, x16, x17, x18, x19, x20, x21, x22, x23, x24]) = .nx ([], [some scr, some (Ld ds), some (MD none1), some (.int turn), some (.int k), some (.list (Ms.map MD)), x6, some (PT p), some (PT (act w p)), some (MD w), y10, x11, some way, x13, x14, x15, x16, x17, x18, x19, x20, x21, x22, x23, x24]) ∧ evS (sgOf pg 7) (.ifs (.ors (.cons (.ands (.cons (.isN (.var 12)) (.cons (.cmp .ne (.call i__law_refused (.cons (.int 3) (.cons (.var 9) (.cons (.int 0) (.nil))))) (.tup (.cons (.str "way") (.cons (.int 0) (.nil))))) (.nil)))) (.cons (.ands (.cons (.noN (.var 12)) (.cons (.ors (.cons (.cmp .ne (.call i_back (.cons (.var 9) (.nil))) (.var 12)) (.cons (.cmp .ne (.call i_moved (.cons (.call i_back (.cons (.var 9) (.nil))) (.cons (.var 8) (.nil)))) (.var 7)) (.cons (.cmp .ne (.call i_joined (.cons (.var 9) (.cons (.call i_back (.cons (.var 9) (.nil))) (.nil)))) (.var 2)) (.nil))))) (.nil)))) (.nil)))) (.cons (.ret (.bl false)) (.nil)) (.nil)) ([], [some scr, some (Ld ds), some (MD none1), some (.int turn), some (.int k), some (.list (Ms.map MD)), x6, some (PT p), some (PT (act w p)), some (MD w), y10, x11, some way, x13, x14, x15, x16, x17, x18, x19, x20, x21, x22, x23, x24]) = .nx ([], [some scr, some (Ld ds), some (MD none1), some (.int turn), some (.int k), some (.list (Ms.map MD)), x6, some (PT p), some (PT (act w p)), some (MD w), y10, x11, some way, x13, x14, x15, x16, x17, x18, x19, x20, x21, x22, x23, x24]) := by
    by_cases c : det w = 0
    · refine ⟨.none, ?_, ?_⟩
      · simp! [ev_lback0 4 hw (by omega) c]
      · have r := ev_ref0 1 hw (by omega) c
        have r2 : cmpV .ne (.tuple [.str "way", .int 0]) (.tuple [.str "way", .int 0]) = .ok (.bool false) := cneS rfl
        simp! [r, r2]
    · refine ⟨MD (backM w), ?_, ?_⟩
      · simp! [ev_lback 4 hw (by omega) c]
      · have hb : IsM (backM w) (3 * (8 + 11 * Ms.length) + 4) := @isM_low (backV w) (det w) _ (backV_bd w) ((inferInstance : Bd (det w) (3 * (8 + 11 * Ms.length) + 3)).up (by omega)) c
        have r1 := ev_back 2 hw (by omega) c
        have r2 := ev_moved 2 hb hh (by omega) (by omega)
        have r3 := ev_joined 2 hw hb (by omega) (by omega)
        rw [act_back w0 c] at r2
        rw [join_back w0 c] at r3
        simp! [r1, r2, r3, cneM, cneP]
  refine ⟨_, _, _, _, _, _, _, _, _, _, _, _, _, _, _, _, _, _, _, _, _, _, seq1 (s' := ([], [some scr, some (Ld ds), some (MD none1), some (.int turn), some (.int k), x5, x6, x7, x8, x9, x10, x11, x12, x13, x14, x15, x16, x17, x18, x19, x20, x21, x22, x23, x24])) ?_ (seq1 sMs (seq1 sp (seq1 (s' := ([], [some scr, some (Ld ds), some (MD none1), some (.int turn), some (.int k), some (.list (Ms.map MD)), x6, some (PT p), some (PT p), some (MD none1), x10, x11, x12, x13, x14, x15, x16, x17, x18, x19, x20, x21, x22, x23, x24])) rfl (seq1 (s' := ([], [some scr, some (Ld ds), some (MD none1), some (.int turn), some (.int k), some (.list (Ms.map MD)), x6, some (PT p), some (PT (act w p)), some (MD w), y10, x11, x12, x13, x14, x15, x16, x17, x18, x19, x20, x21, x22, x23, x24])) ?_ (seq1 (s' := ([], [some scr, some (Ld ds), some (MD none1), some (.int turn), some (.int k), some (.list (Ms.map MD)), x6, some (PT p), some (PT (act w p)), some (MD w), y10, x11, x12, x13, x14, x15, x16, x17, x18, x19, x20, x21, x22, x23, x24])) ?_ (seq1 sway (seq1 s7 rfl)))))))⟩
  · simp! [hk]
  · rw [evS]
    dsimp only [evIt, evE, List.getElem?_cons_succ, List.getElem?_cons_zero, bok, itmL]
    exact sw
  · simp! [l1, cneP]

end
end k01
set_option Elab.async false
set_option linter.all false
set_option maxRecDepth 100000
set_option maxHeartbeats 4000000
namespace k01
open PySem PySem.Spec PyProof.Rows L2 Fe
theorem gf_one : ∀ (l : List Int), gf 1 l = 1
  | [] => rfl
  | a :: l => by
    show gf (gg 1 a) l = 1
    have : gg 1 a = 1 := by unfold gg; simp
    rw [this, gf_one l]
theorem low_one (v : V12) : lowM v 1 = ⟨v, 1⟩ := low_self (m := ⟨v, 1⟩) ⟨(by decide : (0 : Int) < 1), gf_one _⟩
theorem axis_ok (ns ds : List Int) (t : Int) (h : t = 0 ∨ t = 1 ∨ t = 2) (x3 x4 x5 x6 x7 x8 x9 x10 x11 x12 x13 x14 x15 x16 x17 x18 x19 x20 x21 x22 x23 x24 : Option PD) : ∃ y3 y4 y5 y6 y7 y8 y9 y10 y11 y12 y13 y14 y15 y16 y17 y18 y19 y20 y21 y22 y23 y24, evSs (sgOf pg 7) l_law_1 ([], [some (Ld ns), some (Ld ds), some (MD none1), x3, x4, x5, x6, x7, x8, x9, x10, x11, x12, some (.int t), x14, x15, x16, x17, x18, x19, x20, x21, x22, x23, x24]) = .nx ([], [some (Ld ns), some (Ld ds), some (MD none1), y3, y4, y5, y6, y7, y8, y9, y10, y11, y12, y13, y14, y15, y16, y17, y18, y19, y20, y21, y22, y23, y24]) := by
  rcases h with rfl | rfl | rfl
  · exact ⟨some (.tuple [.tuple [.int 1, .int 0, .int 0, .int 0, .int 0, .int 0, .int (-1), .int 0, .int 0, .int 1, .int 0, .int 0], .int 1]), x4, x5, x6, x7, x8, x9, x10, x11, x12, some (.int 0), some (.list [.list [.tuple [.int 1, .int 1], .tuple [.int 0, .int 1], .tuple [.int 0, .int 1]], .list [.tuple [.int 0, .int 1], .tuple [.int 1, .int 1], .tuple [.int 0, .int 1]], .list [.tuple [.int 0, .int 1], .tuple [.int 0, .int 1], .tuple [.int 1, .int 1]]]), x15, x16, x17, x18, x19, x20, x21, x22, x23, x24, by kernel_rfl⟩
  · exact ⟨some (.tuple [.tuple [.int 0, .int 0, .int 1, .int 0, .int 0, .int 1, .int 0, .int 0, .int (-1), .int 0, .int 0, .int 0], .int 1]), x4, x5, x6, x7, x8, x9, x10, x11, x12, some (.int 1), some (.list [.list [.tuple [.int 1, .int 1], .tuple [.int 0, .int 1], .tuple [.int 0, .int 1]], .list [.tuple [.int 0, .int 1], .tuple [.int 1, .int 1], .tuple [.int 0, .int 1]], .list [.tuple [.int 0, .int 1], .tuple [.int 0, .int 1], .tuple [.int 1, .int 1]]]), x15, x16, x17, x18, x19, x20, x21, x22, x23, x24, by kernel_rfl⟩
  · exact ⟨some (.tuple [.tuple [.int 0, .int (-1), .int 0, .int 0, .int 1, .int 0, .int 0, .int 0, .int 0, .int 0, .int 1, .int 0], .int 1]), x4, x5, x6, x7, x8, x9, x10, x11, x12, some (.int 2), some (.list [.list [.tuple [.int 1, .int 1], .tuple [.int 0, .int 1], .tuple [.int 0, .int 1]], .list [.tuple [.int 0, .int 1], .tuple [.int 1, .int 1], .tuple [.int 0, .int 1]], .list [.tuple [.int 0, .int 1], .tuple [.int 0, .int 1], .tuple [.int 1, .int 1]]]), x15, x16, x17, x18, x19, x20, x21, x22, x23, x24, by kernel_rfl⟩
theorem law_ok (ns : List Int) (hn : ns.length ≤ 63) : evF hd.p 8 i_law [.list (ns.map .int)] = .ok (.bool true) := by
  obtain ⟨ds, ed, hd⟩ := ev_dr 6 ns hn
  show evF pg 8 i_law [Ld ns] = _
  rw [u_law]
  unfold b_law
  have s3 : ∃ y3 y4 y5 y6 y7 y8 y9 y10 y11 y12 y13 y14 y15 y16 y17 y18 y19 y20 y21 y22 y23 y24, evS (sgOf pg 7) (.for_ (.nm 3) (.r1 (.int 4)) (l_law_3)) ([], [some (Ld ns), some (Ld ds), some (MD none1), none, none, none, none, none, none, none, none, none, none, none, none, none, none, none, none, none, none, none, none, none, none]) = .nx ([], [some (Ld ns), some (Ld ds), some (MD none1), y3, y4, y5, y6, y7, y8, y9, y10, y11, y12, y13, y14, y15, y16, y17, y18, y19, y20, y21, y22, y23, y24]) := by
    rw [evS]
    have r4 : ∀ ρ, evIt (sgOf pg 7) (.r1 (.int 4)) ρ = .ok (rngV 0 4) := fun _ => rfl
    rw [r4, sok]
    obtain ⟨s', q, ⟨y3, y4, y5, y6, y7, y8, y9, y10, y11, y12, y13, y14, y15, y16, y17, y18, y19, y20, y21, y22, y23, y24, rfl⟩⟩ := forGo_ix (t := .nm 3) (f := evSs (sgOf pg 7) l_law_3) (fun _ s => ∃ y3 y4 y5 y6 y7 y8 y9 y10 y11 y12 y13 y14 y15 y16 y17 y18 y19 y20 y21 y22 y23 y24 : Option PD, s = ([], [some (Ld ns), some (Ld ds), some (MD none1), y3, y4, y5, y6, y7, y8, y9, y10, y11, y12, y13, y14, y15, y16, y17, y18, y19, y20, y21, y22, y23, y24])) (rngV 0 4) 0 ([], [some (Ld ns), some (Ld ds), some (MD none1), none, none, none, none, none, none, none, none, none, none, none, none, none, none, none, none, none, none, none, none, none, none]) ⟨none, none, none, none, none, none, none, none, none, none, none, none, none, none, none, none, none, none, none, none, none, none, rfl⟩ (by
      rintro i d s _ hd2 ⟨z3, z4, z5, z6, z7, z8, z9, z10, z11, z12, z13, z14, z15, z16, z17, z18, z19, z20, z21, z22, z23, z24, rfl⟩
      obtain ⟨k, hk, rfl⟩ := mem_rng hd2
      obtain ⟨w3, w4, w5, w6, w7, w8, w9, w10, w11, w12, w13, w14, w15, w16, w17, w18, w19, w20, w21, w22, w23, w24, hq⟩ := turn_ok (Ld ns) ds hd (k : Int) (by omega) (by omega) z3 z4 z5 z6 z7 z8 z9 z10 z11 z12 z13 z14 z15 z16 z17 z18 z19 z20 z21 z22 z23 z24
      exact ⟨_, _, rfl, hq, _, _, _, _, _, _, _, _, _, _, _, _, _, _, _, _, _, _, _, _, _, _, rfl⟩)
    exact ⟨y3, y4, y5, y6, y7, y8, y9, y10, y11, y12, y13, y14, y15, y16, y17, y18, y19, y20, y21, y22, y23, y24, q⟩
  obtain ⟨x3, x4, x5, x6, x7, x8, x9, x10, x11, x12, x13, x14, x15, x16, x17, x18, x19, x20, x21, x22, x23, x24, s3⟩ := s3
  have s4 : ∃ y3 y4 y5 y6 y7 y8 y9 y10 y11 y12 y13 y14 y15 y16 y17 y18 y19 y20 y21 y22 y23 y24, evS (sgOf pg 7) (.for_ (.nm 13) (.r1 (.int 3)) (l_law_1)) ([], [some (Ld ns), some (Ld ds), some (MD none1), x3, x4, x5, x6, x7, x8, x9, x10, x11, x12, x13, x14, x15, x16, x17, x18, x19, x20, x21, x22, x23, x24]) = .nx ([], [some (Ld ns), some (Ld ds), some (MD none1), y3, y4, y5, y6, y7, y8, y9, y10, y11, y12, y13, y14, y15, y16, y17, y18, y19, y20, y21, y22, y23, y24]) := by
    rw [evS]
    have r4 : ∀ ρ, evIt (sgOf pg 7) (.r1 (.int 3)) ρ = .ok (rngV 0 3) := fun _ => rfl
    rw [r4, sok]
    obtain ⟨s', q, ⟨y3, y4, y5, y6, y7, y8, y9, y10, y11, y12, y13, y14, y15, y16, y17, y18, y19, y20, y21, y22, y23, y24, rfl⟩⟩ := forGo_ix (t := .nm 13) (f := evSs (sgOf pg 7) l_law_1) (fun _ s => ∃ y3 y4 y5 y6 y7 y8 y9 y10 y11 y12 y13 y14 y15 y16 y17 y18 y19 y20 y21 y22 y23 y24 : Option PD, s = ([], [some (Ld ns), some (Ld ds), some (MD none1), y3, y4, y5, y6, y7, y8, y9, y10, y11, y12, y13, y14, y15, y16, y17, y18, y19, y20, y21, y22, y23, y24])) (rngV 0 3) 0 ([], [some (Ld ns), some (Ld ds), some (MD none1), x3, x4, x5, x6, x7, x8, x9, x10, x11, x12, x13, x14, x15, x16, x17, x18, x19, x20, x21, x22, x23, x24]) ⟨_, _, _, _, _, _, _, _, _, _, _, _, _, _, _, _, _, _, _, _, _, _, rfl⟩ (by
      rintro i d s _ hd2 ⟨z3, z4, z5, z6, z7, z8, z9, z10, z11, z12, z13, z14, z15, z16, z17, z18, z19, z20, z21, z22, z23, z24, rfl⟩
      obtain ⟨k, hk, rfl⟩ := mem_rng hd2
      obtain ⟨w3, w4, w5, w6, w7, w8, w9, w10, w11, w12, w13, w14, w15, w16, w17, w18, w19, w20, w21, w22, w23, w24, hq⟩ := axis_ok ns ds (k : Int) (by omega) z3 z4 z5 z6 z7 z8 z9 z10 z11 z12 z13 z14 z15 z16 z17 z18 z19 z20 z21 z22 z23 z24
      exact ⟨_, _, rfl, hq, _, _, _, _, _, _, _, _, _, _, _, _, _, _, _, _, _, _, _, _, _, _, rfl⟩)
    exact ⟨y3, y4, y5, y6, y7, y8, y9, y10, y11, y12, y13, y14, y15, y16, y17, y18, y19, y20, y21, y22, y23, y24, q⟩
  obtain ⟨y3, y4, y5, y6, y7, y8, y9, y10, y11, y12, y13, y14, y15, y16, y17, y18, y19, y20, y21, y22, y23, y24, s4⟩ := s4
  obtain ⟨x, y, z, n, d, bx, bY, bz, bn, bd, s5⟩ : ∃ x y z n d : Int, Bd x 12 ∧ Bd y 12 ∧ Bd z 12 ∧ Bd n 12 ∧ Bd d 12 ∧ evS (sgOf pg 7) (.unp (.tp [.nm 18, .nm 19, .nm 20, .nm 16, .nm 17]) (.comp (.bin .sub (.call i__law_mix (.cons (.var 1) (.cons (.bin .add (.int 450) (.var 6)) (.cons (.int 2001) (.nil))))) (.int 1000)) (.nm 6) (.r1 (.int 5)) (.none) [6])) ([], [some (Ld ns), some (Ld ds), some (MD none1), y3, y4, y5, y6, y7, y8, y9, y10, y11, y12, y13, y14, y15, y16, y17, y18, y19, y20, y21, y22, y23, y24]) = .nx ([], [some (Ld ns), some (Ld ds), some (MD none1), y3, y4, y5, y6, y7, y8, y9, y10, y11, y12, y13, y14, y15, some (.int n), some (.int d), some (.int x), some (.int y), some (.int z), y21, y22, y23, y24]) := by
    refine ⟨mixF ds 450 2001 - 1000, mixF ds 451 2001 - 1000, mixF ds 452 2001 - 1000, mixF ds 453 2001 - 1000, mixF ds 454 2001 - 1000, inferInstance, inferInstance, inferInstance, inferInstance, inferInstance, ?_⟩
    simp! [ev_mix _ hd]
  have D0 : 1 + ((d.natAbs : Nat) : Int) ≠ 0 := by omega
  have D1 : ¬ 1 + ((d.natAbs : Nat) : Int) < 1 := by omega
  have BD : Bd (1 + ((d.natAbs : Nat) : Int)) 13 := by
    have h := bd.h
    exact ⟨by have : (2 : Nat) ^ 13 = 2 * 2 ^ 12 := by decide
              have : (2 : Nat) ^ 12 = 4096 := by decide
              omega⟩
  have b0 : (0 : Int).natAbs < 2 ^ 12 := by decide
  have b1 : (1 : Int).natAbs < 2 ^ 12 := by decide
  have V1 : BdV ⟨1, 0, 0, x, 0, 1, 0, y, 0, 0, 1, z⟩ 12 := ⟨b1, b0, b0, bx.h, b0, b1, b0, bY.h, b0, b0, b1, bz.h⟩
  have V2 : BdV ⟨n, 0, 0, 0, 0, n, 0, 0, 0, 0, n, 0⟩ 12 := ⟨bn.h, b0, b0, b0, b0, bn.h, b0, b0, b0, b0, bn.h, b0⟩
  have l1 := ev_lmoveL 5 ⟨1, 0, 0, x, 0, 1, 0, y, 0, 0, 1, z⟩ 1 (by decide) (by decide) (by decide)
  have l2 := ev_lmoveL 5 ⟨n, 0, 0, 0, 0, n, 0, 0, 0, 0, n, 0⟩ _ D0 (by decide) (by decide)
  have l3 := ev_leastT 3 ⟨n, 0, 0, 0, 0, n, 0, 0, 0, 0, n, 0⟩ _ D0 (by decide) (by decide)
  rw [low_one] at l1
  dsimp only at l1 l2 l3
  have l4 : evF pg 7 i_scale [.int n, .int (1 + ((d.natAbs : Nat) : Int))] = .ok (MD (lowM ⟨n, 0, 0, 0, 0, n, 0, 0, 0, 0, n, 0⟩ (1 + ((d.natAbs : Nat) : Int)))) := by
    rw [u_scale]
    unfold b_scale
    simp! [D1, l3]
  have l5 : evF pg 7 i_shift [.int x, .int y, .int z] = .ok (MD ⟨⟨1, 0, 0, x, 0, 1, 0, y, 0, 0, 1, z⟩, 1⟩) := rfl
  refine (congrArg fin (?_ : _ = SR.rt (.bool true))).trans (frt (.bool true))
  refine (seq1 (s' := ([], [some (Ld ns), some (Ld ds), none, none, none, none, none, none, none, none, none, none, none, none, none, none, none, none, none, none, none, none, none, none, none])) ?_ (seq1 (s' := ([], [some (Ld ns), some (Ld ds), some (MD none1), none, none, none, none, none, none, none, none, none, none, none, none, none, none, none, none, none, none, none, none, none, none])) ?_ (seq1 (s' := ([], [some (Ld ns), some (Ld ds), some (MD none1), none, none, none, none, none, none, none, none, none, none, none, none, none, none, none, none, none, none, none, none, none, none])) ?_ (seq1 s3 (seq1 s4 (seq1 s5 (seq1 (s' := ([], [some (Ld ns), some (Ld ds), some (MD none1), y3, y4, y5, y6, y7, y8, y9, y10, y11, y12, y13, y14, y15, some (.int n), some (.int d), some (.int x), some (.int y), some (.int z), y21, y22, y23, y24])) ?_ ?_)))))))
  · simp! [ed]
  · rfl
  · rfl
  · simp! [l1, l2, l4, l5, cneM]
  · kernel_rfl
end k01
set_option Elab.async false
set_option linter.all false
set_option maxRecDepth 100000
set_option maxHeartbeats 0
open PySem PySem.W PySem.Calls PyProof.Rows
theorem PySem.Challenge.cw_samplesonce_k01_main_moves_put_together_holds : PySem.Challenge.rw_samplesonce_k01_main_moves_put_together.Holds := by
  w_on; o_law
  refine HandSHeadRun.head_any (r := OpenLaw.row PySem.Challenge.rw_samplesonce_k01_main_moves_put_together) (q := view (OpenLaw.row PySem.Challenge.rw_samplesonce_k01_main_moves_put_together).prog [44]) (H := k01.hd.hook 4) (ob := k01.ob) (M := 20000) (loose := k01.loose) (d := HandSHeadRun.topDef (OpenLaw.row PySem.Challenge.rw_samplesonce_k01_main_moves_put_together).prog 44) (kwd := []) k01.ob_eq
    (by kernel_rfl) (fun s => by kernel_rfl) k01.run (by kernel_rfl) (by kernel_rfl) (by kernel_rfl) (by rfl) (by first | assumption | decide +kernel) (by decide +kernel) ⟨rfl, rfl, rfl, rfl, rfl, by decide +kernel⟩ ?hw ?hc
  case hw => w_witness2
  case hc =>
    refine L2.walk_ofE (l := PySem.Challenge.rw_samplesonce_k01_main_moves_put_together) (n := 63) (k := 10) (x := "script") (CX := L2.CX0) rfl (by decide) (by kernel_rfl) ⟨rfl, by decide, by decide⟩ ?F (fun _ _ _ _ z => z)
    intro w mg fa h Y G hmg0
    obtain ⟨K, KX, c⟩ := Y
    have hmg : mg ("law" : PySem.Str) = some (.ref fa) := by
      have e : (HandSHeadRun.topDef (OpenLaw.row PySem.Challenge.rw_samplesonce_k01_main_moves_put_together).prog 44).name = ("law" : PySem.Str) := by kernel_rfl
      rw [← e]
      exact hmg0
    obtain ⟨fd, sp, hb, hs, hF⟩ := Fe.law_fn (w := w) (n := 8) (i := 33) KX G k01.stat c rfl hmg rfl k01.law_ok
    exact ⟨K, fd, sp, KX, hb, hs, hF⟩
