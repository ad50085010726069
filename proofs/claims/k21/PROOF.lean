import PyProof.Rows.All
import Wide.All
import OpenK.AllK
import Wide.FinOn
import HandS.ForMost
import HandS.ForExc
import HandS.ExcInit
import HandS.ExcSuper
import HandS.Wide
import HandS.Deep
import HandS.Flow
import HandS.Conv
import HandS.TryMany
import HandS.CallSlots
import HandS.HeadHook2
import HandS.HeadEnd
import HandS.Head2
import HandS.DictComp
import HandS.SortInts
import HandS.SortRule
import HandS.Zip
import HandS.DictTup
import HandS.DictEq
import HandS.TupAny
import HandS.Style
import HandS.TupMul
import KE.GoesEnum
import HandS.Star
import HandS.ExcField
import HandS.Small
import KE.KSuper
import HandS.Nested
import HandS.Codes
import HandS.HeadHook1
import PySem.Challenge.RW_samplesonce_k21_main_boxes_that_touch_an
set_option Elab.async false
set_option linter.all false
set_option maxRecDepth 100000
set_option maxHeartbeats 4000000
/-! Fe, part A: data on the abstract heap, away from what is owned. -/
namespace Fe
open PySem PySem.Spec PyProof.Rows L2

abbrev PD := PyData

/-- what an evaluation comes to: a value, an own error with its number, or nothing that is told -/
inductive R (α : Type) where
  | ok (a : α)
  | exc (c : Str) (i : Int)
  | bad
def R.bind {α β : Type} (r : R α) (f : α → R β) : R β := match r with
  | .ok a => f a
  | .exc c i => .exc c i
  | .bad => .bad
theorem R.bind_ok {α β : Type} (a : α) (f : α → R β) : (R.ok a).bind f = f a := rfl

/-- a key as data -/
def kP : Key → PD
  | .inl i => .int i
  | .inr x => .str x
/-- the pairs that a dict holds at a, keys as data -/
def DPs (H : Hp) (a : Addr) (ps : List (PD × V)) : Prop :=
  (∃ kvs : List (Key × V), Rd H a (.dK kvs) ∧ ps = kvs.map fun p => (kP p.1, p.2)) ∨
  (∃ kvs : List (List Key × V), Rd H a (.dT kvs) ∧ ps = kvs.map fun p => (PyData.tuple (p.1.map kP), p.2))
mutual
/-- the value v is the data d on the heap H; none of its lists and dicts is owned -/
inductive RX (K : PySem.W.Frag) (O : Addr → Prop) (H : Hp) : V → PD → Prop
  | non : RX K O H .non .none
  | bl (b : Bool) : RX K O H (.bl b) (.bool b)
  | int (i : Int) : RX K O H (.int i) (.int i)
  | str (x : Str) (h : PyData.strOk x = true) : RX K O H (.str x) (.str x)
  | lst {a : Addr} {xs : List V} {ds : List PD} (ho : ¬ O a) (h : Rd H a (.lst xs)) (r : RXs K O H xs ds) : RX K O H (.ref a) (.list ds)
  | tup {a : Addr} {xs : List V} {ds : List PD} (h : SqT K H a xs) (r : RXs K O H xs ds) : RX K O H (.ref a) (.tuple ds)
  | dct {a : Addr} {ps : List (PD × V)} {ds : List (PD × PD)} (ho : ¬ O a) (h : DPs H a ps) (r : RXp K O H ps ds) : RX K O H (.ref a) (.dict ds)
inductive RXs (K : PySem.W.Frag) (O : Addr → Prop) (H : Hp) : List V → List PD → Prop
  | nil : RXs K O H [] []
  | cons {v : V} {d : PD} {vs : List V} {ds : List PD} (h : RX K O H v d) (r : RXs K O H vs ds) : RXs K O H (v :: vs) (d :: ds)
inductive RXp (K : PySem.W.Frag) (O : Addr → Prop) (H : Hp) : List (PD × V) → List (PD × PD) → Prop
  | nil : RXp K O H [] []
  | cons {k : PD} {v : V} {d : PD} {vs : List (PD × V)} {ds : List (PD × PD)} (h : RX K O H v d) (r : RXp K O H vs ds) : RXp K O H ((k, v) :: vs) ((k, d) :: ds)
end

theorem Rd.same {H H' : Hp} {a : Addr} {u : HO} (s : Same H H') (h : Rd H a u) : Rd H' a u := by
  rcases h with h | ⟨o, h⟩
  · exact .inl (s _ _ h)
  · exact .inr ⟨o, s _ _ h⟩
theorem SqT.same {K : PySem.W.Frag} {H H' : Hp} {a : Addr} {xs : List V} (s : Same H H') (h : SqT K H a xs) : SqT K H' a xs := by
  rcases h with h | h
  · exact .inl (Rd.same s h)
  · exact .inr h
theorem DPs.same {H H' : Hp} {a : Addr} {ps : List (PD × V)} (s : Same H H') (h : DPs H a ps) : DPs H' a ps := by
  rcases h with ⟨k, h, e⟩ | ⟨k, h, e⟩
  · exact .inl ⟨k, Rd.same s h, e⟩
  · exact .inr ⟨k, Rd.same s h, e⟩

/-- two heaps, two owned sets: what reads of the one reads of the other -/
structure Lift (O : Addr → Prop) (H : Hp) (O' : Addr → Prop) (H' : Hp) : Prop where
  rd : ∀ a u, ¬ O a → Rd H a u → Rd H' a u
  tp : ∀ a xs, Rd H a (.tup xs) → Rd H' a (.tup xs)
  ow : ∀ a u, ¬ O a → Rd H a u → ¬ O' a

mutual
theorem RX.lift {K : PySem.W.Frag} {O O' : Addr → Prop} {H H' : Hp} (L : Lift O H O' H') : ∀ {v : V} {d : PD}, RX K O H v d → RX K O' H' v d
  | _, _, .non => .non
  | _, _, .bl b => .bl b
  | _, _, .int i => .int i
  | _, _, .str x h => .str x h
  | _, _, .lst ho h r => .lst (L.ow _ _ ho h) (L.rd _ _ ho h) (RXs.lift L r)
  | _, _, .tup h r => .tup (by
      rcases h with h | h
      · exact .inl (L.tp _ _ h)
      · exact .inr h) (RXs.lift L r)
  | _, _, .dct ho h r => .dct (by
      rcases h with ⟨k, h, e⟩ | ⟨k, h, e⟩
      · exact L.ow _ _ ho h
      · exact L.ow _ _ ho h) (by
      rcases h with ⟨k, h, e⟩ | ⟨k, h, e⟩
      · exact .inl ⟨k, L.rd _ _ ho h, e⟩
      · exact .inr ⟨k, L.rd _ _ ho h, e⟩) (RXp.lift L r)
theorem RXs.lift {K : PySem.W.Frag} {O O' : Addr → Prop} {H H' : Hp} (L : Lift O H O' H') : ∀ {v : List V} {d : List PD}, RXs K O H v d → RXs K O' H' v d
  | _, _, .nil => .nil
  | _, _, .cons h r => .cons (RX.lift L h) (RXs.lift L r)
theorem RXp.lift {K : PySem.W.Frag} {O O' : Addr → Prop} {H H' : Hp} (L : Lift O H O' H') : ∀ {v : List (PD × V)} {d : List (PD × PD)}, RXp K O H v d → RXp K O' H' v d
  | _, _, .nil => .nil
  | _, _, .cons h r => .cons (RX.lift L h) (RXp.lift L r)
end

section
variable {K : PySem.W.Frag} {O O' : Addr → Prop} {H H' : Hp} {v : V} {d : PD} {a : Addr} {o : HO}
theorem Lift.same (s : Same H H') : Lift O H O H' := ⟨fun _ _ _ h => Rd.same s h, fun _ _ h => Rd.same s h, fun _ _ h _ => h⟩
theorem Lift.less (l : ∀ a, O' a → O a) : Lift O H O' H := ⟨fun _ _ _ h => h, fun _ _ h => h, fun _ _ h _ z => h (l _ z)⟩
/-- an owned thing is written -/
theorem Lift.upd {u : HO} (ho : O a) (hu : H a = some u) (hm : Mut (some u)) : Lift O H O (upd H a o) := by
  refine ⟨fun b w hb h => ?_, fun b xs h => ?_, fun _ _ h _ => h⟩
  · have ne : b ≠ a := fun e => hb (e ▸ ho)
    rcases h with h | ⟨ob, h⟩
    · exact .inl (by rw [upd_ne ne]; exact h)
    · exact .inr ⟨ob, by rw [upd_ne ne]; exact h⟩
  · have ne : b ≠ a := fun e => by
      subst e
      rcases h with h | ⟨ob, h⟩
      · rw [hu] at h; cases h; exact hm
      · rw [hu] at h; cases h; exact hm
    rcases h with h | ⟨ob, h⟩
    · exact .inl (by rw [upd_ne ne]; exact h)
    · exact .inr ⟨ob, by rw [upd_ne ne]; exact h⟩
/-- a new thing is owned from now on -/
theorem Lift.own (hn : H a = none) : Lift O H (fun b => O b ∨ b = a) H :=
  ⟨fun _ _ _ h => h, fun _ _ h => h, fun b u hb h z => by
    rcases z with z | z
    · exact hb z
    · subst z
      rcases h with h | ⟨ob, h⟩
      · rw [hn] at h; cases h
      · rw [hn] at h; cases h⟩
theorem Lift.trans {O1 O2 O3 : Addr → Prop} {H1 H2 H3 : Hp} (x : Lift O1 H1 O2 H2) (y : Lift O2 H2 O3 H3) : Lift O1 H1 O3 H3 :=
  ⟨fun a u h r => y.rd a u (x.ow a u h r) (x.rd a u h r), fun a xs r => y.tp a xs (x.tp a xs r), fun a u h r => y.ow a u (x.ow a u h r) (x.rd a u h r)⟩
theorem RX.same (s : Same H H') (h : RX K O H v d) : RX K O H' v d := h.lift (Lift.same s)
theorem RXs.same {vs : List V} {ds : List PD} (s : Same H H') (h : RXs K O H vs ds) : RXs K O H' vs ds := h.lift (Lift.same s)
theorem RXp.same {vs : List (PD × V)} {ds : List (PD × PD)} (s : Same H H') (h : RXp K O H vs ds) : RXp K O H' vs ds := h.lift (Lift.same s)
theorem RX.less (l : ∀ a, O' a → O a) (h : RX K O H v d) : RX K O' H v d := h.lift (Lift.less l)
theorem RXs.less {vs : List V} {ds : List PD} (l : ∀ a, O' a → O a) (h : RXs K O H vs ds) : RXs K O' H vs ds := h.lift (Lift.less l)
theorem RXp.less {vs : List (PD × V)} {ds : List (PD × PD)} (l : ∀ a, O' a → O a) (h : RXp K O H vs ds) : RXp K O' H vs ds := h.lift (Lift.less l)
theorem same_new (h : H a = none) : Same H (upd H a o) := fun b x e => by
  rw [upd_ne (ne_of_none e h)]
  exact e
end

theorem RXs.length {K : PySem.W.Frag} {O : Addr → Prop} {H : Hp} : ∀ {vs : List V} {ds : List PD}, RXs K O H vs ds → vs.length = ds.length
  | _, _, .nil => rfl
  | _, _, .cons _ r => by simp [RXs.length r]
theorem RXs.get {K : PySem.W.Frag} {O : Addr → Prop} {H : Hp} : ∀ {vs : List V} {ds : List PD} {i : Nat} {d : PD}, RXs K O H vs ds → ds[i]? = some d → ∃ v, vs[i]? = some v ∧ RX K O H v d
  | _, _, _, _, .nil, h => by simp at h
  | _, _, 0, _, .cons h _, e => ⟨_, rfl, by simp at e; subst e; exact h⟩
  | _, _, i + 1, _, .cons _ r, e => by
    obtain ⟨v, e1, h1⟩ := RXs.get (i := i) r (by simpa using e)
    exact ⟨v, by simpa using e1, h1⟩
theorem RXs.get' {K : PySem.W.Frag} {O : Addr → Prop} {H : Hp} : ∀ {vs : List V} {ds : List PD} {i : Nat} {v : V}, RXs K O H vs ds → vs[i]? = some v → ∃ d, ds[i]? = some d ∧ RX K O H v d
  | _, _, _, _, .nil, h => by simp at h
  | _, _, 0, _, .cons h _, e => ⟨_, rfl, by simp at e; subst e; exact h⟩
  | _, _, i + 1, _, .cons _ r, e => by
    obtain ⟨v, e1, h1⟩ := RXs.get' (i := i) r (by simpa using e)
    exact ⟨v, by simpa using e1, h1⟩
theorem RXs.append {K : PySem.W.Frag} {O : Addr → Prop} {H : Hp} : ∀ {vs us : List V} {ds es : List PD}, RXs K O H vs ds → RXs K O H us es → RXs K O H (vs ++ us) (ds ++ es)
  | _, _, _, _, .nil, h => h
  | _, _, _, _, .cons h r, h2 => .cons h (RXs.append r h2)
theorem RXs.take {K : PySem.W.Frag} {O : Addr → Prop} {H : Hp} : ∀ (n : Nat) {vs : List V} {ds : List PD}, RXs K O H vs ds → RXs K O H (vs.take n) (ds.take n)
  | 0, _, _, _ => by simp; exact .nil
  | n + 1, _, _, .nil => by simp; exact .nil
  | n + 1, _, _, .cons h r => by simp; exact .cons h (RXs.take n r)
theorem RXs.drop {K : PySem.W.Frag} {O : Addr → Prop} {H : Hp} : ∀ (n : Nat) {vs : List V} {ds : List PD}, RXs K O H vs ds → RXs K O H (vs.drop n) (ds.drop n)
  | 0, _, _, h => by simpa using h
  | n + 1, _, _, .nil => by simp; exact .nil
  | n + 1, _, _, .cons h r => by simp; exact RXs.drop n r
theorem RXs.set {K : PySem.W.Frag} {O : Addr → Prop} {H : Hp} {v : V} {d : PD} (h : RX K O H v d) : ∀ (n : Nat) {vs : List V} {ds : List PD}, RXs K O H vs ds → RXs K O H (vs.set n v) (ds.set n d)
  | _, _, _, .nil => .nil
  | 0, _, _, .cons _ r => .cons h r
  | n + 1, _, _, .cons g r => .cons g (RXs.set h n r)
theorem RXs.ints {K : PySem.W.Frag} {O : Addr → Prop} {H : Hp} : ∀ {vs : List V} {ns : List Int}, RXs K O H vs (ns.map PyData.int) → vs = ns.map V.int
  | _, [], h => by cases h; rfl
  | _, n :: ns, h => by
    cases h with
    | cons h r =>
      cases h
      rw [RXs.ints r]; rfl
theorem RXs.bools {K : PySem.W.Frag} {O : Addr → Prop} {H : Hp} : ∀ {vs : List V} {ns : List Bool}, RXs K O H vs (ns.map PyData.bool) → vs = ns.map V.bl
  | _, [], h => by cases h; rfl
  | _, n :: ns, h => by
    cases h with
    | cons h r =>
      cases h
      rw [RXs.bools r]; rfl

/-! ### data without dicts -/
mutual
def noD : PD → Bool
  | .none | .bool _ | .int _ | .str _ => true
  | .list xs | .tuple xs => noDs xs
  | .dict _ => false
def noDs : List PD → Bool
  | [] => true
  | x :: xs => noD x && noDs xs
end
mutual
theorem RX.dp {K : PySem.W.Frag} {O : Addr → Prop} {H : Hp} : ∀ {v : V} {d : PD}, RX K O H v d → noD d = true → Dp K H v d ∧ d.canLay0 = true
  | _, _, .non, _ => ⟨.non, by simp [PyData.canLay0]⟩
  | _, _, .bl b, _ => ⟨.bl b, by simp [PyData.canLay0]⟩
  | _, _, .int i, _ => ⟨.int i, by simp [PyData.canLay0]⟩
  | _, _, .str x h, _ => ⟨.str x, by simpa [PyData.canLay0] using h⟩
  | _, _, .lst _ h r, e => by
    obtain ⟨r1, r2⟩ := RXs.dp r (by simpa [noD] using e)
    exact ⟨.lst (.inl h) r1, by simpa [PyData.canLay0] using r2⟩
  | _, _, .tup h r, e => by
    obtain ⟨r1, r2⟩ := RXs.dp r (by simpa [noD] using e)
    exact ⟨.tup h r1, by simpa [PyData.canLay0] using r2⟩
  | _, _, .dct .., e => by simp [noD] at e
theorem RXs.dp {K : PySem.W.Frag} {O : Addr → Prop} {H : Hp} : ∀ {v : List V} {d : List PD}, RXs K O H v d → noDs d = true → DpAll K H v d ∧ PyData.canLayAll0 d = true
  | _, _, .nil, _ => ⟨.nil, by simp [PyData.canLayAll0]⟩
  | _, _, .cons h r, e => by
    have e' := Bool.and_eq_true_iff.mp (by simpa [noDs] using e)
    obtain ⟨h1, h2⟩ := RX.dp h e'.1
    obtain ⟨r1, r2⟩ := RXs.dp r e'.2
    exact ⟨.cons h1 r1, by simp [PyData.canLayAll0, h2, r2]⟩
end
end Fe
set_option Elab.async false
set_option linter.all false
set_option maxRecDepth 100000
set_option maxHeartbeats 4000000
/-! Fe, part B: the language, its evaluator, and the check that it is the given text. -/
namespace Fe
open PySem PySem.Spec PyProof.Rows L2

inductive Op where | add | sub | mul | fdiv | mod | pow
  deriving DecidableEq
inductive Cp where | lt | le | gt | ge | eq | ne | isin | notin
  deriving DecidableEq
inductive Bi where | len | abs | min2 | max2 | minL | maxL | int | tuple | list | sum | any | all | sorted
  deriving DecidableEq

inductive Tg where
  | nm (i : Nat)
  | tp (ts : List Tg)

mutual
inductive E where
  | var (i : Nat)
  | int (i : Int)
  | bl (b : Bool)
  | non
  | str (s : Str)
  | glob (x : Str)
  | tup (es : Es)
  | lst (es : Es)
  | bin (o : Op) (a b : E)
  | neg (a : E)
  | cmp (c : Cp) (a b : E)
  | chn (c d : Cp) (x y z : E)
  | isN (a : E)
  | noN (a : E)
  | isB (b : Bool) (a : E)
  | noB (b : Bool) (a : E)
  | ands (es : Es)
  | ors (es : Es)
  | nt (a : E)
  | ite (c a b : E)
  | ix (a b : E)
  | sl (a : E) (lo hi : Eo)
  | st (a : E) (lo hi s : Eo)
  | call (f : Nat) (es : Es)
  | callF (f : Nat) (es : Es)
  | bi (b : Bi) (es : Es)
  | comp (elt : E) (tg : Tg) (it : It) (cs : Eo) (own : List Nat)
  | disp (l : Bool) (d : Ed)
  | dct (d : Kv)
inductive Kv where
  | nil
  | cons (k v : E) (r : Kv)
inductive Ed where
  | nil
  | one (e : E) (r : Ed)
  | star (e : E) (r : Ed)
inductive Es where
  | nil
  | cons (e : E) (r : Es)
inductive Eo where
  | none
  | some (e : E)
inductive It where
  | e (a : E)
  | r1 (a : E)
  | r2 (a b : E)
  | r3 (a b c : E)
  | zip (a b : E)
  | enum (a : E)
end

abbrev Env := List (Option PD)

/-! ### values -/
def isNoneD : PD → Bool
  | .none => true
  | _ => false
def sLine : Nat := 16777216
def okLen (n : Nat) : Bool := decide (n ≤ sLine)
def binV : Op → PD → PD → R PD
  | .add, .int i, .int j => .ok (.int (i + j))
  | .add, .list a, .list b => if okLen (a.length + b.length) then .ok (.list (a ++ b)) else .bad
  | .add, .tuple a, .tuple b => if okLen (a.length + b.length) then .ok (.tuple (a ++ b)) else .bad
  | .sub, .int i, .int j => .ok (.int (i - j))
  | .mul, .list ds, .int k => if decide (-(2 ^ 63) ≤ k ∧ k < 2 ^ 63 ∧ ds.length * k.toNat ≤ sLine) then .ok (.list (List.replicate k.toNat ds).flatten) else .bad
  | .mul, .tuple ds, .int k => if decide (ds.length ≠ 0 ∧ 2 ≤ k ∧ k ≤ 1000 ∧ ds.length ≤ 1000) then .ok (.tuple (List.replicate k.toNat ds).flatten) else .bad
  | .mul, .int i, .int j => if decide (i.natAbs.log2 + j.natAbs.log2 < 1000000) then .ok (.int (i * j)) else .bad
  | .fdiv, .int i, .int j => if decide (j ≠ 0 ∧ j.natAbs.log2 < 9000) then .ok (.int (i.fdiv j)) else .bad
  | .mod, .int i, .int j => if decide (j ≠ 0) then .ok (.int (i.fmod j)) else .bad
  | .pow, .int i, .int j => if decide (0 ≤ j ∧ j ≤ 1000 ∧ i.natAbs < 2 ^ 64) then .ok (.int (i ^ j.toNat)) else .bad
  | _, _, _ => .bad
def eqOk (d e : PD) : Bool := noD d && noD e && decide (d.depth ≤ 64) && decide (e.depth ≤ 64)
def flatD : PD → Bool
  | .none | .bool _ | .int _ | .str _ => true
  | _ => false
def inV (x : PD) (ds : List PD) : Bool := ds.any fun z => PyData.eqv z x
def cmpV : Cp → PD → PD → R PD
  | .lt, .int i, .int j => .ok (.bool (decide (i < j)))
  | .le, .int i, .int j => .ok (.bool (decide (i ≤ j)))
  | .gt, .int i, .int j => .ok (.bool (decide (j < i)))
  | .ge, .int i, .int j => .ok (.bool (decide (j ≤ i)))
  | .eq, d, e => if eqOk d e then .ok (.bool (PyData.eqv d e)) else .bad
  | .ne, d, e => if eqOk d e then .ok (.bool (!PyData.eqv d e)) else .bad
  | .isin, d, .list ds => if eqOk d (.list ds) then .ok (.bool (inV d ds)) else .bad
  | .notin, d, .list ds => if eqOk d (.list ds) then .ok (.bool (!inV d ds)) else .bad
  | .isin, d, .tuple ds => if flatD d && ds.all flatD then .ok (.bool (inV d ds)) else .bad
  | .notin, d, .tuple ds => if flatD d && ds.all flatD then .ok (.bool (!inV d ds)) else .bad
  | _, _, _ => .bad
def ints? : List PD → Option (List Int)
  | [] => some []
  | .int i :: r => (ints? r).map (i :: ·)
  | _ :: _ => none
def bools? : List PD → Option (List Bool)
  | [] => some []
  | .bool i :: r => (bools? r).map (i :: ·)
  | _ :: _ => none
def leastI : Int → List Int → Int
  | m, [] => m
  | m, x :: r => leastI (if x < m then x else m) r
def mostI : Int → List Int → Int
  | m, [] => m
  | m, x :: r => mostI (if m < x then x else m) r
/-- insertion of an int into a rising list -/
def insI (x : Int) : List Int → List Int
  | [] => [x]
  | y :: r => if x ≤ y then x :: y :: r else y :: insI x r
def sortI : List Int → List Int
  | [] => []
  | x :: r => insI x (sortI r)
def biV : Bi → List PD → R PD
  | .len, [.list ds] => .ok (.int ds.length)
  | .len, [.tuple ds] => .ok (.int ds.length)
  | .abs, [.int i] => .ok (.int i.natAbs)
  | .min2, [.int i, .int j] => .ok (.int (if j < i then j else i))
  | .max2, [.int i, .int j] => .ok (.int (if i < j then j else i))
  | .minL, [.list ds] => (match ints? ds with | some (x :: r) => .ok (.int (leastI x r)) | _ => .bad)
  | .maxL, [.list ds] => (match ints? ds with | some (x :: r) => .ok (.int (mostI x r)) | _ => .bad)
  | .int, [.int i] => .ok (.int i)
  | .int, [.bool b] => .ok (.int (if b then 1 else 0))
  | .tuple, [.list ds] => .ok (.tuple ds)
  | .tuple, [.tuple ds] => .ok (.tuple ds)
  | .list, [.list ds] => .ok (.list ds)
  | .list, [.tuple ds] => .ok (.list ds)
  | .sum, [.list ds] => (match ints? ds with | some ns => .ok (.int ns.sum) | _ => .bad)
  | .any, [.list ds] => (match bools? ds with | some bs => .ok (.bool (bs.any id)) | _ => .bad)
  | .all, [.list ds] => (match bools? ds with | some bs => .ok (.bool (bs.all id)) | _ => .bad)
  | .sorted, [.list ds] => (match ints? ds with | some ns => .ok (.list ((sortI ns).map .int)) | _ => .bad)
  | _, _ => .bad
/-- keys of dicts: ints and texts -/
def keyEq : PD → PD → Bool
  | .int i, .int j => decide (i = j)
  | .str x, .str y => decide (x = y)
  | _, _ => false
def keyOf : PD → Option Key
  | .int i => some (.inl i)
  | .str x => some (.inr x)
  | _ => none
def getP (kvs : List (PD × PD)) (k : PD) : Option PD := (kvs.find? fun p => keyEq p.1 k).map (·.2)
def putP (kvs : List (PD × PD)) (k v : PD) : List (PD × PD) := if (kvs.any fun p => keyEq p.1 k) = true then kvs.map (fun p => if keyEq p.1 k then (p.1, v) else p) else kvs ++ [(k, v)]
def mergeP (kvs more : List (PD × PD)) : List (PD × PD) := more.foldl (fun acc p => putP acc p.1 p.2) kvs
def ixV : PD → PD → R PD
  | .dict kvs, k => (match getP kvs k with | some d => .ok d | none => .bad)
  | .list ds, .int i => (match atI ds i with | some d => .ok d | none => .bad)
  | .tuple ds, .int i => (match atI ds i with | some d => .ok d | none => .bad)
  | _, _ => .bad
def cutD (xs : List PD) (lo hi : Option Int) : List PD := (xs.drop (HT.sIx xs.length 0 lo)).take (HT.sIx xs.length xs.length hi - HT.sIx xs.length 0 lo)
def slV : PD → Option Int → Option Int → R PD
  | .list ds, lo, hi => .ok (.list (cutD ds lo hi))
  | .tuple ds, lo, hi => .ok (.tuple (cutD ds lo hi))
  | _, _, _ => .bad
/-- a list's items by a slice with a step -/
def stD (xs : List PD) (lo hi : Option Int) (k : Int) : List PD := (sliceRange (sliceBounds lo hi (some k) xs.length).1 (sliceBounds lo hi (some k) xs.length).2.1 k).filterMap (xs[·]?)
def stV : PD → Option Int → Option Int → Option Int → R PD
  | .list ds, lo, hi, some k => if decide (k ≠ 0) then .ok (.list (stD ds lo hi k)) else .bad
  | _, _, _, _ => .bad
def intOf : PD → R Int
  | .int i => .ok i
  | _ => .bad
def boolOf : PD → R Bool
  | .bool b => .ok b
  | _ => .bad
def itemsOf : PD → R (List PD)
  | .list ds => .ok ds
  | .tuple ds => .ok ds
  | _ => .bad
def inRg (i : Int) : Bool := decide (-(2 ^ 62) ≤ i ∧ i < 2 ^ 62)
def rngV (lo : Int) (n : Nat) : List PD := (List.range n).map fun k => .int (lo + (k : Nat))
def rngC (lo c : Int) (n : Nat) : List PD := (List.range n).map fun k => .int (lo + (k : Nat) * c)
def zipV (xs ys : List PD) : List PD := List.zipWith (fun x y => .tuple [x, y]) xs ys
def enumV : Nat → List PD → List PD
  | _, [] => []
  | n, x :: r => .tuple [.int n, x] :: enumV (n + 1) r
def zip2V : PD → PD → R (List PD)
  | .list a, .list b => .ok (zipV a b)
  | .tuple a, .tuple b => .ok (zipV a b)
  | _, _ => .bad
def enum1V : PD → R (List PD)
  | .list a => .ok (enumV 0 a)
  | .tuple a => .ok (enumV 0 a)
  | _ => .bad
def rng3V (i j c : Int) : R (List PD) :=
  if decide (inRg i = true ∧ inRg j = true ∧ c ≠ 0 ∧ c.natAbs < 1073741824 ∧ 0 ≤ Builtin.Range.rangeSize i j c) && Builtin.Range.small i j c then .ok (rngC i c (Builtin.Range.rangeSize i j c).toNat) else .bad

/-! ### targets -/
mutual
def tgSet : Tg → PD → Env → Option Env
  | .nm i, d, ρ => some (ρ.set i (some d))
  | .tp ts, .tuple ds, ρ => tgSets ts ds ρ
  | .tp ts, .list ds, ρ => tgSets ts ds ρ
  | .tp _, _, _ => none
def tgSets : List Tg → List PD → Env → Option Env
  | [], [], ρ => some ρ
  | t :: ts, d :: ds, ρ => (match tgSet t d ρ with | some ρ' => tgSets ts ds ρ' | none => none)
  | _, _, _ => none
end
def wipeE (ρ : Env) : List Nat → Env
  | [] => ρ
  | v :: vs => (wipeE ρ vs).set v none

/-! ### the evaluator of expressions -/
structure Sig where
  C : Nat → List PD → R PD
  G : List (Str × PD)
  X : Str → Str → Option Bool
  Cf : Nat → List PD → R PD
/-- a comprehension's turns; an error within is not told -/
def compGo (f : PD → R (Option PD)) : List PD → R (List PD)
  | [] => .ok []
  | d :: ds => match f d with
    | .ok o => (match compGo f ds with
      | .ok r => .ok (match o with | some x => x :: r | none => r)
      | _ => .bad)
    | _ => .bad
mutual
def evE (S : Sig) : E → Env → R PD
  | .var i, ρ => (match ρ[i]? with | some (some d) => .ok d | _ => .bad)
  | .int i, _ => .ok (.int i)
  | .bl b, _ => .ok (.bool b)
  | .non, _ => .ok .none
  | .str s, _ => .ok (.str s)
  | .glob x, _ => (match S.G.lookup x with | some d => .ok d | none => .bad)
  | .tup es, ρ => (evEs S es ρ).bind fun ds => .ok (.tuple ds)
  | .lst es, ρ => (evEs S es ρ).bind fun ds => .ok (.list ds)
  | .bin o a b, ρ => (evE S a ρ).bind fun x => (evE S b ρ).bind fun y => binV o x y
  | .neg a, ρ => (evE S a ρ).bind fun x => (intOf x).bind fun i => .ok (.int (-i))
  | .cmp c a b, ρ => (evE S a ρ).bind fun x => (evE S b ρ).bind fun y => cmpV c x y
  | .chn c d a b z, ρ => (evE S a ρ).bind fun x => (evE S b ρ).bind fun y => (cmpV c x y).bind fun r => (boolOf r).bind fun k =>
      if k then (evE S z ρ).bind fun w => cmpV d y w else .ok (.bool false)
  | .isN a, ρ => (evE S a ρ).bind fun x => .ok (.bool (isNoneD x))
  | .noN a, ρ => (evE S a ρ).bind fun x => .ok (.bool (!isNoneD x))
  | .isB b a, ρ => (evE S a ρ).bind fun x => (boolOf x).bind fun k => .ok (.bool (k == b))
  | .noB b a, ρ => (evE S a ρ).bind fun x => (boolOf x).bind fun k => .ok (.bool (!(k == b)))
  | .ands es, ρ => evAnds S es ρ
  | .ors es, ρ => evOrs S es ρ
  | .nt a, ρ => (evE S a ρ).bind fun x => (boolOf x).bind fun k => .ok (.bool (!k))
  | .ite c a b, ρ => (evE S c ρ).bind fun x => (boolOf x).bind fun k => if k then evE S a ρ else evE S b ρ
  | .ix a b, ρ => (evE S a ρ).bind fun x => (evE S b ρ).bind fun y => ixV x y
  | .sl a lo hi, ρ => (evE S a ρ).bind fun x => (evEo S lo ρ).bind fun l => (evEo S hi ρ).bind fun h => slV x l h
  | .st a lo hi s, ρ => (evE S a ρ).bind fun x => (evEo S lo ρ).bind fun l => (evEo S hi ρ).bind fun h => (evEo S s ρ).bind fun k => stV x l h k
  | .call f es, ρ => (evEs S es ρ).bind fun ds => S.C f ds
  | .callF f es, ρ => (evEs S es ρ).bind fun ds => S.Cf f ds
  | .bi b es, ρ => (evEs S es ρ).bind fun ds => biV b ds
  | .comp elt tg it cs own, ρ => (evIt S it ρ).bind fun items => (compGo (fun d => match tgSet tg d (wipeE ρ own) with
      | some ρ1 => (evC S cs ρ1).bind fun k => if k then (evE S elt ρ1).bind fun x => .ok (some x) else .ok none
      | none => .bad) items).bind fun ds => if okLen (items.length) then .ok (.list ds) else .bad
  | .disp l d, ρ => (evEd S d ρ).bind fun ds => if okLen ds.length then .ok (if l then .list ds else .tuple ds) else .bad
  | .dct p, ρ => (evKv S p ρ).bind fun ps => if decide (ps.length ≤ 15) && (!ps.isEmpty && ps.all fun p => (keyOf p.1).isSome) then .ok (.dict (mergeP [] ps)) else .bad
def evKv (S : Sig)  : Kv → Env → R (List (PD × PD))
  | .nil, _ => .ok []
  | .cons k v r, ρ => (evE S k ρ).bind fun x => (evE S v ρ).bind fun y => (evKv S r ρ).bind fun ps => .ok ((x, y) :: ps)
def evEd (S : Sig) : Ed → Env → R (List PD)
  | .nil, _ => .ok []
  | .one e r, ρ => (evE S e ρ).bind fun d => (evEd S r ρ).bind fun ds => .ok (d :: ds)
  | .star e r, ρ => (evE S e ρ).bind fun x => (itemsOf x).bind fun xs => (evEd S r ρ).bind fun ds => .ok (xs ++ ds)
def evEs (S : Sig) : Es → Env → R (List PD)
  | .nil, _ => .ok []
  | .cons e r, ρ => (evE S e ρ).bind fun d => (evEs S r ρ).bind fun ds => .ok (d :: ds)
/-- a slice's part -/
def evEo (S : Sig) : Eo → Env → R (Option Int)
  | .none, _ => .ok none
  | .some e, ρ => (evE S e ρ).bind fun x => (intOf x).bind fun i => .ok (some i)
/-- a clause's test -/
def evC (S : Sig) : Eo → Env → R Bool
  | .none, _ => .ok true
  | .some e, ρ => (evE S e ρ).bind fun x => boolOf x
def evAnds (S : Sig) : Es → Env → R PD
  | .nil, _ => .bad
  | .cons e .nil, ρ => evE S e ρ
  | .cons e r, ρ => (evE S e ρ).bind fun x => (boolOf x).bind fun k => if k then evAnds S r ρ else .ok (.bool false)
def evOrs (S : Sig) : Es → Env → R PD
  | .nil, _ => .bad
  | .cons e .nil, ρ => evE S e ρ
  | .cons e r, ρ => (evE S e ρ).bind fun x => (boolOf x).bind fun k => if k then .ok (.bool true) else evOrs S r ρ
def evIt (S : Sig) : It → Env → R (List PD)
  | .e a, ρ => (evE S a ρ).bind fun x => itemsOf x
  | .r1 a, ρ => (evE S a ρ).bind fun x => (intOf x).bind fun i => if inRg i then .ok (rngV 0 i.toNat) else .bad
  | .r2 a b, ρ => (evE S a ρ).bind fun x => (evE S b ρ).bind fun y => (intOf x).bind fun i => (intOf y).bind fun j => if inRg i && inRg j then .ok (rngV i (j - i).toNat) else .bad
  | .r3 a b c, ρ => (evE S a ρ).bind fun x => (evE S b ρ).bind fun y => (evE S c ρ).bind fun z => (intOf x).bind fun i => (intOf y).bind fun j => (intOf z).bind fun k => rng3V i j k
  | .zip a b, ρ => (evE S a ρ).bind fun x => (evE S b ρ).bind fun y => zip2V x y
  | .enum a, ρ => (evE S a ρ).bind fun x => enum1V x
end

/-! ### which slots' own things an expression hands on -/
mutual
def esc : E → List Nat
  | .var i => [i]
  | .int _ | .bl _ | .non | .str _ | .glob _ => []
  | .tup es | .lst es | .ands es | .ors es | .call _ es | .callF _ es => escs es
  | .bin _ a b | .cmp _ a b | .ix a b => pk a ++ pk b
  | .neg a | .isN a | .noN a | .isB _ a | .noB _ a | .nt a => pk a
  | .chn _ _ a b c => pk a ++ (pk b ++ pk c)
  | .ite c a b => pk c ++ (esc a ++ esc b)
  | .sl a lo hi => pk a ++ (esco lo ++ esco hi)
  | .st a lo hi s => pk a ++ (esco lo ++ (esco hi ++ esco s))
  | .bi _ es => pks es
  | .comp elt _ it cs _ => escIt it ++ (esco cs ++ esc elt)
  | .disp _ d => escd d
  | .dct p => escp p
/-- .. where it is only looked at -/
def pk : E → List Nat
  | .var _ => []
  | .int _ | .bl _ | .non | .str _ | .glob _ => []
  | .tup es | .lst es | .ands es | .ors es | .call _ es | .callF _ es => escs es
  | .bin _ a b | .cmp _ a b | .ix a b => pk a ++ pk b
  | .neg a | .isN a | .noN a | .isB _ a | .noB _ a | .nt a => pk a
  | .chn _ _ a b c => pk a ++ (pk b ++ pk c)
  | .ite c a b => pk c ++ (esc a ++ esc b)
  | .sl a lo hi => pk a ++ (esco lo ++ esco hi)
  | .st a lo hi s => pk a ++ (esco lo ++ (esco hi ++ esco s))
  | .bi _ es => pks es
  | .comp elt _ it cs _ => escIt it ++ (esco cs ++ esc elt)
  | .disp _ d => escd d
  | .dct p => escp p
def escp : Kv → List Nat
  | .nil => []
  | .cons k v r => pk k ++ (esc v ++ escp r)
def escd : Ed → List Nat
  | .nil => []
  | .one e r => esc e ++ escd r
  | .star e r => pk e ++ escd r
def escs : Es → List Nat
  | .nil => []
  | .cons e r => esc e ++ escs r
def pks : Es → List Nat
  | .nil => []
  | .cons e r => pk e ++ pks r
def esco : Eo → List Nat
  | .none => []
  | .some e => esc e
def escIt : It → List Nat
  | .e a | .r1 a | .enum a => pk a
  | .r2 a b | .zip a b => pk a ++ pk b
  | .r3 a b c => pk a ++ (pk b ++ pk c)
end
end Fe
set_option Elab.async false
set_option linter.all false
set_option maxRecDepth 100000
set_option maxHeartbeats 4000000
/-! Fe, part C: slots and data; operations by values. -/
namespace Fe
open PySem PySem.Spec PyProof.Rows L2

/-- the pairs of a dict that may be written -/
def DOwn (H : Hp) (a : Addr) (ps : List (PD × V)) : Prop :=
  (∃ kvs : List (Key × V), H a = some (.dK kvs) ∧ ps = kvs.map fun p => (kP p.1, p.2)) ∨
  (∃ kvs : List (List Key × V), H a = some (.dT kvs) ∧ ps = kvs.map fun p => (PyData.tuple (p.1.map kP), p.2))
theorem DOwn.rd {H : Hp} {a : Addr} {ps : List (PD × V)} (h : DOwn H a ps) : DPs H a ps := by
  rcases h with ⟨k, h, e⟩ | ⟨k, h, e⟩
  · exact .inl ⟨k, .inl h, e⟩
  · exact .inr ⟨k, .inl h, e⟩
theorem DOwn.same {H H' : Hp} {a : Addr} {ps : List (PD × V)} (s : Same H H') (h : DOwn H a ps) : DOwn H' a ps := by
  rcases h with ⟨k, h, e⟩ | ⟨k, h, e⟩
  · exact .inl ⟨k, s _ _ h, e⟩
  · exact .inr ⟨k, s _ _ h, e⟩
theorem keyEq_iff {k : Key} {d : PD} : keyEq (kP k) d = true ↔ d = kP k := by
  rcases k with i | x <;> cases d <;> simp [kP, keyEq, eq_comm]
theorem keyOf_kP {d : PD} {k : Key} (h : keyOf d = some k) : d = kP k := by
  cases d <;> simp [keyOf] at h <;> (subst h; rfl)
theorem getP_rx {K : PySem.W.Frag} {O : Addr → Prop} {H : Hp} : ∀ {kvs : List (Key × V)} {ds : List (PD × PD)} {d e : PD}, RXp K O H (kvs.map fun p => (kP p.1, p.2)) ds → getP ds d = some e → ∃ k v, d = kP k ∧ valV kvs k = some v ∧ RX K O H v e
  | [], ds, d, e, r, h => by
    cases r
    cases h
  | p :: kvs, ds, d, e, r, h => by
    obtain ⟨k, v⟩ := p
    cases r with
    | cons r1 r2 =>
      rename_i e1 ds1
      by_cases c : keyEq (kP k) d = true
      · have h' : some e1 = some e := by simpa [getP, List.find?_cons, c] using h
        cases h'
        exact ⟨k, v, keyEq_iff.mp c, by rw [valV_pos rfl], r1⟩
      · have c' : keyEq (kP k) d = false := by simpa using c
        have h' : getP ds1 d = some e := by simpa [getP, List.find?_cons, c'] using h
        obtain ⟨k2, v2, g1, g2, g3⟩ := getP_rx r2 h'
        refine ⟨k2, v2, g1, ?_, g3⟩
        rw [valV_neg (fun z => c (by
          have z : k = k2 := z
          rw [z, g1]
          exact keyEq_iff.mpr rfl))]
        exact g2
theorem any_rx {K : PySem.W.Frag} {O : Addr → Prop} {H : Hp} {k : Key} : ∀ {kvs : List (Key × V)} {ds : List (PD × PD)}, RXp K O H (kvs.map fun p => (kP p.1, p.2)) ds → (ds.any fun p => keyEq p.1 (kP k)) = kvs.any fun p => decide (p.1 = k)
  | [], ds, r => by cases r; rfl
  | p :: kvs, ds, r => by
    obtain ⟨j, v⟩ := p
    cases r with
    | cons r1 r2 =>
      rw [List.any_cons, List.any_cons, any_rx r2]
      congr 1
      rw [Bool.eq_iff_iff, keyEq_iff]
      rcases j with i | x <;> rcases k with i2 | x2 <;> simp [kP, eq_comm]
theorem put_rx {K : PySem.W.Frag} {O : Addr → Prop} {H : Hp} {k : Key} {v : V} {d : PD} (rv : RX K O H v d) {kvs : List (Key × V)} {ds : List (PD × PD)} (r : RXp K O H (kvs.map fun p => (kP p.1, p.2)) ds) : RXp K O H ((putK kvs k v).map fun p => (kP p.1, p.2)) (putP ds (kP k) d) := by
  unfold putK putP
  rw [any_rx r]
  split
  · have gen : ∀ {kvs : List (Key × V)} {ds : List (PD × PD)}, RXp K O H (kvs.map fun p => (kP p.1, p.2)) ds → RXp K O H ((kvs.map fun kv => if kv.1 = k then (kv.1, v) else kv).map fun p => (kP p.1, p.2)) (ds.map fun p => if keyEq p.1 (kP k) then (p.1, d) else p) := by
      intro kvs
      induction kvs with
      | nil => intro ds r; cases r; exact .nil
      | cons p kvs ih =>
        intro ds r
        obtain ⟨j, u⟩ := p
        cases r with
        | cons r1 r2 =>
          rw [List.map_cons, List.map_cons, List.map_cons]
          by_cases c : j = k
          · have c2 : keyEq (kP j) (kP k) = true := keyEq_iff.mpr (by rw [c])
            rw [if_pos c, if_pos c2]
            exact .cons rv (ih r2)
          · have c2 : ¬ keyEq (kP j) (kP k) = true := fun z => c (by
              have z := keyEq_iff.mp z
              rcases j with i | x <;> rcases k with i2 | x2 <;> simp [kP] at z <;> simp [z])
            rw [if_neg c, if_neg c2]
            exact .cons r1 (ih r2)
    exact gen r
  · have gen : ∀ {kvs : List (Key × V)} {ds : List (PD × PD)}, RXp K O H (kvs.map fun p => (kP p.1, p.2)) ds → RXp K O H ((kvs ++ [(k, v)]).map fun p => (kP p.1, p.2)) (ds ++ [(kP k, d)]) := by
      intro kvs
      induction kvs with
      | nil => intro ds r; cases r; exact .cons rv .nil
      | cons p kvs ih =>
        intro ds r
        obtain ⟨j, u⟩ := p
        cases r with
        | cons r1 r2 => exact .cons r1 (ih r2)
    exact gen r
theorem merge_rx {K : PySem.W.Frag} {O : Addr → Prop} {H : Hp} : ∀ {more : List (Key × V)} {ds : List (PD × PD)} {kvs : List (Key × V)} {es : List (PD × PD)}, RXp K O H (more.map fun p => (kP p.1, p.2)) ds → RXp K O H (kvs.map fun p => (kP p.1, p.2)) es → RXp K O H ((mergeK kvs more).map fun p => (kP p.1, p.2)) (mergeP es ds)
  | [], ds, kvs, es, r, r2 => by cases r; exact r2
  | p :: more, ds, kvs, es, r, r2 => by
    obtain ⟨k, v⟩ := p
    cases r with
    | cons r1 r3 =>
      rename_i d1 ds1
      show RXp K O H ((mergeK (putK kvs k v) more).map fun p => (kP p.1, p.2)) (mergeP (putP es (kP k) d1) ds1)
      exact merge_rx r3 (put_rx r1 r2)
/-- what stands in an owned slot -/
def Own (K : PySem.W.Frag) (O : Addr → Prop) (H : Hp) (a : Addr) : PD → Prop
  | .list ds => ∃ xs, H a = some (.lst xs) ∧ RXs K O H xs ds
  | .dict kvs => ∃ ps, DOwn H a ps ∧ RXp K O H ps kvs
  | _ => False
def isL : PD → Bool
  | .list _ | .dict _ => true
  | _ => false
theorem Own.isL {K : PySem.W.Frag} {O : Addr → Prop} {H : Hp} {a : Addr} {d : PD} (h : Own K O H a d) : isL d = true := by
  cases d <;> first | rfl | exact h.elim
theorem Own.same {K : PySem.W.Frag} {O : Addr → Prop} {H H' : Hp} {a : Addr} {d : PD} (s : Same H H') (h : Own K O H a d) : Own K O H' a d := by
  cases d <;> first | exact h.elim | skip
  · obtain ⟨xs, e, r⟩ := h
    exact ⟨xs, s _ _ e, r.same s⟩
  · obtain ⟨xs, e, r⟩ := h
    exact ⟨xs, e.same s, r.same s⟩
theorem Own.rx {K : PySem.W.Frag} {O : Addr → Prop} {H : Hp} {a : Addr} {d : PD} (no : ¬ O a) (h : Own K O H a d) : RX K O H (.ref a) d := by
  cases d <;> first | exact h.elim | skip
  · obtain ⟨xs, e, r⟩ := h
    exact .lst no (.inl e) r
  · obtain ⟨xs, e, r⟩ := h
    exact .dct no e.rd r
theorem Own.lift {K : PySem.W.Frag} {O O' : Addr → Prop} {H H' : Hp} {a : Addr} {d : PD} (L : Lift O H O' H') (e : H' a = H a) (h : Own K O H a d) : Own K O' H' a d := by
  cases d <;> first | exact h.elim | skip
  · obtain ⟨xs, e', r⟩ := h
    exact ⟨xs, e.trans e', r.lift L⟩
  · obtain ⟨xs, e', r⟩ := h
    refine ⟨xs, ?_, r.lift L⟩
    rcases e' with ⟨k, h, z⟩ | ⟨k, h, z⟩
    · exact .inl ⟨k, e.trans h, z⟩
    · exact .inr ⟨k, e.trans h, z⟩
theorem Own.mut {K : PySem.W.Frag} {O : Addr → Prop} {H : Hp} {a : Addr} {d : PD} (h : Own K O H a d) : ∃ u, H a = some u ∧ Mut (some u) := by
  cases d <;> first | exact h.elim | skip
  · obtain ⟨xs, e, r⟩ := h
    exact ⟨_, e, True.intro⟩
  · obtain ⟨xs, e, r⟩ := h
    rcases e with ⟨k, h, z⟩ | ⟨k, h, z⟩
    · exact ⟨_, h, True.intro⟩
    · exact ⟨_, h, True.intro⟩
/-- a value that is looked at: not owned, or an owned thing itself -/
def RS (K : PySem.W.Frag) (O : Addr → Prop) (H : Hp) (v : V) (d : PD) : Prop := RX K O H v d ∨ ∃ a, v = .ref a ∧ Own K O H a d
theorem RX.rs {K : PySem.W.Frag} {O : Addr → Prop} {H : Hp} {v : V} {d : PD} (h : RX K O H v d) : RS K O H v d := .inl h
theorem RS.same {K : PySem.W.Frag} {O : Addr → Prop} {H H' : Hp} {v : V} {d : PD} (s : Same H H') (h : RS K O H v d) : RS K O H' v d := by
  rcases h with h | ⟨a, e, h⟩
  · exact .inl (h.same s)
  · exact .inr ⟨a, e, h.same s⟩
section
variable {K : PySem.W.Frag} {O : Addr → Prop} {H : Hp} {v : V}
theorem RS.int {i : Int} (h : RS K O H v (.int i)) : v = .int i := by
  rcases h with h | ⟨a, e, h⟩
  · cases h; rfl
  · exact h.elim
theorem RS.bool {b : Bool} (h : RS K O H v (.bool b)) : v = .bl b := by
  rcases h with h | ⟨a, e, h⟩
  · cases h; rfl
  · exact h.elim
theorem RS.none (h : RS K O H v .none) : v = .non := by
  rcases h with h | ⟨a, e, h⟩
  · cases h; rfl
  · exact h.elim
theorem RS.str {x : Str} (h : RS K O H v (.str x)) : v = .str x ∧ PyData.strOk x = true := by
  rcases h with h | ⟨a, e, h⟩
  · cases h with | str _ h => exact ⟨rfl, h⟩
  · exact h.elim
theorem RS.list {ds : List PD} (h : RS K O H v (.list ds)) : ∃ a xs, v = .ref a ∧ Rd H a (.lst xs) ∧ RXs K O H xs ds := by
  rcases h with h | ⟨a, e, h⟩
  · cases h with | lst _ h r => exact ⟨_, _, rfl, h, r⟩
  · obtain ⟨xs, e', r⟩ := h
    exact ⟨a, xs, e, .inl e', r⟩
theorem RS.tup {ds : List PD} (h : RS K O H v (.tuple ds)) : ∃ a xs, v = .ref a ∧ SqT K H a xs ∧ RXs K O H xs ds := by
  rcases h with h | ⟨a, e, h⟩
  · cases h with | tup h r => exact ⟨_, _, rfl, h, r⟩
  · exact h.elim
theorem RS.dict {ds : List (PD × PD)} (h : RS K O H v (.dict ds)) : ∃ a ps, v = .ref a ∧ DPs H a ps ∧ RXp K O H ps ds := by
  rcases h with h | ⟨a, e, h⟩
  · cases h with | dct ho h r => exact ⟨_, _, rfl, h, r⟩
  · obtain ⟨ps, e', r⟩ := h
    exact ⟨a, ps, e, e'.rd, r⟩
/-- whether it is None -/
theorem RS.isNone {d : PD} (h : RS K O H v d) : decide (v = .non) = isNoneD d := by
  cases d with
  | none => cases h.none; rfl
  | bool b => cases h.bool; rfl
  | int i => cases h.int; rfl
  | str x => cases h.str.1; rfl
  | list ds => obtain ⟨a, xs, rfl, _⟩ := h.list; rfl
  | tuple ds => obtain ⟨a, xs, rfl, _⟩ := h.tup; rfl
  | dict ds => obtain ⟨a, xs, rfl, _⟩ := h.dict; rfl
theorem RS.dp {d : PD} (h : RS K O H v d) (n : noD d = true) : Dp K H v d ∧ d.canLay0 = true := by
  rcases h with h | ⟨a, e, h⟩
  · exact h.dp n
  · cases d <;> first | exact h.elim | skip
    · obtain ⟨xs, e', r⟩ := h
      subst e
      obtain ⟨r1, r2⟩ := r.dp (by simpa [noD] using n)
      exact ⟨.lst (.inl (.inl e')) r1, by simpa [PyData.canLay0] using r2⟩
    · simp [noD] at n
end
abbrev RSs (K : PySem.W.Frag) (O : Addr → Prop) (H : Hp) : List V → List PD → Prop := Paired (RS K O H)
theorem RXs.rss {K : PySem.W.Frag} {O : Addr → Prop} {H : Hp} : ∀ {vs : List V} {ds : List PD}, RXs K O H vs ds → RSs K O H vs ds
  | _, _, .nil => .nil
  | _, _, .cons h r => .cons h.rs (RXs.rss r)

/-! ### what is asked behind an evaluation -/
def Dom (O : Addr → Prop) (H : Hp) : Prop := ∀ a, O a → H a ≠ none
theorem Dom.same {O : Addr → Prop} {H H' : Hp} (d : Dom O H) (s : Same H H') : Dom O H' := fun a h z => by
  cases e : H a with
  | none => exact d a h e
  | some u =>
    rw [s _ _ e] at z
    cases z
def PostX (K : PySem.W.Frag) (O : Addr → Prop) (H : Hp) (Q : VK) (d : PD) : Prop := ∀ v H', Same H H' → RX K O H' v d → Q v H'
def PostF (K : PySem.W.Frag) (O : Addr → Prop) (H : Hp) (Q : VK) (d : PD) : Prop := ∀ p H', H p = none → Same H H' → Own K (fun b => O b ∨ b = p) H' p d → Q (.ref p) H'
/-- .. of an operation on values: a list is new -/
def PostB (K : PySem.W.Frag) (O : Addr → Prop) (H : Hp) (Q : VK) (d : PD) : Prop := if isL d = true then PostF K O H Q d else PostX K O H Q d
section
variable {K : PySem.W.Frag} {O : Addr → Prop} {H H' : Hp} {Q : VK} {d : PD}
theorem PostX.toF (dom : Dom O H) (h : PostX K O H Q d) : PostF K O H Q d := fun p H' n s o => h _ _ s ((o.lift (Lift.less fun _ z => .inl z) rfl).rx fun z => dom p z n)
theorem PostX.toB (dom : Dom O H) (h : PostX K O H Q d) : PostB K O H Q d := by
  unfold PostB
  split
  · exact h.toF dom
  · exact h
theorem PostF.toB (h : PostF K O H Q d) (l : isL d = true) : PostB K O H Q d := by
  unfold PostB
  rw [if_pos l]
  exact h
theorem PostX.same (s : Same H H') (h : PostX K O H Q d) : PostX K O H' Q d := fun v H2 s2 r => h v H2 (s.trans s2) r
theorem PostF.same (s : Same H H') (h : PostF K O H Q d) : PostF K O H' Q d := fun p H2 n s2 r => h p H2 (Same.free s n) (s.trans s2) r
theorem PostB.same (s : Same H H') (h : PostB K O H Q d) : PostB K O H' Q d := by
  unfold PostB at *
  split
  · rw [if_pos ‹_›] at h; exact h.same s
  · rw [if_neg ‹_›] at h; exact h.same s
theorem PostB.x (h : PostB K O H Q d) (l : isL d = false) : PostX K O H Q d := by
  unfold PostB at h
  rw [if_neg (by rw [l]; decide)] at h
  exact h
theorem PostB.f (h : PostB K O H Q d) (l : isL d = true) : PostF K O H Q d := by
  unfold PostB at h
  rw [if_pos l] at h
  exact h
theorem PostB.int {i : Int} (h : PostB K O H Q (.int i)) : Q (.int i) H := h.x rfl _ _ (Same.refl H) (.int i)
theorem PostB.bool {b : Bool} (h : PostB K O H Q (.bool b)) : Q (.bl b) H := h.x rfl _ _ (Same.refl H) (.bl b)
theorem PostB.lst {ds : List PD} (h : PostB K O H Q (.list ds)) {p : Addr} {xs : List V} (n : H p = none) (r : RXs K O H xs ds) : Q (.ref p) (upd H p (.lst xs)) :=
  h.f rfl p _ n (same_new n) ⟨xs, upd_same, (r.lift (Lift.own n)).same (same_new n)⟩
theorem PostB.tup {ds : List PD} (h : PostB K O H Q (.tuple ds)) {p : Addr} {xs : List V} (n : H p = none) (r : RXs K O H xs ds) : Q (.ref p) (upd H p (.tup xs)) :=
  h.x rfl _ _ (same_new n) (.tup (.inl (.inl upd_same)) (r.same (same_new n)))
end
/-- an operation's answer -/
def RetB (K : PySem.W.Frag) (O : Addr → Prop) (H : Hp) (Q : VK) (r : R PD) : Prop := match r with
  | .ok d => PostB K O H Q d
  | _ => False

/-! ### lists that may be read -/
section
variable {X : Cx} {H : Hp} {l : Addr} {xs : List V}
theorem lstR_ok {P : Program} {w : World} {h : Heap} (r : Rd H l (.lst xs)) (ok : HOk P w H h) : xs.length ≤ sizeLine ∧ ∃ (its : List Value) (n : Nat), Vals xs its ∧ xs.length = its.length ∧ h.get? l = some { cls := .type "list", data := .seq its.toArray n } := by
  obtain ⟨z, its, n, rv, e⟩ := r.ok ok
  exact ⟨z, its, n, rv, rv.length, e⟩
end
section
variable {X : Cx}
theorem op_catR : OpR X (binaryOp .Add) (fun x y H Q => ∃ l b xs zs, x = .ref l ∧ y = .ref b ∧ Rd H l (.lst xs) ∧ Rd H b (.lst zs) ∧ xs.length + zs.length ≤ sizeLine ∧ ∀ p, H p = none → Q (.ref p) (upd H p (.lst (xs ++ zs)))) := by
  intro pins s σ H x y v u Q I rx ry h
  obtain ⟨l, b, xs, zs, rfl, rfl, hH, hB, hz, q⟩ := h
  cases rx
  cases ry
  obtain ⟨z, its, n, r, hl, e⟩ := lstR_ok hH I.hok
  obtain ⟨z2, its2, n2, r2, hl2, e2⟩ := lstR_ok hB I.hok
  refine PySem.P.add_list e e2 ?_ (by rw [List.size_toArray, List.size_toArray]; omega)
  have ea : its.toArray ++ its2.toArray = (its ++ its2).toArray := by simp
  rw [ea]
  exact ⟨.ref _, _, I.lnew (t' := s.toks) (r.append r2) (by rw [List.length_append]; omega), rfl, q _ I.fresh⟩
theorem op_fdivF : OpR X (binaryOp .FloorDiv) (rI (fun _ j => j ≠ 0 ∧ j.natAbs.log2 < 9000) fun i j => .int (i.fdiv j)) := opI fun i j _ _ _ _ _ hc q =>
  floordiv_int hc.1 q (.inl (PyProof.noPylong_of_log2 hc.2))
end

theorem RXs.rep {K : PySem.W.Frag} {O : Addr → Prop} {H : Hp} {vs : List V} {ds : List PD} (h : RXs K O H vs ds) : ∀ k : Nat, RXs K O H (List.replicate k vs).flatten (List.replicate k ds).flatten
  | 0 => .nil
  | k + 1 => by
    rw [List.replicate_succ, List.replicate_succ, List.flatten_cons, List.flatten_cons]
    exact h.append (RXs.rep h k)
section
variable {X : Cx}
theorem op_repR : OpR X (binaryOp .Mult) (fun x y H Q => ∃ l k xs, x = .ref l ∧ y = .int k ∧ Rd H l (.lst xs) ∧ -(2 ^ 63) ≤ k ∧ k < 2 ^ 63 ∧ xs.length * k.toNat ≤ sizeLine ∧ ∀ p, H p = none → Q (.ref p) (upd H p (.lst (List.replicate k.toNat xs).flatten))) := by
  intro pins s σ H x y v u Q I rx ry h
  obtain ⟨l, k, xs, rfl, rfl, hH, h1, h2, hz, q⟩ := h
  cases rx
  obtain ⟨t, rfl⟩ := ry
  obtain ⟨z, its, n, r, hl, e⟩ := lstR_ok hH I.hok
  have few : its.toArray.size * k.toNat ≤ sizeLine := by rw [List.size_toArray, ← hl]; exact hz
  have cap : ¬ its.toArray.size * k.toNat > (2 ^ 63 - 1) / 8 := by
    have c : (sizeLine : Nat) ≤ (2 ^ 63 - 1) / 8 := by decide
    omega
  have fit : ¬ (!Builtin.List.listFitsIndex k) = true := by
    rw [fitsIndex_both h1 h2]; decide
  have lng : ¬ Builtin.List.listTooLong (its.toArray.size * k.toNat) = true := by
    rw [notLongL few]; decide
  have new : List.foldl (fun a b => a ++ b) #[] (List.replicate (if its.toArray.isEmpty = true then 0 else k.toNat) its.toArray) = (List.replicate k.toNat its).flatten.toArray := by
    have f0 : ∀ m : Nat, List.foldl (fun a b => a ++ b) #[] (List.replicate m its.toArray) = (List.replicate m its).flatten.toArray := fun m => by
      have w := foldl_rep its m []
      rwa [List.nil_append] at w
    rw [f0]
    cases its with
    | nil => simp
    | cons a r' => rw [if_neg (by simp)]
  have T1 : s.TypeIs (.ref l) "list" := ⟨_, e, rfl⟩
  have T2 : ∀ s' : Shared, s'.TypeIs (.int k t) "int" := fun s' => typeIs_int s' k t
  refine wpAny_binaryOp_repeat_ref (T := "list") (U := "int") (by decide) T1 T2 noFill_list_mul F.fills_int_mul F.slot_int_rmul repeat_list F.slot_int_index.lookup ?_
  refine call_meets F.slot_int_rmul (T2 s) F.entry_int_rmul (F.args_int_rmul_2 _ _) (int___rmul___int_list k t l its.toArray n) ⟨e, rfl, T1, ?_⟩
  refine call_meets F.slot_list_mul T1 F.entry_list_mul (F.args_list_mul_2 _ _) (AutoListH.list___mul___list_int_3 l its.toArray n k t fit cap lng) ⟨e, ?_⟩
  rw [new]
  exact ⟨.ref _, _, I.lnew (t' := s.toks) (r.rep k.toNat) (by rw [PyProof.Rows.lm_len_rep_flat, Nat.mul_comm]; exact hz), rfl, q _ I.fresh⟩
end

def opPy : Op → Operator
  | .add => .Add | .sub => .Sub | .mul => .Mult | .fdiv => .FloorDiv | .mod => .Mod | .pow => .Pow
def cpPy : Cp → CmpOp
  | .lt => .Lt | .le => .LtE | .gt => .Gt | .ge => .GtE | .eq => .Eq | .ne => .NotEq | .isin => .In | .notin => .NotIn
theorem sLine_eq : sLine = sizeLine := by rw [sizeLine_eq] <;> rfl
theorem okLen_le {n : Nat} (h : okLen n = true) : n ≤ sizeLine := by
  rw [← sLine_eq]
  exact of_decide_eq_true h

theorem cmulW_of {i j : Int} (h : decide (i.natAbs.log2 + j.natAbs.log2 < 1000000) = true) : CMulW i j := by
  have h2 := of_decide_eq_true h
  exact h2
/-- two values by what they are, and the operation's answer -/
def rV (K : PySem.W.Frag) (f : PD → PD → R PD) : R2 := fun x y H Q => ∃ O d e, Dom O H ∧ RS K O H x d ∧ RS K O H y e ∧ RetB K O H Q (f d e)
section
variable {X : Cx}
theorem op_binV (o : Op) : OpR X (binaryOp (opPy o)) (rV X.K (binV o)) := by
  intro pins s σ H x y v u Q I rx ry h
  obtain ⟨O, d, e, dom, hd, he, q⟩ := h
  cases o
  · -- add
    cases d <;> cases e <;> first | exact q.elim | skip
    · cases hd.int
      cases he.int
      exact op_add pins s σ H _ _ v u Q I rx ry ⟨_, _, rfl, rfl, q.int⟩
    · obtain ⟨a, xs, rfl, h1, r1⟩ := hd.list
      obtain ⟨b, ys, rfl, h2, r2⟩ := he.list
      simp only [binV] at q
      split at q
      · rename_i hl
        have hl' := okLen_le hl
        rw [← r1.length, ← r2.length] at hl'
        exact op_catR pins s σ H _ _ v u Q I rx ry ⟨_, _, _, _, rfl, rfl, h1, h2, hl', fun p n => PostB.lst q n (r1.append r2)⟩
      · exact q.elim
    · obtain ⟨a, xs, rfl, h1, r1⟩ := hd.tup
      obtain ⟨b, ys, rfl, h2, r2⟩ := he.tup
      simp only [binV] at q
      split at q
      · rename_i hl
        have hl' := okLen_le hl
        rw [← r1.length, ← r2.length] at hl'
        refine op_catA pins s σ H _ _ v u Q I rx ry ⟨_, _, _, _, rfl, rfl, h1, h2, hl', fun e => ?_, fun _ e => ?_, fun _ _ p n => PostB.tup q n (r1.append r2)⟩
        · subst e
          cases r1
          exact q.x rfl _ _ (Same.refl _) (.tup h2 (by simpa using r2))
        · subst e
          cases r2
          exact q.x rfl _ _ (Same.refl _) (.tup h1 (by simpa using r1))
      · exact q.elim
  · -- sub
    cases d <;> cases e <;> first | exact q.elim | skip
    cases hd.int
    cases he.int
    exact op_sub pins s σ H _ _ v u Q I rx ry ⟨_, _, rfl, rfl, q.int⟩
  · -- mul
    cases d <;> cases e <;> first | exact q.elim | skip
    · cases hd.int
      cases he.int
      simp only [binV] at q
      split at q
      · rename_i hl
        exact op_mulW pins s σ H _ _ v u Q I rx ry ⟨_, _, rfl, rfl, cmulW_of hl, q.int⟩
      · exact q.elim
    · obtain ⟨a, xs, rfl, h1, r1⟩ := hd.list
      cases he.int
      simp only [binV] at q
      split at q
      · rename_i hl
        have hl := of_decide_eq_true hl
        rw [sLine_eq, ← r1.length] at hl
        exact op_repR pins s σ H _ _ v u Q I rx ry ⟨_, _, _, rfl, rfl, h1, hl.1, hl.2.1, hl.2.2, fun p n => PostB.lst q n (r1.rep _)⟩
      · exact q.elim
    · obtain ⟨a, xs, rfl, h1, r1⟩ := hd.tup
      cases he.int
      simp only [binV] at q
      split at q
      · rename_i hl
        have hl := of_decide_eq_true hl
        rw [← r1.length] at hl
        exact op_repT pins s σ H _ _ v u Q I rx ry ⟨_, _, _, rfl, rfl, h1, fun z => hl.1 (by rw [z]; rfl), hl.2.1, hl.2.2.1, hl.2.2.2, fun p n => PostB.tup q n (r1.rep _)⟩
      · exact q.elim
  · -- fdiv
    cases d <;> cases e <;> first | exact q.elim | skip
    cases hd.int
    cases he.int
    simp only [binV] at q
    split at q
    · rename_i hl
      exact op_fdivF pins s σ H _ _ v u Q I rx ry ⟨_, _, rfl, rfl, of_decide_eq_true hl, q.int⟩
    · exact q.elim
  · -- mod
    cases d <;> cases e <;> first | exact q.elim | skip
    cases hd.int
    cases he.int
    simp only [binV] at q
    split at q
    · rename_i hl
      exact op_modN pins s σ H _ _ v u Q I rx ry ⟨_, _, rfl, rfl, of_decide_eq_true hl, q.int⟩
    · exact q.elim
  · -- pow
    cases d <;> cases e <;> first | exact q.elim | skip
    cases hd.int
    cases he.int
    simp only [binV] at q
    split at q
    · rename_i hl
      have hl' := of_decide_eq_true hl
      exact op_pow pins s σ H _ _ v u Q I rx ry ⟨_, _, rfl, rfl, ⟨hl'.1, by omega, hl'.2.2⟩, q.int⟩
    · exact q.elim

end
/-! ### comparisons -/
theorem eqOk_parts {d e : PD} (h : eqOk d e = true) : noD d = true ∧ noD e = true ∧ d.depth ≤ 64 ∧ e.depth ≤ 64 := by
  simp only [eqOk, Bool.and_eq_true, decide_eq_true_eq] at h
  exact ⟨h.1.1.1, h.1.1.2, h.1.2, h.2⟩
theorem shaped_of {d : PD} (h : d.canLay0 = true) (h2 : d.depth ≤ 64) : SeqAt.shaped d = true := by
  unfold SeqAt.shaped
  rw [h, Bool.true_and]
  exact decide_eq_true h2
theorem flatV_of {K : PySem.W.Frag} {O : Addr → Prop} {H : Hp} {v : V} {d : PD} (h : RS K O H v d) (f : flatD d = true) : L2.flatV v = true := by
  cases d with
  | none => cases h.none; rfl
  | bool b => cases h.bool; rfl
  | int i => cases h.int; rfl
  | str x => cases h.str.1; rfl
  | list ds => cases f
  | tuple ds => cases f
  | dict ds => cases f
theorem eqV_of {K : PySem.W.Frag} {O : Addr → Prop} {H : Hp} {v w : V} {d e : PD} (h : RS K O H v d) (h2 : RS K O H w e) (f : flatD d = true) (f2 : flatD e = true) : L2.eqV v w = PyData.eqv d e := by
  cases d <;> first | (simp [flatD] at f; done) | skip
  all_goals cases e <;> first | (simp [flatD] at f2; done) | skip
  all_goals (first | (cases h.none) | (cases h.bool) | (cases h.int) | (cases h.str.1))
  all_goals (first | (cases h2.none) | (cases h2.bool) | (cases h2.int) | (cases h2.str.1))
  all_goals simp [L2.eqV, PyData.eqv]
theorem flats_of {K : PySem.W.Frag} {O : Addr → Prop} {H : Hp} : ∀ {vs : List V} {ds : List PD}, RXs K O H vs ds → ds.all flatD = true → vs.all L2.flatV = true
  | _, _, .nil, _ => rfl
  | _, _, .cons h r, f => by
    simp only [List.all_cons, Bool.and_eq_true] at f ⊢
    exact ⟨flatV_of h.rs f.1, flats_of r f.2⟩
theorem inV_of {K : PySem.W.Frag} {O : Addr → Prop} {H : Hp} {w : V} {e : PD} (h : RS K O H w e) (f : flatD e = true) : ∀ {vs : List V} {ds : List PD}, RXs K O H vs ds → ds.all flatD = true → L2.inV w vs = inV e ds
  | _, _, .nil, _ => rfl
  | _, _, .cons g r, fs => by
    simp only [List.all_cons, Bool.and_eq_true] at fs
    have ih := inV_of h f r fs.2
    simp only [L2.inV, inV, List.any_cons] at ih ⊢
    rw [eqV_of g.rs h fs.1 f, ih]
section
variable {X : Cx}
theorem op_cmpV (c : Cp) (hu : X.A.units + 65 < cLine) : OpR X (compareOp (cpPy c)) (rV X.K (cmpV c)) := by
  intro pins s σ H x y v u Q I rx ry h
  obtain ⟨O, d, e, dom, hd, he, q⟩ := h
  have deep : ∀ (b : PD → PD → Bool), eqOk d e = true → (Dp X.K H x d ∧ SeqAt.shaped d = true) ∧ (Dp X.K H y e ∧ SeqAt.shaped e = true) := fun b h => by
    obtain ⟨n1, n2, d1, d2⟩ := eqOk_parts h
    obtain ⟨p1, l1⟩ := hd.dp n1
    obtain ⟨p2, l2⟩ := he.dp n2
    exact ⟨⟨p1, shaped_of l1 d1⟩, ⟨p2, shaped_of l2 d2⟩⟩
  cases c
  · cases d <;> cases e <;> first | exact q.elim | skip
    cases hd.int
    cases he.int
    exact op_lt pins s σ H _ _ v u Q I rx ry ⟨_, _, rfl, rfl, q.bool⟩
  · cases d <;> cases e <;> first | exact q.elim | skip
    cases hd.int
    cases he.int
    exact op_le pins s σ H _ _ v u Q I rx ry ⟨_, _, rfl, rfl, q.bool⟩
  · cases d <;> cases e <;> first | exact q.elim | skip
    cases hd.int
    cases he.int
    exact op_gt pins s σ H _ _ v u Q I rx ry ⟨_, _, rfl, rfl, q.bool⟩
  · cases d <;> cases e <;> first | exact q.elim | skip
    cases hd.int
    cases he.int
    exact op_ge pins s σ H _ _ v u Q I rx ry ⟨_, _, rfl, rfl, q.bool⟩
  · simp only [cmpV] at q
    split at q
    · rename_i hl
      obtain ⟨⟨p1, s1⟩, p2, s2⟩ := deep (fun _ _ => true) hl
      exact op_eqD (by omega) pins s σ H _ _ v u Q I rx ry ⟨d, e, p1, p2, s1, s2, q.bool⟩
    · exact q.elim
  · simp only [cmpV] at q
    split at q
    · rename_i hl
      obtain ⟨⟨p1, s1⟩, p2, s2⟩ := deep (fun _ _ => true) hl
      exact op_neD (by omega) pins s σ H _ _ v u Q I rx ry ⟨d, e, p1, p2, s1, s2, q.bool⟩
    · exact q.elim
  · cases e <;> first | (simp [cmpV, RetB] at q; done) | skip
    · rename_i ds
      simp only [cmpV] at q
      split at q
      · rename_i hl
        obtain ⟨⟨p1, s1⟩, p2, s2⟩ := deep (fun _ _ => true) hl
        exact op_inD hu pins s σ H _ _ v u Q I rx ry ⟨d, ds, p1, p2, s1, s2, q.bool⟩
      · exact q.elim
    · rename_i ds
      simp only [cmpV] at q
      split at q
      · rename_i hl
        have hl := Bool.and_eq_true_iff.mp hl
        obtain ⟨a, xs, rfl, ht, r⟩ := he.tup
        exact op_in_seq pins s σ H _ _ v u Q I rx ry ⟨a, xs, rfl, .inr ht, flatV_of hd hl.1, flats_of r hl.2, by
          rw [if_neg (by decide), inV_of hd hl.1 r hl.2]
          exact q.bool⟩
      · exact q.elim
  · cases e <;> first | (simp [cmpV, RetB] at q; done) | skip
    · rename_i ds
      simp only [cmpV] at q
      split at q
      · rename_i hl
        obtain ⟨⟨p1, s1⟩, p2, s2⟩ := deep (fun _ _ => true) hl
        exact op_notInD hu pins s σ H _ _ v u Q I rx ry ⟨d, ds, p1, p2, s1, s2, q.bool⟩
      · exact q.elim
    · rename_i ds
      simp only [cmpV] at q
      split at q
      · rename_i hl
        have hl := Bool.and_eq_true_iff.mp hl
        obtain ⟨a, xs, rfl, ht, r⟩ := he.tup
        exact op_notIn_seq pins s σ H _ _ v u Q I rx ry ⟨a, xs, rfl, .inr ht, flatV_of hd hl.1, flats_of r hl.2, by
          rw [if_pos rfl, inV_of hd hl.1 r hl.2]
          exact q.bool⟩
      · exact q.elim
end

/-! ### items and slices -/
theorem atI_rx {K : PySem.W.Frag} {O : Addr → Prop} {H : Hp} {xs : List V} {ds : List PD} {i : Int} {d : PD} (r : RXs K O H xs ds) (h : atI ds i = some d) : ∃ v, atI xs i = some v ∧ RX K O H v d := by
  unfold atI at h ⊢
  rw [r.length]
  cases e : ixN ds.length i with
  | none => rw [e] at h; cases h
  | some j =>
    rw [e] at h
    obtain ⟨v, e1, h1⟩ := r.get (i := j) h
    exact ⟨v, e1, h1⟩
theorem cut_rx {K : PySem.W.Frag} {O : Addr → Prop} {H : Hp} {xs : List V} {ds : List PD} (lo hi : Option Int) (r : RXs K O H xs ds) : RXs K O H (cutV xs lo hi) (cutD ds lo hi) := by
  unfold cutV cutD
  rw [r.length]
  exact (r.drop _).take _
/-- .. whose answer is one of what they hold -/
def RetX (K : PySem.W.Frag) (O : Addr → Prop) (H : Hp) (Q : VK) (r : R PD) : Prop := match r with
  | .ok d => PostX K O H Q d
  | _ => False
def rVX (K : PySem.W.Frag) (f : PD → PD → R PD) : R2 := fun x y H Q => ∃ O d e, RS K O H x d ∧ RS K O H y e ∧ RetX K O H Q (f d e)
section
variable {X : Cx}
def ixS : PD → PD → R PD
  | .list ds, .int i => (match atI ds i with | some d => .ok d | none => .bad)
  | .tuple ds, .int i => (match atI ds i with | some d => .ok d | none => .bad)
  | _, _ => .bad
theorem ix_V : IxR X (rVX X.K ixS) := by
  intro value slice pins s σ H x y v u Q I rx ry h hs
  obtain ⟨O, d, e, hd, he, q⟩ := h
  cases d <;> cases e <;> first | exact q.elim | skip
  · cases he.int
    obtain ⟨a, xs, rfl, h1, r⟩ := hd.list
    simp only [ixS] at q
    split at q
    · rename_i z ez
      obtain ⟨w, e1, h1'⟩ := atI_rx r ez
      exact ix_list value slice pins s σ H _ _ v u Q I rx ry ⟨a, xs, _, w, rfl, rfl, .inl h1, e1, q _ _ (Same.refl _) h1'⟩ hs
    · exact q.elim
  · cases he.int
    obtain ⟨a, xs, rfl, h1, r⟩ := hd.tup
    simp only [ixS] at q
    split at q
    · rename_i z ez
      obtain ⟨w, e1, h1'⟩ := atI_rx r ez
      exact ix_tup value slice pins s σ H _ _ v u Q I rx ry ⟨a, xs, _, w, rfl, rfl, h1, e1, q _ _ (Same.refl _) h1'⟩ hs
    · exact q.elim
/-- a slice -/
theorem sl_V : SlR X (fun x lo hi H Q => ∃ O d, Dom O H ∧ RS X.K O H x d ∧ RetB X.K O H Q (slV d lo hi)) := by
  intro pins s σ H x v vl vu lo hi sl Q I rx hs pl pu h
  obtain ⟨O, d, dom, hd, q⟩ := h
  cases d <;> first | exact q.elim | skip
  · obtain ⟨a, xs, rfl, h1, r⟩ := hd.list
    exact sl_list pins s σ H _ v vl vu lo hi sl Q I rx hs pl pu ⟨a, xs, rfl, .inl h1, fun p n => PostB.lst q n (cut_rx lo hi r)⟩
  · obtain ⟨a, xs, rfl, h1, r⟩ := hd.tup
    refine sl_tupA pins s σ H _ v vl vu lo hi sl Q I rx hs pl pu ⟨a, xs, rfl, h1, fun e => ?_, fun _ p n => PostB.tup q n (cut_rx lo hi r)⟩
    refine PostB.x q rfl _ _ (Same.refl _) (.tup h1 ?_)
    have e2 : cutV xs lo hi = xs := by
      unfold cutV
      rw [e.1, e.2]
      simp
    have r2 := cut_rx lo hi r
    rw [e2] at r2
    exact r2
end

def stpV (xs : List V) (lo hi : Option Int) (k : Int) : List V := (sliceRange (sliceBounds lo hi (some k) xs.length).1 (sliceBounds lo hi (some k) xs.length).2.1 k).filterMap (xs[·]?)
theorem pick_rx {K : PySem.W.Frag} {O : Addr → Prop} {H : Hp} {xs : List V} {ds : List PD} (r : RXs K O H xs ds) : ∀ L : List Nat, RXs K O H (L.filterMap (xs[·]?)) (L.filterMap (ds[·]?))
  | [] => .nil
  | n :: L => by
    have ih := pick_rx r L
    cases e : ds[n]? with
    | none =>
      have e2 : xs[n]? = none := by
        rw [List.getElem?_eq_none_iff] at e ⊢
        rw [r.length]; exact e
      rw [List.filterMap_cons_none e, List.filterMap_cons_none e2]
      exact ih
    | some d =>
      obtain ⟨v, e2, rv⟩ := r.get e
      rw [List.filterMap_cons_some e, List.filterMap_cons_some e2]
      exact .cons rv ih
theorem stp_rx {K : PySem.W.Frag} {O : Addr → Prop} {H : Hp} {xs : List V} {ds : List PD} (lo hi : Option Int) (k : Int) (r : RXs K O H xs ds) : RXs K O H (stpV xs lo hi k) (stD ds lo hi k) := by
  unfold stpV stD
  rw [r.length]
  exact pick_rx r _
theorem pick_vals {xs : List V} {its : List Value} (r : Vals xs its) : ∀ L : List Nat, Vals (L.filterMap (xs[·]?)) (L.filterMap (its[·]?))
  | [] => .nil
  | n :: L => by
    have ih := pick_vals r L
    cases e : xs[n]? with
    | none =>
      have e2 : its[n]? = none := by
        rw [List.getElem?_eq_none_iff] at e ⊢
        rw [← r.length]; exact e
      rw [List.filterMap_cons_none e, List.filterMap_cons_none e2]
      exact ih
    | some v =>
      obtain ⟨u, e2, rv⟩ := r.get e
      rw [List.filterMap_cons_some e, List.filterMap_cons_some e2]
      exact .cons rv ih
/-! ### built-ins -/
theorem ints_some : ∀ {ds : List PD} {ns : List Int}, ints? ds = some ns → ds = ns.map PyData.int
  | [], ns, h => by
    cases h
    rfl
  | d :: ds, ns, h => by
    cases d <;> simp only [ints?, reduceCtorEq, Option.map_eq_some_iff] at h
    obtain ⟨r, h1, h2⟩ := h
    subst h2
    rw [ints_some h1] <;> rfl
theorem bools_some : ∀ {ds : List PD} {ns : List Bool}, bools? ds = some ns → ds = ns.map PyData.bool
  | [], ns, h => by
    cases h
    rfl
  | d :: ds, ns, h => by
    cases d <;> simp only [bools?, reduceCtorEq, Option.map_eq_some_iff] at h
    obtain ⟨r, h1, h2⟩ := h
    subst h2
    rw [bools_some h1] <;> rfl
theorem leastI_le : ∀ (r : List Int) (m : Int), leastI m r ≤ m ∧ (∀ y ∈ r, leastI m r ≤ y) ∧ (leastI m r = m ∨ leastI m r ∈ r)
  | [], m => ⟨Int.le_refl _, (fun _ h => nomatch h), .inl rfl⟩
  | x :: r, m => by
    have h := leastI_le r (if x < m then x else m)
    simp only [leastI]
    generalize ek : (if x < m then x else m) = k at h ⊢
    have k1 : k ≤ m ∧ k ≤ x ∧ (k = m ∨ k = x) := by
      rw [← ek]
      split <;> omega
    obtain ⟨h1, h2, h3⟩ := h
    refine ⟨by omega, fun y hy => ?_, ?_⟩
    · rcases List.mem_cons.mp hy with e | hy
      · omega
      · exact h2 y hy
    · rcases h3 with h3 | h3
      · rcases k1.2.2 with e | e
        · exact .inl (h3.trans e)
        · exact .inr (by rw [h3, e]; exact List.mem_cons_self)
      · exact .inr (List.mem_cons_of_mem _ h3)
theorem mostI_le : ∀ (r : List Int) (m : Int), m ≤ mostI m r ∧ (∀ y ∈ r, y ≤ mostI m r) ∧ (mostI m r = m ∨ mostI m r ∈ r)
  | [], m => ⟨Int.le_refl _, (fun _ h => nomatch h), .inl rfl⟩
  | x :: r, m => by
    have h := mostI_le r (if m < x then x else m)
    simp only [mostI]
    generalize ek : (if m < x then x else m) = k at h ⊢
    have k1 : m ≤ k ∧ x ≤ k ∧ (k = m ∨ k = x) := by
      rw [← ek]
      split <;> omega
    obtain ⟨h1, h2, h3⟩ := h
    refine ⟨by omega, fun y hy => ?_, ?_⟩
    · rcases List.mem_cons.mp hy with e | hy
      · omega
      · exact h2 y hy
    · rcases h3 with h3 | h3
      · rcases k1.2.2 with e | e
        · exact .inl (h3.trans e)
        · exact .inr (by rw [h3, e]; exact List.mem_cons_self)
      · exact .inr (List.mem_cons_of_mem _ h3)
theorem insI_perm (x : Int) : ∀ l : List Int, (insI x l).Perm (x :: l)
  | [] => List.Perm.refl _
  | y :: r => by
    simp only [insI]
    split
    · exact List.Perm.refl _
    · exact ((insI_perm x r).cons y).trans (List.Perm.swap x y r)
theorem sortI_perm : ∀ l : List Int, (sortI l).Perm l
  | [] => List.Perm.refl _
  | x :: r => (insI_perm x (sortI r)).trans ((sortI_perm r).cons x)
theorem insI_sorted (x : Int) : ∀ l : List Int, l.Pairwise (· ≤ ·) → (insI x l).Pairwise (· ≤ ·)
  | [], _ => by simp [insI]
  | y :: r, h => by
    have h' := List.pairwise_cons.mp h
    simp only [insI]
    split
    · rename_i c
      refine List.pairwise_cons.mpr ⟨fun z hz => ?_, h⟩
      rcases List.mem_cons.mp hz with e | hz
      · omega
      · have := h'.1 z hz
        omega
    · rename_i c
      refine List.pairwise_cons.mpr ⟨fun z hz => ?_, insI_sorted x r h'.2⟩
      rcases List.mem_cons.mp ((insI_perm x r).mem_iff.mp hz) with e | hz
      · omega
      · exact h'.1 z hz
theorem sortI_sorted : ∀ l : List Int, (sortI l).Pairwise (· ≤ ·)
  | [] => List.Pairwise.nil
  | x :: r => insI_sorted x _ (sortI_sorted r)
theorem sorted_one : ∀ {a b : List Int}, a.Perm b → a.Pairwise (· ≤ ·) → b.Pairwise (· ≤ ·) → a = b
  | [], b, p, _, _ => (List.Perm.nil_eq p)
  | x :: a, [], p, _, _ => absurd p.length_eq (by simp)
  | x :: a, y :: b, p, h1, h2 => by
    have h1' := List.pairwise_cons.mp h1
    have h2' := List.pairwise_cons.mp h2
    have e : x = y := by
      have m1 : x ∈ y :: b := p.mem_iff.mp List.mem_cons_self
      have m2 : y ∈ x :: a := p.mem_iff.mpr List.mem_cons_self
      have l1 : y ≤ x := by
        rcases List.mem_cons.mp m1 with e | m
        · omega
        · exact h2'.1 x m
      have l2 : x ≤ y := by
        rcases List.mem_cons.mp m2 with e | m
        · omega
        · exact h1'.1 y m
      omega
    subst e
    rw [sorted_one ((List.perm_cons x).mp p) h1'.2 h2'.2]
def biNm : Bi → Str
  | .len => "len" | .abs => "abs" | .min2 => "min" | .minL => "min" | .max2 => "max" | .maxL => "max" | .int => "int" | .tuple => "tuple" | .list => "list"
  | .sum => "sum" | .any => "any" | .all => "all" | .sorted => "sorted"
def biVal : Bi → Value
  | .len => .builtin "len" | .abs => .builtin "abs" | .min2 => .builtin "min" | .minL => .builtin "min" | .max2 => .builtin "max" | .maxL => .builtin "max"
  | .int => .type "int" | .tuple => .type "tuple" | .list => .type "list" | .sum => .builtin "sum" | .any => .builtin "any" | .all => .builtin "all" | .sorted => .builtin "sorted"
def rBi (K : PySem.W.Frag) (b : Bi) : List V → Hp → VK → Prop := fun vs H Q => ∃ O ds, Dom O H ∧ RSs K O H vs ds ∧ RetB K O H Q (biV b ds)
theorem rs1 {K : PySem.W.Frag} {O : Addr → Prop} {H : Hp} {vs : List V} {d : PD} (h : RSs K O H vs [d]) : ∃ v, vs = [v] ∧ RS K O H v d := by
  cases h with
  | cons h r =>
    cases r
    exact ⟨_, rfl, h⟩
theorem rs2 {K : PySem.W.Frag} {O : Addr → Prop} {H : Hp} {vs : List V} {d e : PD} (h : RSs K O H vs [d, e]) : ∃ v w, vs = [v, w] ∧ RS K O H v d ∧ RS K O H w e := by
  cases h with
  | cons h r =>
    obtain ⟨w, e, h2⟩ := rs1 r
    subst e
    exact ⟨_, _, rfl, h, h2⟩
section
variable {X : Cx}
theorem call_bi (hc : X.calm = true) (b : Bi) : CallR X (biVal b) (rBi X.K b) := by
  intro pins s σ H xs us Q I r h
  obtain ⟨O, ds, dom, hs, q⟩ := h
  rcases ds with _ | ⟨d, _ | ⟨e, _ | ⟨g, ds⟩⟩⟩
  · cases b <;> exact q.elim
  · obtain ⟨v, rfl, hd⟩ := rs1 hs
    cases b
    · -- len
      cases d <;> first | exact q.elim | skip
      · obtain ⟨a, ys, rfl, h1, r1⟩ := hd.list
        exact call_len pins s σ H _ us Q I r ⟨_, _, rfl, .inl ⟨ys, .inl h1, rfl⟩, by rw [r1.length]; exact q.int⟩
      · obtain ⟨a, ys, rfl, h1, r1⟩ := hd.tup
        exact call_len pins s σ H _ us Q I r ⟨_, _, rfl, .inr ⟨ys, h1, rfl⟩, by rw [r1.length]; exact q.int⟩
    · -- abs
      cases d <;> first | exact q.elim | skip
      cases hd.int
      rename_i i
      refine call_abs pins s σ H _ us Q I r ⟨i, rfl, ?_⟩
      rw [show (if i < 0 then -i else i) = (i.natAbs : Int) by split <;> omega]
      exact q.int
    · cases d <;> exact q.elim
    · cases d <;> exact q.elim
    · -- min of a list
      cases d <;> first | exact q.elim | skip
      rename_i l
      obtain ⟨a, ys, rfl, h1, r1⟩ := hd.list
      simp only [biV] at q
      split at q
      · rename_i x t ei
        have e := ints_some ei
        subst e
        have ey := r1.ints
        subst ey
        refine cr_min hc pins s σ H _ us Q I r ⟨a, x :: t, rfl, .inl h1, by simp, fun m hm hl => ?_⟩
        obtain ⟨k1, k2, k3⟩ := leastI_le t x
        have e2 : m = leastI x t := by
          have l0 : leastI x t ∈ x :: t := by
            rcases k3 with k3 | k3
            · rw [k3]; exact List.mem_cons_self
            · exact List.mem_cons_of_mem _ k3
          have l1 : m ≤ leastI x t := hl _ l0
          have l2 : leastI x t ≤ m := by
            rcases List.mem_cons.mp hm with e | hm
            · omega
            · exact k2 m hm
          omega
        subst e2
        exact q.int
      · exact q.elim
    · -- max of a list
      cases d <;> first | exact q.elim | skip
      rename_i l
      obtain ⟨a, ys, rfl, h1, r1⟩ := hd.list
      simp only [biV] at q
      split at q
      · rename_i x t ei
        have e := ints_some ei
        subst e
        have ey := r1.ints
        subst ey
        refine cr_max hc pins s σ H _ us Q I r ⟨a, x :: t, rfl, .inl h1, by simp, fun m hm hl => ?_⟩
        obtain ⟨k1, k2, k3⟩ := mostI_le t x
        have e2 : m = mostI x t := by
          have l0 : mostI x t ∈ x :: t := by
            rcases k3 with k3 | k3
            · rw [k3]; exact List.mem_cons_self
            · exact List.mem_cons_of_mem _ k3
          have l1 : mostI x t ≤ m := hl _ l0
          have l2 : m ≤ mostI x t := by
            rcases List.mem_cons.mp hm with e | hm
            · omega
            · exact k2 m hm
          omega
        subst e2
        exact q.int
      · exact q.elim
    · -- int
      cases d <;> first | exact q.elim | skip
      · cases hd.bool
        exact call_int1 pins s σ H _ us Q I r (.inr ⟨_, rfl, q.int⟩)
      · cases hd.int
        exact call_int1 pins s σ H _ us Q I r (.inl ⟨_, rfl, q.int⟩)
    · -- tuple
      cases d <;> first | exact q.elim | skip
      · obtain ⟨a, ys, rfl, h1, r1⟩ := hd.list
        exact call_tuple_of pins s σ H _ us Q I r ⟨a, ys, rfl, .inl ⟨.inl h1, fun l n => PostB.tup q n r1⟩⟩
      · obtain ⟨a, ys, rfl, h1, r1⟩ := hd.tup
        exact call_tuple_of pins s σ H _ us Q I r ⟨a, ys, rfl, .inr ⟨h1, PostB.x q rfl _ _ (Same.refl _) (.tup h1 r1)⟩⟩
    · -- list
      cases d <;> first | exact q.elim | skip
      · obtain ⟨a, ys, rfl, h1, r1⟩ := hd.list
        exact call_list_of pins s σ H _ us Q I r ⟨a, ys, rfl, .inl (.inl h1), fun l n => PostB.lst q n r1⟩
      · obtain ⟨a, ys, rfl, h1, r1⟩ := hd.tup
        exact call_list_of pins s σ H _ us Q I r ⟨a, ys, rfl, .inr h1, fun l n => PostB.lst q n r1⟩
    · -- sum
      cases d <;> first | exact q.elim | skip
      obtain ⟨a, ys, rfl, h1, r1⟩ := hd.list
      simp only [biV] at q
      split at q
      · rename_i ns ei
        have e := ints_some ei
        subst e
        have ey := r1.ints
        subst ey
        exact cr_sum hc pins s σ H _ us Q I r ⟨a, ns, rfl, .inl h1, q.int⟩
      · exact q.elim
    · -- any
      cases d <;> first | exact q.elim | skip
      obtain ⟨a, ys, rfl, h1, r1⟩ := hd.list
      simp only [biV] at q
      split at q
      · rename_i ns ei
        have e := bools_some ei
        subst e
        have ey := r1.bools
        subst ey
        exact cr_any hc pins s σ H _ us Q I r ⟨a, ns, rfl, .inl h1, q.bool⟩
      · exact q.elim
    · -- all
      cases d <;> first | exact q.elim | skip
      obtain ⟨a, ys, rfl, h1, r1⟩ := hd.list
      simp only [biV] at q
      split at q
      · rename_i ns ei
        have e := bools_some ei
        subst e
        have ey := r1.bools
        subst ey
        exact cr_all hc pins s σ H _ us Q I r ⟨a, ns, rfl, .inl h1, q.bool⟩
      · exact q.elim
    · -- sorted
      cases d <;> first | exact q.elim | skip
      obtain ⟨a, ys, rfl, h1, r1⟩ := hd.list
      simp only [biV] at q
      split at q
      · rename_i ns ei
        have e := ints_some ei
        subst e
        have ey := r1.ints
        subst ey
        refine cr_sortedI pins s σ H _ us Q I r ⟨a, ns, rfl, .inl h1, fun ns' p h2 h3 n => ?_⟩
        have e2 : ns' = sortI ns := sorted_one (h2.trans (sortI_perm ns).symm) h3 (sortI_sorted ns)
        subst e2
        refine PostB.lst q n ?_
        clear h1 h2 h3 q r1 ei
        induction sortI ns with
        | nil => exact .nil
        | cons i t ih => exact .cons (.int i) ih
      · exact q.elim
  · obtain ⟨v, w, rfl, hd, he⟩ := rs2 hs
    cases b <;> first | (cases d <;> exact q.elim) | skip
    · cases d <;> cases e <;> first | exact q.elim | skip
      cases hd.int
      cases he.int
      exact call_min2 hc pins s σ H _ us Q I r ⟨_, _, rfl, q.int⟩
    · cases d <;> cases e <;> first | exact q.elim | skip
      cases hd.int
      cases he.int
      exact call_max2 hc pins s σ H _ us Q I r ⟨_, _, rfl, q.int⟩
  · cases b <;> cases d <;> first | exact q.elim | (cases e <;> exact q.elim)
end
end Fe
set_option Elab.async false
set_option linter.all false
set_option maxRecDepth 100000
set_option maxHeartbeats 4000000
/-! Fe, part Q (ahead of F): enumerate over a tuple. -/
namespace Fe
open PySem PySem.Spec PyProof.Rows L2
section
variable {prog : Program} {w : World} {A : Around} {E : Value → Shared → Prop} {s : Shared}
theorem drw_tup {it t : Addr} {items : Array Value} (hh : A.handled = none) (ne : t ≠ it) :
    Draws prog w A it [it, t] items.size (fun i x => items[i]? = some x) (fun i h => h.IsTupleIter it t i ∧ h.IsTuple t items) where
  live := fun i h st => by
    obtain ⟨⟨o, e, _⟩, _⟩ := st
    exact ⟨o, e⟩
  frame := fun i h h' st k => by
    obtain ⟨⟨o, e, r⟩, ⟨o2, e2, r2⟩⟩ := st
    exact ⟨⟨o, k it (by simp) o e, r⟩, ⟨o2, k t (by simp) o2 e2, r2⟩⟩
  item := fun i s Q E hi st k => by
    obtain ⟨a, b⟩ := st
    refine wpAny_nextOf_tuple_item a b (x := items[i]) (by simp [hi]) fun h' a' sb => ?_
    obtain ⟨o2, e2, r2⟩ := b
    exact k items[i] h' s.toks (by simp [hi]) ⟨a', ⟨o2, (sb.2 t ne).trans e2, r2⟩⟩ sb
  done := fun s Q E st k => wpAny_nextOf_tuple_end hh st.1 st.2 (by simp) k
theorem new_enumT (t : Addr) (items : Array Value) :
    Meets (Builtin.«enumerate.__new__» ⟨[.type "enumerate", .ref t], []⟩) (fun _ R s => s.heap.IsTuple t items ∧
      R (.ok (.ret (.ref (s.heap.push { cls := .type "tuple_iterator", data := .fields #[.ref t, .int 0 0] }).objs.size)))
        { s with heap := (s.heap.push { cls := .type "tuple_iterator", data := .fields #[.ref t, .int 0 0] }).push { cls := .type "enumerate", data := .fields #[.none, .bool false, .ref s.heap.objs.size, rawInt 0, .none, .none] } }) :=
  .of_wp fun prog w A R s h => by
    obtain ⟨hp, g, d, tk, os⟩ := s
    obtain ⟨hT, h⟩ := h
    have sub := sub_enumerate
    have it1 : ∀ {A' : Around} {E : Value → Shared → Prop} {Q : Value → Shared → Prop}, Q (.ref hp.objs.size) ⟨hp.push { cls := .type "tuple_iterator", data := .fields #[.ref t, .int 0 0] }, g, d, tk, os⟩ → wpAny (model prog w) A' (pyIter (.ref t)) Q E ⟨hp, g, d, tk, os⟩ :=
      fun q => (begins_tuple t items).iter prog w _ _ ⟨hp, g, d, tk, os⟩ _ hT q
    obtain ⟨o, ho, hc, n, hd⟩ := id hT
    wp_walk using it1
    refine wpAny_stack_any fun st => wpAny_pure ?_
    split
    · rename_i c _ _ _ _ _
      cases (c == Value.type "enumerate")
      · wp_walk using it1
        exact ⟨_, rfl, h⟩
      · wp_walk using it1
        exact ⟨_, rfl, h⟩
    · wp_walk using it1
      exact ⟨_, rfl, h⟩
theorem call_enumT {t : Addr} {items : Array Value} {Q : Value → Shared → Prop} (hT : s.heap.IsTuple t items)
    (k : ∀ h', IsEnum h' (s.heap.objs.size + 1) s.heap.objs.size 0 .none → h'.IsTupleIter s.heap.objs.size t 0 → h'.objs.size = s.heap.objs.size + 2 → (∀ b o, s.heap.get? b = some o → h'.get? b = some o) → Q (.ref (s.heap.objs.size + 1)) { s with heap := h' }) :
    wpAny (model prog w) A (call (.type "enumerate") [.ref t]) Q E s := by
  refine callType_new F.called_enumerate (by decide) (F.typeCall_enumerate_1 _) (F.newCall_enumerate_1 _) (fun obj => F.args_object_init_2 obj _) F.entry_enumerate_new (new_enumT t items) ⟨hT, ?_⟩
  have z : (s.heap.push { cls := .type "tuple_iterator", data := .fields #[.ref t, .int 0 0] }).objs.size = s.heap.objs.size + 1 := Heap.size_push ..
  show _ ∧ _
  rw [z]
  have e : IsEnum ((s.heap.push { cls := .type "tuple_iterator", data := .fields #[.ref t, .int 0 0] }).push { cls := .type "enumerate", data := .fields #[.none, .bool false, .ref s.heap.objs.size, rawInt 0, .none, .none] }) (s.heap.objs.size + 1) s.heap.objs.size 0 .none := by
    have q := Heap.get?_push_size (s.heap.push { cls := .type "tuple_iterator", data := .fields #[.ref t, .int 0 0] }) (o := { cls := .type "enumerate", data := .fields #[.none, .bool false, .ref s.heap.objs.size, rawInt 0, .none, .none] }) rfl
    rw [z] at q
    exact q
  exact ⟨⟨_, e, rfl⟩, k _ e ⟨_, Heap.get?_push_of_some _ (Heap.get?_push_size _ rfl), rfl, rfl⟩ (by rw [Heap.size_push, z]) fun b o x => Heap.get?_push_of_some _ (Heap.get?_push_of_some _ x)⟩
end
/-- the tuple at a, each item in a new pair -/
def IteT (K : PySem.W.Frag) (a : Addr) : L2.It :=
  ⟨fun i H => ∃ (xs : List V) (x : V), SqT K H a xs ∧ xs[i]? = some x, fun i H v H' => ∃ T x, v = .ref T ∧ H T = none ∧ H' = upd H T (.tup [.int (i : Nat), x]) ∧ ∀ xs, SqT K H a xs → xs[i]? = some x, fun i H => ∃ xs : List V, SqT K H a xs ∧ xs.length ≤ i⟩
theorem turn_enumT {P : Program} {w : World} {K : PySem.W.Frag} {elts : List Expr} {kk : Nat} {tpos : Pos} (a e it : Addr) :
    Turn P w K (.Tuple elts kk tpos) (IteT K a) [e, it] e (fun i h => (∃ old, IsEnum h e it ((i : Nat) : Int) old) ∧ h.IsTupleIter it a i ∧ e ≠ it) where
  mem := by simp
  obj := fun i h st b hb => by
    obtain ⟨⟨old, he⟩, ⟨o, ho, hc, hd⟩, _⟩ := st
    rcases (show b = e ∨ b = it by simpa using hb) with z | z
    · rw [z]; exact ⟨_, he, fun v q => nomatch q⟩
    · rw [z]; exact ⟨o, ho, fun v q => by rw [hd] at q; cases q⟩
  keep := fun i h h' st k => by
    obtain ⟨⟨old, he⟩, ⟨o, ho, r⟩, ne⟩ := st
    exact ⟨⟨old, k e (by simp) _ he⟩, ⟨o, k it (by simp) _ ho, r⟩, ne⟩
  item := by
    intro X hP hw hK hc i pins s σ H E I hf st hg
    subst hP hw hK
    obtain ⟨⟨old, he⟩, hit, ne⟩ := st
    obtain ⟨xs, x, hq, hx⟩ := hg
    obtain ⟨its, rv, p, hz⟩ := I.tuple hq
    obtain ⟨u, hu, ru⟩ := rv.get hx
    have le : e < s.heap.objs.size := Heap.lt_size he
    have lit : it < s.heap.objs.size := by obtain ⟨_, q, _⟩ := hit; exact Heap.lt_size q
    have pT : s.heap.IsTuple a its.toArray := p
    obtain ⟨oa, ga, ca, na, da⟩ := id pT
    have nea : e ≠ a := fun z => by
      subst z
      rw [show s.heap.get? e = _ from he] at ga
      cases ga
      cases da
    have neit : a ≠ it := fun z => by
      obtain ⟨o, ho, hc, hd⟩ := hit
      rw [z, ho] at ga
      cases ga
      rw [hd] at da
      cases da
    have hi : i < its.toArray.size := by
      obtain ⟨l, _⟩ := List.getElem?_eq_some_iff.mp hu
      simpa using l
    refine wpAny_pyNext_enum_itemD (drw_tup (A := X.A.in1) (I.ok.hd hc) neit) he ⟨hit, pT⟩ hi ne (by simp [ne, nea]) fun x' h' tk hx' ho hst hT hsz hk => ?_
    obtain ⟨hit', _⟩ := hst
    have e2 : x' = u := by
      have hx' : its.toArray[i]? = some x' := hx'
      rw [show its.toArray[i]? = its[i]? by simp, hu] at hx'
      exact (Option.some.inj hx').symm
    subst e2
    refine ⟨_, rfl, wpAny_letOwnedTupleGo_enum (s := { s with heap := h', toks := tk + 1 }) ho fun h'' he' sb => ?_⟩
    have hT2 : h''.get? s.heap.objs.size = some { cls := .type "tuple", data := .seq #[.int i tk, x'] } := (sb.2 _ (Nat.ne_of_gt le)).trans hT
    have new : ObjOk X.prog X.w (upd H s.heap.objs.size (.tup [.int (i : Nat), x])) h'' s.heap.objs.size (.tup [.int (i : Nat), x]) :=
      ⟨by show 2 ≤ sizeLine; decide, [.int i tk, x'], .cons ⟨_, rfl⟩ (.cons ru .nil), ⟨_, hT2, rfl, _, rfl⟩⟩
    have I1 : Inv X pins σ (upd H s.heap.objs.size (.tup [.int (i : Nat), x])) { s with heap := h'', toks := tk + 1 } :=
      I.turnedNew (ch := [e, it]) (fun b ob hb q => (sb.2 b (fun z => hb (by simp [z]))).trans (hk b ob (fun z => hb (by simp [z])) (fun z => hb (by simp [z])) q)) hf (Nat.le_refl _) new
    obtain ⟨o, ho2, r2⟩ := hit'
    refine ⟨.ref s.heap.objs.size, _, I1, rfl, ⟨_, x, rfl, I.hok.fresh (Nat.le_refl _), rfl, fun ys hy => by rw [I.tuple_inj hy hq]; exact hx⟩, ⟨⟨x', ?_⟩, ⟨o, (sb.2 it (Ne.symm ne)).trans ho2, r2⟩, ne⟩, fun b hb => ?_⟩
    · have e1 : ((i + 1 : Nat) : Int) = (i : Int) + 1 := by omega
      rw [e1]
      exact he'
    · have lb : b < s.heap.objs.size := by
        rcases (show b = e ∨ b = it by simpa using hb) with z | z
        · rw [z]; exact le
        · rw [z]; exact lit
      rw [upd_ne (Nat.ne_of_lt lb)]
      exact (hf b hb).1
  done := by
    intro X hP hw hK hc i pins s σ H E I hf st hg
    subst hP hw hK
    obtain ⟨⟨old, he⟩, hit, ne⟩ := st
    obtain ⟨xs, hq, hx⟩ := hg
    obtain ⟨its, rv, p, hz⟩ := I.tuple hq
    have pT : s.heap.IsTuple a its.toArray := p
    obtain ⟨oa, ga, ca, na, da⟩ := id pT
    have neit : a ≠ it := fun z => by
      obtain ⟨o, ho, hc, hd⟩ := hit
      rw [z, ho] at ga
      cases ga
      rw [hd] at da
      cases da
    obtain ⟨f0, f1, f2, f3, f4, f5⟩ := hf it (by simp)
    have D : Draws X.prog X.w X.A.in1 it [it, a] its.toArray.size (fun i x => its.toArray[i]? = some x) (fun j h => j = its.toArray.size ∧ h.IsTupleIter it a i ∧ h.IsTuple a its.toArray) := {
      live := fun j h st => by obtain ⟨_, ⟨o, e, _⟩, _⟩ := st; exact ⟨o, e⟩
      frame := fun j h h' st k => by
        obtain ⟨z, ⟨o, e, r⟩, ⟨o2, e2, r2⟩⟩ := st
        exact ⟨z, ⟨o, k it (by simp) o e, r⟩, ⟨o2, k a (by simp) o2 e2, r2⟩⟩
      item := fun j s Q E hj st k => absurd st.1 (Nat.ne_of_lt hj)
      done := fun s Q E st k => wpAny_nextOf_tuple_end (I.ok.hd hc) st.2.1 st.2.2 (by
        have := rv.length
        simp
        omega) k }
    exact wpAny_pyNext_enum_endD D he ⟨rfl, hit, pT⟩ fun h' eb => ⟨rfl, I.turned (t' := s.toks) (fun b o hb q => eb b o hb q) f0 f1 f3 f4 f5⟩
  self := fun A i s Q E st h => by
    obtain ⟨⟨_, he⟩, _⟩ := st
    exact wpAny_pyIter_enum he h
def iEnumT (K : PySem.W.Frag) (ta : TA) : TI := fun σ H R => ta σ H fun vs H1 => ∃ a xs, vs = [.ref a] ∧ SqT K H1 a xs ∧ R (IteT K a) H1
theorem pi_enumT {X : Cx} {e : Expr} {ta : TA} {p pos tpos : Pos} {elts : List Expr} {kk : Nat} (hg : Gl X "enumerate") (hm : X.mg "enumerate" = none) (ha : PA X [e] ta) (hs : starEach [e] X.env = [(false, eval e X.env)]) :
    PI X (.Tuple elts kk tpos) (.Call (.Name "enumerate" p) [e] [] pos) (iEnumT X.K ta) := by
  refine ⟨fun pins s σ H R I h => ?_⟩
  refine Call_ (ld_blt I hg hm boot_enumerate (PyProof.Rows.callWith_type1 (thn (ha.run pos pins s σ H _ I h) fun us s1 ⟨vs, H1, I1, r1, q1⟩ => ?_) hs rfl))
  obtain ⟨a, xs, ex, hq, q⟩ := q1
  subst ex
  cases r1 with
  | cons r rr =>
    cases rr
    cases r
    obtain ⟨its, rv, p', hz⟩ := I1.tuple hq
    refine call_enumT (items := its.toArray) p' fun h' he hit hsz hk => wpAny_pyIter_enum he ?_
    have I2 : Inv X pins σ H1 { s1 with heap := h' } := I1.kept (t' := s1.toks) hk
    refine ⟨s1.heap.objs.size + 1, [s1.heap.objs.size + 1, s1.heap.objs.size], _, _, H1, rfl, I2, turn_enumT a (s1.heap.objs.size + 1) s1.heap.objs.size, ⟨⟨.none, he⟩, hit, Nat.succ_ne_self _⟩, fun b hb => ?_, q⟩
    have le : s1.heap.objs.size ≤ b := by
      rcases (show b = s1.heap.objs.size + 1 ∨ b = s1.heap.objs.size by simpa using hb) with z | z
      · rw [z]; exact Nat.le_add_right _ _
      · rw [z]; exact Nat.le_refl _
    exact I1.fpOk le (I1.hok.fresh le)
/-! ### a list taken apart -/
section
variable {prog : Program} {w : World} {A : Around} {E : Value → Shared → Prop}
theorem draw_lst {it l : Addr} {items : Array Value} (ne : l ≠ it) : ∀ (n i : Nat) (s : Shared) (Q : List Value → Shared → Prop), s.heap.IsListIter it l i → s.heap.IsList l items → i + n ≤ items.size →
    (∀ h', h'.IsListIter it l (i + n) → Heap.SameBut it s.heap h' → Q ((items.toList.drop i).take n) { s with heap := h' }) → wpAny (model prog w) A (draw (.ref it) n) Q E s
  | 0, i, s, Q, hit, _, _, k => by
    show wpAny _ _ (pure []) Q E s
    exact wpAny_pure (by simpa using k s.heap hit (Heap.SameBut.refl ..))
  | n + 1, i, s, Q, hit, hl, le, k => by
    have lt : i < items.size := by omega
    show wpAny _ _ (pyNext (.ref it) >>= _) Q E s
    refine wpAny_bind (wpAny_pyNext_list_item hit hl (x := items[i]) (by simp [lt]) fun h1 hit1 sb1 => ?_)
    have hl1 : h1.IsList l items := hl.extBut sb1.extBut ne
    refine wpAny_bind (wpAny_holding (draw_lst ne n (i + 1) _ _ hit1 hl1 (by omega) fun h2 hit2 sb2 => wpAny_pure ?_))
    have e : items.toList.drop i = items[i] :: items.toList.drop (i + 1) := by simp [List.drop_eq_getElem_cons, lt]
    have q := k h2 (by rw [show i + (n + 1) = i + 1 + n by omega]; exact hit2) (sb1.trans sb2)
    rw [e, List.take_succ_cons] at q
    exact q
theorem unpack_lst {s : Shared} {l : Addr} {items : Array Value} {targets : List (Bool × (Value → Sem Unit))} {Q : Unit → Shared → Prop} (hh : A.handled = none) (hl : s.heap.IsList l items) (hn : targets.length = items.size) (hst : targets.findIdx? (·.1) = none)
    (k : ∀ h', Heap.ExtBut s.heap.objs.size s.heap h' → wpAny (model prog w) A (assignInOrder (targets.map (·.2)) items.toList) Q E { s with heap := h' }) : wpAny (model prog w) A (unpack (.ref l) targets) Q E s := by
  have lt : l ≠ s.heap.objs.size := by
    obtain ⟨o, ho, _⟩ := hl
    exact Nat.ne_of_lt (Heap.lt_size ho)
  unfold unpack
  rw [hn, hst]
  refine wpAny_bind (wpAny_holding ?_)
  unfold unpackItems notIterableAtAll
  refine wpAny_bind (wpAny_bind (wpAny_specialOf hl.typeIs F.slot_list_iter.lookup (wpAny_pure ?_)))
  simp only [Bool.false_eq_true, if_false]
  refine wpAny_bind (wpAny_holding (wpAny_pyIter_list hl ?_))
  have hl1 : (s.heap.push { cls := .type "list_iterator", data := .fields #[.ref l, .int 0 0] }).IsList l items := hl.at fun o e => Heap.get?_push_of_some _ e
  refine wpAny_bind (wpAny_holding (draw_lst lt items.size 0 _ _ ⟨_, Heap.get?_push_size _ rfl, rfl, rfl⟩ hl1 (by omega) fun h1 hit1 sb1 => ?_))
  have all : List.take items.size (List.drop 0 items.toList) = items.toList := by
    rw [List.drop_zero]
    exact List.take_of_length_le (by simp)
  rw [all, if_neg (by simp)]
  have hl2 : h1.IsList l items := hl1.extBut sb1.extBut lt
  refine wpAny_bind (wpAny_holding (wpAny_pyNext_list_end hh hit1 hl2 (by simp) fun h2 eb => ?_))
  simp only [Option.isSome_none, Bool.false_eq_true, if_false]
  exact wpAny_pure (k h2 fun b o hb e => eb b o hb (sb1.extBut b o hb (Heap.get?_push_of_some _ e)))
end
/-- (a, b, ..) = a list of that length -/
def gLstT (K : PySem.W.Frag) (n : Nat) (t : TGs) : TG := fun v σ H Q => ∃ a xs, v = .ref a ∧ SqL K H a xs ∧ xs.length = n ∧ t xs σ H Q
theorem pg_lst {X : Cx} {es : List Expr} {k : Nat} {t : TGs} {n : Nat} {pos : Pos} (hc : X.calm = true) (h : PGs X es t) (hn : (assignEach es X.env).length = n) (hst : (assignEach es X.env).findIdx? (·.1) = none) : PG X (.Tuple es k pos) (gLstT X.K n t) := by
  refine ⟨fun pins s σ H v u Q I r hw => ?_⟩
  obtain ⟨a, xs, e1, hq, hl, hw⟩ := hw
  subst e1
  cases r
  obtain ⟨its, rv, p, hz⟩ := I.list hq
  rw [PyProof.Rows.assign_Tuple]
  refine wpAny_bind (wpAny_standAt (unpack_lst (items := its.toArray) (I.ok.hd hc) p.isList (by simp [hn, ← hl, rv.length]) hst fun h' hx => ?_))
  have I1 : Inv X pins σ H { s with heap := h' } := I.kept (t' := s.toks) fun b o e => hx b o (Nat.ne_of_lt (Heap.lt_size e)) e
  exact h.run pins _ σ H xs _ Q I1 (by simpa using rv) hw
end Fe
set_option Elab.async false
set_option linter.all false
set_option maxRecDepth 100000
set_option maxHeartbeats 4000000
/-! Fe, part D: expressions are what the evaluator says. -/
namespace Fe
open PySem PySem.Spec PyProof.Rows L2

/-! ### own errors, promises -/
/-- an error of the class that the module's name c stands for, with the number i -/
def XRep (K : PySem.W.Frag) (H : Hp) (cls : Value) (dd : Option Addr) (c : Str) (i : Int) : Prop :=
  ∃ dx, cls = .ref (He.ga K c) ∧ dd = some dx ∧ H dx = some (.xd [("at", V.int i)])
/-- a def keeps what F says of the data -/
def spF (K : PySem.W.Frag) (F : List PD → R PD) : Sp := fun vs H Q E => ∃ ds O, Dom O H ∧ RXs K O H vs ds ∧ match F ds with
  | .ok d => PostX K O H Q d
  | .exc c i => ∀ cls dd H', Same H H' → XRep K H' cls dd c i → E cls dd H'
  | .bad => False

/-- the same where the last parameters stand at their defaults -/
def spD (K : PySem.W.Frag) (dvs : List V) (F : List PD → R PD) : Sp := fun vs H Q E => ∃ vs0, vs = vs0 ++ dvs ∧ spF K F vs0 H Q E

/-- a def whose answer is a new list or dict -/
def spG (K : PySem.W.Frag) (F : List PD → R PD) : Sp := fun vs H Q E => ∃ ds O, Dom O H ∧ RXs K O H vs ds ∧ match F ds with
  | .ok d => PostF K O H Q d
  | .exc c i => ∀ cls dd H', Same H H' → XRep K H' cls dd c i → E cls dd H'
  | .bad => False
def spDG (K : PySem.W.Frag) (dvs : List V) (F : List PD → R PD) : Sp := fun vs H Q E => ∃ vs0, vs = vs0 ++ dvs ∧ spG K F vs0 H Q E

/-! ### slots -/
structure Rel (K : PySem.W.Frag) (W : List Nat) (O : Addr → Prop) (H0 : Hp) (ρ : Env) (σ : L2.St) (H : Hp) : Prop where
  len : σ.length = ρ.length
  val : ∀ i d, i ∉ W → ρ[i]? = some (some d) → ∃ v, σ[i]? = some (some v) ∧ RX K O H v d
  own : ∀ i d, i ∈ W → ρ[i]? = some (some d) → ∃ a, σ[i]? = some (some (.ref a)) ∧ O a ∧ H0 a = none ∧ Own K O H a d ∧
    ∀ j e, j ∈ W → j ≠ i → ρ[j]? = some (some e) → σ[j]? ≠ some (some (.ref a))
  dom : Dom O H
  sam : Same H0 H
theorem Rel.same {K : PySem.W.Frag} {W : List Nat} {O : Addr → Prop} {H0 : Hp} {ρ : Env} {σ : L2.St} {H H' : Hp} (r : Rel K W O H0 ρ σ H) (s : Same H H') : Rel K W O H0 ρ σ H' :=
  ⟨r.len, fun i d n e => by
    obtain ⟨v, e1, h⟩ := r.val i d n e
    exact ⟨v, e1, h.same s⟩, fun i d n e => by
    obtain ⟨a, e1, h1, h2, h3, h4⟩ := r.own i d n e
    exact ⟨a, e1, h1, h2, h3.same s, h4⟩, r.dom.same s, r.sam.trans s⟩

/-! ### what is wanted of an answer -/
def JG (Wx : WX) (K : PySem.W.Frag) (σ : L2.St) (H : Hp) {α : Type} (P : α → Prop) : R α → Prop
  | .ok a => P a
  | .exc c i => ∀ cls dd H', Same H H' → XRep K H' cls dd c i → Wx cls dd σ H'
  | .bad => False
section
variable {Wx : WX} {K : PySem.W.Frag} {σ : L2.St} {H H' : Hp} {α β : Type} {P P' : α → Prop} {r : R α}
theorem JG.bind {f : α → R β} {Q : β → Prop} (h : JG Wx K σ H Q (r.bind f)) : JG Wx K σ H (fun a => JG Wx K σ H Q (f a)) r := by
  cases r <;> exact h
theorem JG.imp (h : JG Wx K σ H P r) (k : ∀ a, r = .ok a → P a → P' a) : JG Wx K σ H P' r := by
  cases r with
  | ok a => exact k a rfl h
  | exc c i => exact h
  | bad => exact h
theorem JG.same (h : JG Wx K σ H P r) (s : Same H H') (k : ∀ a, P a → P' a) : JG Wx K σ H' P' r := by
  cases r with
  | ok a => exact k a h
  | exc c i => exact fun cls dd H2 s2 x => h cls dd H2 (s.trans s2) x
  | bad => exact h
end
def PostP (K : PySem.W.Frag) (O : Addr → Prop) (H : Hp) (Q : VK) (d : PD) : Prop := ∀ v H', Same H H' → RS K O H' v d → Q v H'
theorem PostP.x {K : PySem.W.Frag} {O : Addr → Prop} {H : Hp} {Q : VK} {d : PD} (h : PostP K O H Q d) : PostX K O H Q d := fun v H' s r => h v H' s r.rs
theorem PostP.same {K : PySem.W.Frag} {O : Addr → Prop} {H H' : Hp} {Q : VK} {d : PD} (s : Same H H') (h : PostP K O H Q d) : PostP K O H' Q d := fun v H2 s2 r => h v H2 (s.trans s2) r

section
variable (S : Sig) (Wx : WX) (K : PySem.W.Frag) (W : List Nat)
/-- an expression's value is taken; .. is only looked at; .. is a new list or dict -/
def tE (e : E) : TE := fun σ H Q => ∃ ρ O H0, Rel K W O H0 ρ σ H ∧ JG Wx K σ H (PostX K O H Q) (evE S e ρ)
def tP (e : E) : TE := fun σ H Q => ∃ ρ O H0, Rel K W O H0 ρ σ H ∧ JG Wx K σ H (PostP K O H Q) (evE S e ρ)
def tF (e : E) : TE := fun σ H Q => ∃ ρ O H0, Rel K W O H0 ρ σ H ∧ JG Wx K σ H (fun d => isL d = true ∧ PostF K O H Q d) (evE S e ρ)
/-- as a test -/
def tT (e : E) : TT := fun σ H Q => ∃ ρ O H0, Rel K W O H0 ρ σ H ∧ JG Wx K σ H (fun d => ∃ k, d = PyData.bool k ∧ ∀ H', Same H H' → Q k H') (evE S e ρ)
def tAs (es : Es) : TA := fun σ H Q => ∃ ρ O H0, Rel K W O H0 ρ σ H ∧ JG Wx K σ H (fun ds => ∀ vs H', Same H H' → RXs K O H' vs ds → Q vs H') (evEs S es ρ)
def tAp (es : Es) : TA := fun σ H Q => ∃ ρ O H0, Rel K W O H0 ρ σ H ∧ JG Wx K σ H (fun ds => ∀ vs H', Same H H' → RSs K O H' vs ds → Q vs H') (evEs S es ρ)
def tEd (d : Ed) : TA := fun σ H Q => ∃ ρ O H0, Rel K W O H0 ρ σ H ∧ JG Wx K σ H (fun ds => ∀ vs H', Same H H' → RXs K O H' vs ds → Q vs H') (evEd S d ρ)
def tKv : Kv → List (TE × TE)
  | .nil => []
  | .cons k v r => (tP S Wx K W k, tE S Wx K W v) :: tKv r
def tEo (e : Eo) : TO := fun σ H Q => ∃ ρ O H0, Rel K W O H0 ρ σ H ∧ JG Wx K σ H (fun o => ∀ H', Same H H' → Q o H') (evEo S e ρ)
end

theorem PE.mono {X : Cx} {e : Expr} {t t' : TE} (h : PE X e t) (k : ∀ σ H Q, t' σ H Q → t σ H Q) : PE X e t' := ⟨fun pins s σ H Q I q => h.run pins s σ H Q I (k σ H Q q)⟩
theorem PT.mono {X : Cx} {e : Expr} {t t' : TT} (h : PT X e t) (k : ∀ σ H Q, t' σ H Q → t σ H Q) : PT X e t' := ⟨fun pins s σ H Q I q => h.run pins s σ H Q I (k σ H Q q)⟩
theorem PA.mono {X : Cx} {e : List Expr} {t t' : TA} (h : PA X e t) (k : ∀ σ H Q, t' σ H Q → t σ H Q) : PA X e t' := ⟨fun pos pins s σ H Q I q => h.run pos pins s σ H Q I (k σ H Q q)⟩
theorem PO.mono {X : Cx} {e : Option Expr} {t t' : TO} (h : PO X e t) (k : ∀ σ H Q, t' σ H Q → t σ H Q) : PO X e t' := ⟨fun pins s σ H Q I q => h.run pins s σ H Q I (k σ H Q q)⟩
theorem PW.mono {X : Cx} {e : Expr} {t t' : TT} (h : PW X e t) (k : ∀ σ H Q, t' σ H Q → t σ H Q) : PW X e t' := ⟨fun wh pins s σ H Q I q => h.run wh pins s σ H Q I (k σ H Q q)⟩
theorem PI.mono {X : Cx} {tg e : Expr} {t t' : TI} (h : PI X tg e t) (k : ∀ σ H Q, t' σ H Q → t σ H Q) : PI X tg e t' := ⟨fun pins s σ H Q I q => h.run pins s σ H Q I (k σ H Q q)⟩
theorem PG.mono {X : Cx} {e : Expr} {t t' : TG} (h : PG X e t) (k : ∀ v σ H Q, t' v σ H Q → t v σ H Q) : PG X e t' := ⟨fun pins s σ H v u Q I r q => h.run pins s σ H v u Q I r (k v σ H Q q)⟩
theorem PS.mono {X : Cx} {e : Stmt} {t t' : TS} (h : PS X e t) (k : ∀ D σ H, t' D σ H → t D σ H) : PS X e t' := ⟨fun pins s σ H Q I q => h.run pins s σ H Q I (k Q σ H q)⟩
theorem PSs.mono {X : Cx} {e : List Stmt} {t t' : TS} (h : PSs X e t) (k : ∀ D σ H, t' D σ H → t D σ H) : PSs X e t' := ⟨fun pins s σ H Q I q => h.run pins s σ H Q I (k Q σ H q)⟩

/-! ### answers that raise nothing -/
def noX {α : Type} : R α → Prop
  | .exc _ _ => False
  | _ => True
theorem noX_dummy : True := trivial
theorem noX_bin (o : Op) (d e : PD) : noX (binV o d e) := by
  cases o <;> cases d <;> cases e <;> simp only [binV] <;> first | trivial | (split <;> trivial)
theorem noX_cmp (c : Cp) (d e : PD) : noX (cmpV c d e) := by
  cases c <;> cases d <;> cases e <;> simp only [cmpV] <;> first | trivial | (split <;> trivial)
theorem noX_ix (d e : PD) : noX (ixV d e) := by
  cases d <;> cases e <;> simp only [ixV] <;> first | trivial | (split <;> trivial)
theorem noX_sl (d : PD) (l h : Option Int) : noX (slV d l h) := by
  cases d <;> trivial
theorem noX_st (d : PD) (l h k : Option Int) : noX (stV d l h k) := by
  cases d <;> cases k <;> simp only [stV] <;> first | trivial | (split <;> trivial)
theorem noX_bi (b : Bi) (ds : List PD) : noX (biV b ds) := by
  unfold biV
  split <;> first | trivial | (split <;> trivial)
section
variable {Wx : WX} {K : PySem.W.Frag} {O : Addr → Prop} {σ : L2.St} {H : Hp} {Q : VK} {r : R PD}
theorem JG.retB (dom : Dom O H) (n : noX r) (h : JG Wx K σ H (PostX K O H Q) r) : RetB K O H Q r := by
  cases r with
  | ok d => exact PostX.toB dom h
  | exc c i => exact n.elim
  | bad => exact h
theorem JG.retF (n : noX r) (h : JG Wx K σ H (fun d => isL d = true ∧ PostF K O H Q d) r) : RetB K O H Q r := by
  cases r with
  | ok d => exact PostF.toB h.2 h.1
  | exc c i => exact n.elim
  | bad => exact h
theorem JG.retX (n : noX r) (h : JG Wx K σ H (PostX K O H Q) r) : RetX K O H Q r := by
  cases r with
  | ok d => exact h
  | exc c i => exact n.elim
  | bad => exact h
end

/-! ### the given text -/
structure Gam where
  N : List Str
  sc : Scope
  st : Scope
  W : List Nat
  T : List Str
  C : List Str
def vis (sc : Scope) (x : Str) : Bool := match sc.names.lookup x with
  | some .local => true
  | some .cell => true
  | some .free => true
  | _ => false
def glb (sc : Scope) (x : Str) : Bool := decide (sc.names.lookup x = some .globalImplicit)
def nodb (x : Str) : Bool := !(x == ("__debug__" : Str)) && !(x == ("__classdict__" : Str))
def stOk (Γ : Gam) (x : Str) : Bool := match Γ.st.names.lookup x with
  | some .local => true
  | some .cell => true
  | _ => false
/-- the expressions that are met -/
def okX : Expr → Bool
  | .BoolOp .. | .BinOp .. | .UnaryOp .. | .IfExp .. | .Dict .. | .ListComp .. | .DictComp .. | .Compare .. | .Call .. | .Constant .. | .Attribute .. | .Subscript .. | .Name .. | .List .. | .Tuple .. => true
  | _ => false
def isLC : Expr → Bool
  | .ListComp .. | .DictComp .. => true
  | _ => false
theorem star_of {e : Expr} (h : okX e = true) (es : List Expr) (env : PySem.Env) : starEach (e :: es) env = (false, eval e env) :: starEach es env := by
  cases e <;> first | rfl | cases h
theorem plainIx_of {e : Expr} (h : okX e = true) : PlainIx e := by
  intro o i
  cases e <;> first | rfl | cases h
theorem marks_of {e : Expr} (h : okX e = true) (op : CmpOp) : behindInMarks op e = false := by
  cases e <;> first | rfl | cases h
theorem swaps_of {e : Expr} (h : okX e = true) (h2 : isLC e = false) (t : Option Expr) (l : Nat) (env : PySem.Env) : swapsWith e t l env = pure false := by
  cases e <;> first | rfl | (simp [okX] at h; done) | (simp [isLC] at h2; done)
theorem folded_of {e : Expr} (h : okX e = true) (env : PySem.Env) (x : Value) : foldedSetIterable e env x = pure x := by
  cases e <;> first | rfl | cases h
theorem stars_of {es : List Expr} (h : es.all okX = true) (env : PySem.Env) (pos : Pos) : (backTo pos (starEach es env)).any (·.1) = false := by
  induction es with
  | nil => rfl
  | cons e r ih =>
    simp only [List.all_cons, Bool.and_eq_true] at h
    rw [star_of h.1]
    simp only [backTo, List.map_cons, List.any_cons, Bool.false_or]
    exact ih h.2

mutual
def chkTg (Γ : Gam) : Tg → Expr → Bool
  | .nm i, .Name x _ => decide (Γ.N[i]? = some x) && (stOk Γ x && decide (i ∉ Γ.W))
  | .tp ts, .Tuple es _ _ => chkTgs Γ ts es
  | _, _ => false
def chkTgs (Γ : Gam) : List Tg → List Expr → Bool
  | [], [] => true
  | t :: ts, e :: es => chkTg Γ t e && chkTgs Γ ts es
  | _, _ => false
end
mutual
/-- may stand as a test -/
def tOk : E → Bool
  | .ite .. => false
  | .ands es | .ors es => tOks es
  | .nt a => tOk a
  | _ => true
def tOks : Es → Bool
  | .nil => true
  | .cons e r => tOk e && tOks r
end
mutual
/-- a target's slots are among these -/
def tgIn (own : List Nat) : Tg → Bool
  | .nm i => decide (i ∈ own)
  | .tp ts => tgIns own ts
def tgIns (own : List Nat) : List Tg → Bool
  | [] => true
  | t :: ts => tgIn own t && tgIns own ts
end
def ownOf (Γ : Gam) (own : List Nat) : List (Str × Nat) := own.map fun i => (Γ.N.getD i Str.empty, i)
mutual
def chkE (Γ : Gam) : E → Expr → Bool
  | .var i, .Name x _ => decide (Γ.N[i]? = some x) && (vis Γ.sc x && nodb x)
  | .int i, .Constant (.int j) _ _ => decide (i = j)
  | .bl b, .Constant (.bool c) _ _ => decide (b = c)
  | .non, .Constant .none _ _ => true
  | .str s, .Constant (.str c) _ _ => decide (s = c) && PyData.strOk s
  | .glob x, .Name y _ => decide (x = y) && (glb Γ.sc x && nodb x)
  | .tup es, .Tuple as _ _ => chkEs Γ es as && decide (as.length ≤ 1000)
  | .lst es, .List as _ => chkEs Γ es as && decide (as.length ≤ 1000)
  | .bin o a b, .BinOp x p y _ => decide (p = opPy o) && (chkE Γ a x && chkE Γ b y)
  | .neg a, .UnaryOp .USub x _ => chkE Γ a x
  | .cmp c a b, .Compare x [p] [y] _ => decide (p = cpPy c) && (chkE Γ a x && chkE Γ b y)
  | .chn c d a b e, .Compare x [p, q] [y, z] _ => decide (p = cpPy c ∧ q = cpPy d) && (chkE Γ a x && (chkE Γ b y && chkE Γ e z))
  | .isN a, .Compare x [.Is] [.Constant .none _ _] _ => chkE Γ a x
  | .noN a, .Compare x [.IsNot] [.Constant .none _ _] _ => chkE Γ a x
  | .isB b a, .Compare x [.Is] [.Constant (.bool c) _ _] _ => decide (b = c) && chkE Γ a x
  | .noB b a, .Compare x [.IsNot] [.Constant (.bool c) _ _] _ => decide (b = c) && chkE Γ a x
  | .ands es, .BoolOp .And as _ => chkEs Γ es as
  | .ors es, .BoolOp .Or as _ => chkEs Γ es as
  | .nt a, .UnaryOp .Not x _ => chkE Γ a x
  | .ite c a b, .IfExp x y z _ => chkE Γ c x && (tOk c && (chkE Γ a y && chkE Γ b z))
  | .ix a b, .Subscript x y _ => chkE Γ a x && chkE Γ b y
  | .sl a lo hi, .Subscript x (.Slice l h none _) _ => chkE Γ a x && (chkEo Γ lo l && chkEo Γ hi h)
  | .st a lo hi s, .Subscript x (.Slice l h (some t) _) _ => chkE Γ a x && (chkEo Γ lo l && (chkEo Γ hi h && chkEo Γ s (some t)))
  | .call f es, .Call (.Name x _) as [] _ => decide (Γ.T[f]? = some x) && (glb Γ.sc x && (nodb x && chkEs Γ es as))
  | .callF f es, .Call (.Name x _) as [] _ => decide (Γ.T[f]? = some x) && (glb Γ.sc x && (nodb x && chkEs Γ es as))
  | .disp true d, .List as _ => chkEd Γ d as
  | .disp false d, .Tuple as _ _ => chkEd Γ d as
  | .dct p, .Dict ks vs _ => chkKv Γ p ks vs && (decide (ks.length ≤ 15) && !ks.isEmpty)
  | .bi b es, .Call (.Name x _) as [] _ => decide (x = biNm b) && (glb Γ.sc x && (chkEs Γ es as && !as.isEmpty))
  | .comp elt tg it cs own, .ListComp x [⟨t, i, ifs, 0⟩] sc _ =>
    chkIt Γ it t i && (blkC Γ.N Γ.sc sc (ownOf Γ own) && (own.all (fun i => decide (i ∉ Γ.W)) && (chkTg { Γ with sc := relS sc Γ.sc, st := sc } tg t &&
      (chkC { Γ with sc := relS sc Γ.sc, st := sc } cs ifs && (tgIn own tg && chkE { Γ with sc := relS sc Γ.sc, st := sc } elt x)))))
  | _, _ => false
def chkKv (Γ : Gam) : Kv → List (Option Expr) → List Expr → Bool
  | .nil, [], [] => true
  | .cons k v r, some x :: ks, y :: vs => chkE Γ k x && (chkE Γ v y && chkKv Γ r ks vs)
  | _, _, _ => false
def chkEd (Γ : Gam) : Ed → List Expr → Bool
  | .nil, [] => true
  | .one e r, x :: xs => chkE Γ e x && chkEd Γ r xs
  | .star e r, .Starred x _ :: xs => chkE Γ e x && chkEd Γ r xs
  | _, _ => false
def chkEs (Γ : Gam) : Es → List Expr → Bool
  | .nil, [] => true
  | .cons e r, x :: xs => chkE Γ e x && chkEs Γ r xs
  | _, _ => false
def chkEo (Γ : Gam) : Eo → Option Expr → Bool
  | .none, none => true
  | .some e, some x => chkE Γ e x
  | _, _ => false
def chkC (Γ : Gam) : Eo → List Expr → Bool
  | .none, [] => true
  | .some e, [x] => chkE Γ e x && tOk e
  | _, _ => false
def chkIt (Γ : Gam) : It → Expr → Expr → Bool
  | .e a, _, x => chkE Γ a x
  | .r1 a, _, .Call (.Name n _) [x] [] _ => decide (n = ("range" : Str)) && (glb Γ.sc n && chkE Γ a x)
  | .r2 a b, _, .Call (.Name n _) [x, y] [] _ => decide (n = ("range" : Str)) && (glb Γ.sc n && (chkE Γ a x && chkE Γ b y))
  | .r3 a b c, _, .Call (.Name n _) [x, y, z] [] _ => decide (n = ("range" : Str)) && (glb Γ.sc n && (chkE Γ a x && (chkE Γ b y && chkE Γ c z)))
  | .zip a b, .Tuple .., .Call (.Name n _) [x, y] [] _ => decide (n = ("zip" : Str)) && (glb Γ.sc n && (chkE Γ a x && chkE Γ b y))
  | .enum a, .Tuple .., .Call (.Name n _) [x] [] _ => decide (n = ("enumerate" : Str)) && (glb Γ.sc n && chkE Γ a x)
  | _, _, _ => false
end
theorem okX_of {Γ : Gam} {e : E} {x : Expr} (h : chkE Γ e x = true) : okX x = true := by
  cases e <;> cases x <;> first | rfl | (simp [chkE] at h; done) | skip
  all_goals (rename_i l d _ _; cases l <;> simp [chkE] at h)
theorem okXs_of {Γ : Gam} : ∀ {es : Es} {xs : List Expr}, chkEs Γ es xs = true → xs.all okX = true
  | .nil, [], _ => rfl
  | .nil, _ :: _, h => by simp [chkEs] at h
  | .cons _ _, [], h => by simp [chkEs] at h
  | .cons e r, x :: xs, h => by
    simp only [chkEs, Bool.and_eq_true] at h
    simp only [List.all_cons, Bool.and_eq_true]
    exact ⟨okX_of h.1, okXs_of h.2⟩

/-! ### where it stands -/
structure Cxt (S : Sig) (Γ : Gam) (W : List Nat) (Wx : WX) (X : Cx) : Prop where
  sub : ∀ i ∈ W, i ∈ Γ.W
  calm : X.calm = true
  sc : X.env.scope = Γ.sc
  N : X.N = Γ.N
  nd : Γ.N.Nodup
  tk : Takes X Wx
  un : X.A.units + 100 < cLine
  sto : ∀ x, stOk Γ x = true → Loc X.env.scope x ∧ (X.fn x = true ∨ X.env.scope.names.lookup x = some .local)
  fn : ∀ f x, Γ.T[f]? = some x → ∃ fa fd ps k dvs ds, FnOk X.prog X.w X.K X.mg X.base (L2.CX X.prog X.w) k fa fd ps (spD X.K dvs (S.C f)) ∧ Room k X.A ∧ X.mg x = some (.ref fa) ∧ PySem.W.keepIn X.K (.ref fa) = true ∧ Binds X.K fd ps ds ∧ Vals dvs ds
  fnF : ∀ f x, Γ.T[f]? = some x → ∃ fa fd ps k dvs ds, FnOk X.prog X.w X.K X.mg X.base (L2.CX X.prog X.w) k fa fd ps (spDG X.K dvs (S.Cf f)) ∧ Room k X.A ∧ X.mg x = some (.ref fa) ∧ PySem.W.keepIn X.K (.ref fa) = true ∧ Binds X.K fd ps ds ∧ Vals dvs ds
  con : ∀ x d, S.G.lookup x = some d → ∃ u v, X.mg x = some u ∧ RelV v u ∧ ∀ O H, RX X.K O H v d
  bui : ∀ b, X.mg (biNm b) = none
  rng : X.mg "range" = none
  zip : X.mg "zip" = none
  enu : X.mg "enumerate" = none
theorem glb_of {X : Cx} {sc : Scope} {x : Str} (e : X.env.scope = sc) (h : glb sc x = true) : Gl X x := by
  have h2 := of_decide_eq_true h
  show X.env.scope.names.lookup x = _
  rw [e]
  exact h2
theorem vis_of {X : Cx} {sc : Scope} {x : Str} (e : X.env.scope = sc) (h : vis sc x = true) : Vis X.env.scope x := by
  rw [e]
  unfold vis at h
  split at h
  · rename_i e; exact .inl e
  · rename_i e; exact .inr (.inl e)
  · rename_i e; exact .inr (.inr e)
  · cases h
theorem nodb_of {x : Str} (h : nodb x = true) : (x == ("__debug__" : Str)) = false ∧ (x == ("__classdict__" : Str)) = false := by
  simp only [nodb, Bool.and_eq_true, Bool.not_eq_true'] at h
  exact h
def ndj (W : List Nat) (l : List Nat) : Prop := ∀ i ∈ l, i ∉ W
theorem ndj.l {W a b : List Nat} (h : ndj W (a ++ b)) : ndj W a := fun i hi => h i (List.mem_append_left _ hi)
theorem ndj.r {W a b : List Nat} (h : ndj W (a ++ b)) : ndj W b := fun i hi => h i (List.mem_append_right _ hi)

/-- may be new -/
def isF : E → Bool
  | .lst _ | .bin .. | .sl .. | .st .. | .bi .. | .comp .. | .callF .. => true
  | .disp l _ => l
  | .dct _ => true
  | _ => false
def isVar : E → Bool
  | .var _ => true
  | _ => false
theorem esc_pk {e : E} (h : isVar e = false) : esc e = pk e := by
  cases e <;> first | rfl | cases h
theorem pk_of {W : List Nat} {e : E} (h : ndj W (esc e)) : ndj W (pk e) := by
  cases e <;> first | exact h | exact (fun _ z => nomatch z)
structure Snd (S : Sig) (Γ : Gam) (W : List Nat) (Wx : WX) (X : Cx) (e : E) (x : Expr) : Prop where
  tk : ndj W (esc e) → PE X x (tE S Wx X.K W e)
  lk : ndj W (pk e) → PE X x (tP S Wx X.K W e)
  nw : isF e = true → ndj W (esc e) → PE X x (tF S Wx X.K W e)
section
variable {S : Sig} {Γ : Gam} {W : List Nat} {Wx : WX} {X : Cx}
theorem tP_tE {e : E} {σ : L2.St} {H : Hp} {Q : VK} (h : tP S Wx X.K W e σ H Q) : tE S Wx X.K W e σ H Q := by
  obtain ⟨ρ, O, H0, r, j⟩ := h
  exact ⟨ρ, O, H0, r, j.imp fun a _ p => p.x⟩
/-- from one rule, for all but names -/
theorem Snd.of {e : E} {x : Expr} (v : isVar e = false) (h : ndj W (esc e) → ∃ t, PE X x t ∧ (∀ σ H Q, tE S Wx X.K W e σ H Q → t σ H Q) ∧ (isF e = true → ∀ σ H Q, tF S Wx X.K W e σ H Q → t σ H Q)) : Snd S Γ W Wx X e x where
  tk := fun n => let ⟨_, p, h1, _⟩ := h n; PE.mono p h1
  lk := fun n => let ⟨_, p, h1, _⟩ := h (by rw [esc_pk v]; exact n); PE.mono p fun σ H Q z => h1 σ H Q (tP_tE z)
  nw := fun i n => let ⟨_, p, _, h2⟩ := h n; PE.mono p (h2 i)
/-- one part, then the rest -/
theorem tP.seq {a : E} {σ : L2.St} {H : Hp} {Q : VK} {α : Type} {P : α → Prop} {ρ : Env} {O : Addr → Prop} {H0 : Hp} {g : PD → R α} (r : Rel X.K W O H0 ρ σ H) (j : JG Wx X.K σ H P ((evE S a ρ).bind g))
    (k : ∀ d v H', evE S a ρ = .ok d → Same H H' → RS X.K O H' v d → Rel X.K W O H0 ρ σ H' → JG Wx X.K σ H P (g d) → Q v H') : tP S Wx X.K W a σ H Q :=
  ⟨ρ, O, H0, r, j.bind.imp fun d e p v H' s rv => k d v H' e s rv (r.same s) p⟩
theorem tE.seq {a : E} {σ : L2.St} {H : Hp} {Q : VK} {α : Type} {P : α → Prop} {ρ : Env} {O : Addr → Prop} {H0 : Hp} {g : PD → R α} (r : Rel X.K W O H0 ρ σ H) (j : JG Wx X.K σ H P ((evE S a ρ).bind g))
    (k : ∀ d v H', evE S a ρ = .ok d → Same H H' → RX X.K O H' v d → Rel X.K W O H0 ρ σ H' → JG Wx X.K σ H P (g d) → Q v H') : tE S Wx X.K W a σ H Q :=
  ⟨ρ, O, H0, r, j.bind.imp fun d e p v H' s rv => k d v H' e s rv (r.same s) p⟩
end
end Fe
set_option Elab.async false
set_option linter.all false
set_option maxRecDepth 100000
set_option maxHeartbeats 4000000
/-! Fe, part E: the expressions' theorem. -/
namespace Fe
open PySem PySem.Spec PyProof.Rows L2
/-- an expression of the row -/
def esHas (e : E) : Es → Prop
  | .nil => False
  | .cons a r => e = a ∨ esHas e r
section
variable {S : Sig} {Γ : Gam} {W : List Nat} {Wx : WX} {X : Cx}
theorem units65 (C : Cxt S Γ W Wx X) : X.A.units + 65 < cLine := by
  have := C.un
  omega

theorem snd_var (C : Cxt S Γ W Wx X) {i : Nat} {x : Expr} (h : chkE Γ (.var i) x = true) : Snd S Γ W Wx X (.var i) x := by
  cases x <;> first | (simp [chkE] at h; done) | skip
  rename_i x pos
  simp only [chkE, Bool.and_eq_true, decide_eq_true_eq] at h
  obtain ⟨h1, h2, h3⟩ := h
  obtain ⟨h4, h5⟩ := nodb_of h3
  have p : PE X (.Name x pos) (tVar i) := pe_var (by rw [C.N]; exact h1) (vis_of C.sc h2) h4 h5
  refine ⟨fun n => PE.mono p fun σ H Q z => ?_, fun n => PE.mono p fun σ H Q z => ?_, fun z => nomatch z⟩
  · obtain ⟨ρ, O, H0, r, j⟩ := z
    simp only [evE] at j
    split at j
    · rename_i d e
      obtain ⟨v, e1, rv⟩ := r.val i d (n i (by simp [esc])) e
      exact ⟨v, e1, j v H (Same.refl H) rv⟩
    · exact j.elim
  · obtain ⟨ρ, O, H0, r, j⟩ := z
    simp only [evE] at j
    split at j
    · rename_i d e
      by_cases hi : i ∈ W
      · obtain ⟨a, e1, _, _, rv, _⟩ := r.own i d hi e
        exact ⟨_, e1, j _ H (Same.refl H) (.inr ⟨a, rfl, rv⟩)⟩
      · obtain ⟨v, e1, rv⟩ := r.val i d hi e
        exact ⟨v, e1, j v H (Same.refl H) rv.rs⟩
    · exact j.elim

/-- a constant of the text -/
theorem snd_const {e : E} {x : Expr} {v : V} {d : PD} (hv : isVar e = false) (hf : isF e = false) (p : PE X x (tC v)) (ev : ∀ ρ, evE S e ρ = .ok d) (rx : ∀ O H, RX X.K O H v d) : Snd S Γ W Wx X e x := by
  refine Snd.of hv fun _ => ⟨_, p, fun σ H Q z => ?_, fun f => by rw [hf] at f; cases f⟩
  obtain ⟨ρ, O, H0, r, j⟩ := z
  rw [ev] at j
  exact j v H (Same.refl H) (rx O H)

theorem snd_glob (C : Cxt S Γ W Wx X) {n : Str} {x : Expr} (h : chkE Γ (.glob n) x = true) : Snd S Γ W Wx X (.glob n) x := by
  cases x <;> first | (simp [chkE] at h; done) | skip
  rename_i x pos
  simp only [chkE, Bool.and_eq_true, decide_eq_true_eq] at h
  obtain ⟨h1, h2, h3⟩ := h
  subst h1
  obtain ⟨h4, h5⟩ := nodb_of h3
  cases e : S.G.lookup n with
  | none =>
    refine Snd.of rfl fun _ => ⟨(fun _ _ _ => False), ⟨fun _ _ _ _ _ _ z => z.elim⟩, fun σ H Q z => ?_, fun f => nomatch f⟩
    obtain ⟨ρ, O, H0, r, j⟩ := z
    simp only [evE, e] at j
    exact j
  | some d =>
    obtain ⟨u, v, g1, g2, g3⟩ := C.con n d e
    exact snd_const (v := v) (d := d) rfl rfl (pe_glob (glb_of C.sc h2) g1 g2 h4) (fun ρ => by simp only [evE, e]) g3

/-! ### parts -/
theorem evEs_len : ∀ {es : Es} {as : List Expr} {ρ : Env} {ds : List PD}, chkEs Γ es as = true → evEs S es ρ = .ok ds → ds.length = as.length
  | .nil, [], ρ, ds, _, h => by
    simp only [evEs, R.ok.injEq] at h
    subst h
    rfl
  | .nil, _ :: _, _, _, h, _ => by simp [chkEs] at h
  | .cons _ _, [], _, _, h, _ => by simp [chkEs] at h
  | .cons e r, x :: xs, ρ, ds, h, h2 => by
    simp only [chkEs, Bool.and_eq_true] at h
    simp only [evEs] at h2
    cases e1 : evE S e ρ with
    | ok d =>
      rw [e1] at h2
      simp only [R.bind] at h2
      cases e2 : evEs S r ρ with
      | ok ds' =>
        rw [e2] at h2
        simp only [R.bind, R.ok.injEq] at h2
        subst h2
        simp [evEs_len h.2 e2]
      | exc c i => rw [e2] at h2; simp only [R.bind] at h2; cases h2
      | bad => rw [e2] at h2; simp only [R.bind] at h2; cases h2
    | exc c i => rw [e1] at h2; simp only [R.bind] at h2; cases h2
    | bad => rw [e1] at h2; simp only [R.bind] at h2; cases h2
theorem small_le {n : Nat} (h : n ≤ 1000) : n ≤ sizeLine := by
  rw [sizeLine_eq]
  omega

theorem snd_tup {es : Es} {x : Expr} (h : chkE Γ (.tup es) x = true) (hes : ∀ as, chkEs Γ es as = true → ndj W (escs es) → PA X as (tAs S Wx X.K W es)) : Snd S Γ W Wx X (.tup es) x := by
  cases x <;> first | (simp [chkE] at h; done) | skip
  rename_i as k pos
  simp only [chkE, Bool.and_eq_true, decide_eq_true_eq] at h
  refine Snd.of rfl fun n => ⟨_, pe_tup (hes as h.1 n), fun σ H Q z => ?_, fun f => nomatch f⟩
  obtain ⟨ρ, O, H0, r, j⟩ := z
  simp only [evE] at j
  refine ⟨ρ, O, H0, r, j.bind.imp fun ds e p vs H' s rx => ⟨?_, fun a na => p _ _ (s.trans (same_new na)) (.tup (.inl (.inl upd_same)) (rx.same (same_new na)))⟩⟩
  rw [rx.length, evEs_len h.1 e]
  exact small_le h.2
theorem snd_disp {l : Bool} {d : Ed} {x : Expr} (h : chkE Γ (.disp l d) x = true) (hd : ∀ as, chkEd Γ d as = true → ndj W (escd d) → PA X as (tEd S Wx X.K W d)) : Snd S Γ W Wx X (.disp l d) x := by
  cases l with
  | true =>
    cases x <;> first | (simp [chkE] at h; done) | skip
    rename_i as pos
    simp only [chkE] at h
    have key : ∀ σ H Q, tF S Wx X.K W (.disp true d) σ H Q → tLst (tEd S Wx X.K W d) σ H Q := fun σ H Q z => by
      obtain ⟨ρ, O, H0, r, j⟩ := z
      simp only [evE] at j
      refine ⟨ρ, O, H0, r, j.bind.imp fun ds e p vs H' s rx => ?_⟩
      split at p
      · rename_i c
        refine ⟨by rw [rx.length]; exact okLen_le c, fun a na => p.2 a _ (Same.free s na) (s.trans (same_new na)) ⟨vs, upd_same, (rx.lift (Lift.own na)).same (same_new na)⟩⟩
      · exact p.elim
    refine Snd.of rfl fun n => ⟨_, pe_lst (hd as h n), fun σ H Q z => key σ H Q ?_, fun _ => key⟩
    obtain ⟨ρ, O, H0, r, j⟩ := z
    refine ⟨ρ, O, H0, r, ?_⟩
    have isl : ∀ d', evE S (.disp true d) ρ = .ok d' → isL d' = true := fun d' e => by
      simp only [evE] at e
      cases e1 : evEd S d ρ with
      | ok ds =>
        rw [e1] at e
        simp only [R.bind] at e
        split at e
        · cases e; rfl
        · cases e
      | exc c i => rw [e1] at e; cases e
      | bad => rw [e1] at e; cases e
    exact j.imp fun d e p => ⟨isl d e, PostX.toF r.dom p⟩
  | false =>
    cases x <;> first | (simp [chkE] at h; done) | skip
    rename_i as k pos
    simp only [chkE] at h
    refine Snd.of rfl fun n => ⟨_, pe_tup (hd as h n), fun σ H Q z => ?_, fun f => nomatch f⟩
    obtain ⟨ρ, O, H0, r, j⟩ := z
    simp only [evE] at j
    refine ⟨ρ, O, H0, r, j.bind.imp fun ds e p vs H' s rx => ?_⟩
    split at p
    · rename_i c
      exact ⟨by rw [rx.length]; exact okLen_le c, fun a na => p _ _ (s.trans (same_new na)) (.tup (.inl (.inl upd_same)) (rx.same (same_new na)))⟩
    · exact p.elim
theorem snd_lst {es : Es} {x : Expr} (h : chkE Γ (.lst es) x = true) (hes : ∀ as, chkEs Γ es as = true → ndj W (escs es) → PA X as (tAs S Wx X.K W es)) : Snd S Γ W Wx X (.lst es) x := by
  cases x <;> first | (simp [chkE] at h; done) | skip
  rename_i as pos
  simp only [chkE, Bool.and_eq_true, decide_eq_true_eq] at h
  have key : ∀ σ H Q, tF S Wx X.K W (.lst es) σ H Q → tLst (tAs S Wx X.K W es) σ H Q := fun σ H Q z => by
    obtain ⟨ρ, O, H0, r, j⟩ := z
    simp only [evE] at j
    refine ⟨ρ, O, H0, r, j.bind.imp fun ds e p vs H' s rx => ⟨?_, fun a na => p.2 a _ (Same.free s na) (s.trans (same_new na)) ⟨vs, upd_same, (rx.lift (Lift.own na)).same (same_new na)⟩⟩⟩
    rw [rx.length, evEs_len h.1 e]
    exact small_le h.2
  refine Snd.of rfl fun n => ⟨_, pe_lst (hes as h.1 n), fun σ H Q z => key σ H Q ?_, fun _ => key⟩
  obtain ⟨ρ, O, H0, r, j⟩ := z
  refine ⟨ρ, O, H0, r, ?_⟩
  simp only [evE] at j ⊢
  cases e : evEs S es ρ with
  | ok ds =>
    rw [e] at j
    exact ⟨rfl, PostX.toF r.dom j⟩
  | exc c i => rw [e] at j; exact j
  | bad => rw [e] at j; exact j

theorem snd_bin {o : Op} {a b : E} {x : Expr} (h : chkE Γ (.bin o a b) x = true) (ha : ∀ y, chkE Γ a y = true → Snd S Γ W Wx X a y) (hb : ∀ y, chkE Γ b y = true → Snd S Γ W Wx X b y) : Snd S Γ W Wx X (.bin o a b) x := by
  cases x <;> first | (simp [chkE] at h; done) | skip
  rename_i y p z pos
  simp only [chkE, Bool.and_eq_true, decide_eq_true_eq] at h
  obtain ⟨rfl, h1, h2⟩ := h
  refine Snd.of rfl fun n => ⟨_, pe_op (op_binV o) ((ha y h1).lk n.l) ((hb z h2).lk n.r), fun σ H Q q => ?_, fun _ σ H Q q => ?_⟩
  · obtain ⟨ρ, O, H0, r, j⟩ := q
    simp only [evE] at j
    refine tP.seq r j fun d v H1 e1 s1 r1 rl1 j1 => tP.seq rl1 (j1.same s1 fun _ p => p) fun e w H2 e2 s2 r2 rl2 j2 => ?_
    exact ⟨O, d, e, rl2.dom, r1.same s2, r2, JG.retB rl2.dom (noX_bin o d e) (j2.same s2 fun _ p => p.same (s1.trans s2))⟩
  · obtain ⟨ρ, O, H0, r, j⟩ := q
    simp only [evE] at j
    refine tP.seq r j fun d v H1 e1 s1 r1 rl1 j1 => tP.seq rl1 (j1.same s1 fun _ p => p) fun e w H2 e2 s2 r2 rl2 j2 => ?_
    exact ⟨O, d, e, rl2.dom, r1.same s2, r2, JG.retF (noX_bin o d e) (j2.same s2 fun _ p => ⟨p.1, p.2.same (s1.trans s2)⟩)⟩
theorem snd_cmp (C : Cxt S Γ W Wx X) {o : Cp} {a b : E} {x : Expr} (h : chkE Γ (.cmp o a b) x = true) (ha : ∀ y, chkE Γ a y = true → Snd S Γ W Wx X a y) (hb : ∀ y, chkE Γ b y = true → Snd S Γ W Wx X b y) :
    Snd S Γ W Wx X (.cmp o a b) x ∧ (ndj W (esc (.cmp o a b)) → PT X x (tT S Wx X.K W (.cmp o a b))) := by
  cases x <;> first | (simp [chkE] at h; done) | skip
  rename_i y ps zs pos
  rcases ps with _ | ⟨p, _ | _⟩ <;> rcases zs with _ | ⟨z, _ | _⟩ <;> first | (simp [chkE] at h; done) | skip
  simp only [chkE, Bool.and_eq_true, decide_eq_true_eq] at h
  obtain ⟨rfl, h1, h2⟩ := h
  refine ⟨Snd.of rfl fun n => ⟨_, pe_cmpR (op_cmpV o (units65 C)) ((ha y h1).lk n.l) ((hb z h2).lk n.r) (marks_of (okX_of h2) _), fun σ H Q q => ?_, fun f => nomatch f⟩,
    fun n => PT.mono (pt_cmpR (op_cmpV o (units65 C)) ((ha y h1).lk n.l) ((hb z h2).lk n.r) (marks_of (okX_of h2) _)) fun σ H Q q => ?_⟩
  · obtain ⟨ρ, O, H0, r, j⟩ := q
    simp only [evE] at j
    refine tP.seq r j fun d v H1 e1 s1 r1 rl1 j1 => tP.seq rl1 (j1.same s1 fun _ p => p) fun e w H2 e2 s2 r2 rl2 j2 => ?_
    exact ⟨O, d, e, rl2.dom, r1.same s2, r2, JG.retB rl2.dom (noX_cmp o d e) (j2.same s2 fun _ p => p.same (s1.trans s2))⟩
  · obtain ⟨ρ, O, H0, r, j⟩ := q
    simp only [evE] at j
    refine tP.seq r j fun d v H1 e1 s1 r1 rl1 j1 => tP.seq rl1 (j1.same s1 fun _ p => p) fun e w H2 e2 s2 r2 rl2 j2 => ?_
    refine ⟨O, d, e, rl2.dom, r1.same s2, r2, ?_⟩
    have nx := noX_cmp o d e
    generalize cmpV o d e = res at j2 nx
    cases res with
    | ok t =>
      obtain ⟨k, rfl, q⟩ := j2
      refine PostX.toB rl2.dom fun v H' s rv => ?_
      cases rv
      exact ⟨k, rfl, q H' (s1.trans (s2.trans s))⟩
    | exc c i => exact nx.elim
    | bad => exact j2
theorem snd_neg {a : E} {x : Expr} (h : chkE Γ (.neg a) x = true) (ha : ∀ y, chkE Γ a y = true → Snd S Γ W Wx X a y) : Snd S Γ W Wx X (.neg a) x := by
  cases x <;> first | (simp [chkE] at h; done) | skip
  rename_i p y pos
  cases p <;> first | (simp [chkE] at h; done) | skip
  simp only [chkE] at h
  refine Snd.of rfl fun n => ⟨_, pe_un un_neg ((ha y h).lk n), fun σ H Q q => ?_, fun f => nomatch f⟩
  obtain ⟨ρ, O, H0, r, j⟩ := q
  simp only [evE] at j
  refine tP.seq r j fun d v H1 e1 s1 r1 rl1 j1 => ?_
  cases d <;> first | exact j1.elim | skip
  cases r1.int
  exact ⟨_, rfl, j1 _ _ s1 (.int _)⟩
theorem snd_isN {a : E} {x : Expr} (h : chkE Γ (.isN a) x = true) (ha : ∀ y, chkE Γ a y = true → Snd S Γ W Wx X a y) :
    Snd S Γ W Wx X (.isN a) x ∧ (ndj W (esc (.isN a)) → PT X x (tT S Wx X.K W (.isN a))) := by
  cases x <;> first | (simp [chkE] at h; done) | skip
  rename_i y ps zs pos
  rcases ps with _ | ⟨p, _ | _⟩ <;> rcases zs with _ | ⟨z, _ | _⟩ <;> first | (simp [chkE] at h; done) | skip
  cases p <;> first | (simp [chkE] at h; done) | skip
  cases z <;> first | (simp [chkE] at h; done) | skip
  rename_i c k pos2
  cases c <;> first | (simp [chkE] at h; done) | skip
  simp only [chkE] at h
  have key : ∀ (v : V) (d : PD) (H' : Hp) (O : Addr → Prop), RS X.K O H' v d → (decide (v = .non)) = (isNoneD d) := fun v d H' O h => by
    rw [h.isNone]
  refine ⟨Snd.of rfl fun n => ⟨_, pe_cmp (pc_isN ((ha y h).lk n)), fun σ H Q q => ?_, fun f => nomatch f⟩, fun n => PT.mono (pt_cmp (pc_isN ((ha y h).lk n))) fun σ H Q q => ?_⟩
  · obtain ⟨ρ, O, H0, r, j⟩ := q
    simp only [evE] at j
    refine tP.seq r j fun d v H1 e1 s1 r1 rl1 j1 => ?_
    rw [key v d H1 O r1]
    exact j1 _ _ s1 (.bl _)
  · obtain ⟨ρ, O, H0, r, j⟩ := q
    simp only [evE] at j
    refine tP.seq r j fun d v H1 e1 s1 r1 rl1 j1 => ?_
    obtain ⟨k, ek, q⟩ := j1
    refine ⟨_, rfl, ?_⟩
    rw [key v d H1 O r1, PyData.bool.inj ek]
    exact q H1 s1
theorem snd_noN {a : E} {x : Expr} (h : chkE Γ (.noN a) x = true) (ha : ∀ y, chkE Γ a y = true → Snd S Γ W Wx X a y) :
    Snd S Γ W Wx X (.noN a) x ∧ (ndj W (esc (.noN a)) → PT X x (tT S Wx X.K W (.noN a))) := by
  cases x <;> first | (simp [chkE] at h; done) | skip
  rename_i y ps zs pos
  rcases ps with _ | ⟨p, _ | _⟩ <;> rcases zs with _ | ⟨z, _ | _⟩ <;> first | (simp [chkE] at h; done) | skip
  cases p <;> first | (simp [chkE] at h; done) | skip
  cases z <;> first | (simp [chkE] at h; done) | skip
  rename_i c k pos2
  cases c <;> first | (simp [chkE] at h; done) | skip
  simp only [chkE] at h
  have key : ∀ (v : V) (d : PD) (H' : Hp) (O : Addr → Prop), RS X.K O H' v d → (!decide (v = .non)) = (!isNoneD d) := fun v d H' O h => by
    rw [h.isNone]
  refine ⟨Snd.of rfl fun n => ⟨_, pe_cmp (pc_notN ((ha y h).lk n)), fun σ H Q q => ?_, fun f => nomatch f⟩, fun n => PT.mono (pt_cmp (pc_notN ((ha y h).lk n))) fun σ H Q q => ?_⟩
  · obtain ⟨ρ, O, H0, r, j⟩ := q
    simp only [evE] at j
    refine tP.seq r j fun d v H1 e1 s1 r1 rl1 j1 => ?_
    rw [key v d H1 O r1]
    exact j1 _ _ s1 (.bl _)
  · obtain ⟨ρ, O, H0, r, j⟩ := q
    simp only [evE] at j
    refine tP.seq r j fun d v H1 e1 s1 r1 rl1 j1 => ?_
    obtain ⟨k, ek, q⟩ := j1
    refine ⟨_, rfl, ?_⟩
    rw [key v d H1 O r1, PyData.bool.inj ek]
    exact q H1 s1
theorem snd_isB {b : Bool} {a : E} {x : Expr} (h : chkE Γ (.isB b a) x = true) (ha : ∀ y, chkE Γ a y = true → Snd S Γ W Wx X a y) :
    Snd S Γ W Wx X (.isB b a) x ∧ (ndj W (esc (.isB b a)) → PT X x (tT S Wx X.K W (.isB b a))) := by
  cases x <;> first | (simp [chkE] at h; done) | skip
  rename_i y ps zs pos
  rcases ps with _ | ⟨p, _ | _⟩ <;> rcases zs with _ | ⟨z, _ | _⟩ <;> first | (simp [chkE] at h; done) | skip
  cases p <;> first | (simp [chkE] at h; done) | skip
  cases z <;> first | (simp [chkE] at h; done) | skip
  rename_i c k pos2
  cases c <;> first | (simp [chkE] at h; done) | skip
  simp only [chkE, Bool.and_eq_true, decide_eq_true_eq] at h
  obtain ⟨rfl, h⟩ := h
  have key : ∀ k : Bool, (decide (k = b)) = ((k == b)) := fun k => by cases k <;> cases b <;> rfl
  refine ⟨Snd.of rfl fun n => ⟨_, pe_cmpR op_isBl ((ha y h).lk n) pe_bl (nomark _), fun σ H Q q => ?_, fun f => nomatch f⟩, fun n => PT.mono (pt_cmpR op_isBl ((ha y h).lk n) pe_bl (nomark _)) fun σ H Q q => ?_⟩
  · obtain ⟨ρ, O, H0, r, j⟩ := q
    simp only [evE] at j
    refine tP.seq r j fun d v H1 e1 s1 r1 rl1 j1 => ?_
    cases d <;> first | exact j1.elim | skip
    rename_i k'
    cases r1.bool
    refine ⟨k', b, rfl, rfl, ?_⟩
    rw [key]
    exact j1 _ _ s1 (.bl _)
  · obtain ⟨ρ, O, H0, r, j⟩ := q
    simp only [evE] at j
    refine tP.seq r j fun d v H1 e1 s1 r1 rl1 j1 => ?_
    cases d <;> first | exact j1.elim | skip
    rename_i k'
    cases r1.bool
    obtain ⟨k, ek, q⟩ := j1
    refine ⟨k', b, rfl, rfl, _, rfl, ?_⟩
    rw [key, PyData.bool.inj ek]
    exact q H1 s1
theorem snd_noB {b : Bool} {a : E} {x : Expr} (h : chkE Γ (.noB b a) x = true) (ha : ∀ y, chkE Γ a y = true → Snd S Γ W Wx X a y) :
    Snd S Γ W Wx X (.noB b a) x ∧ (ndj W (esc (.noB b a)) → PT X x (tT S Wx X.K W (.noB b a))) := by
  cases x <;> first | (simp [chkE] at h; done) | skip
  rename_i y ps zs pos
  rcases ps with _ | ⟨p, _ | _⟩ <;> rcases zs with _ | ⟨z, _ | _⟩ <;> first | (simp [chkE] at h; done) | skip
  cases p <;> first | (simp [chkE] at h; done) | skip
  cases z <;> first | (simp [chkE] at h; done) | skip
  rename_i c k pos2
  cases c <;> first | (simp [chkE] at h; done) | skip
  simp only [chkE, Bool.and_eq_true, decide_eq_true_eq] at h
  obtain ⟨rfl, h⟩ := h
  have key : ∀ k : Bool, (!decide (k = b)) = (!(k == b)) := fun k => by cases k <;> cases b <;> rfl
  refine ⟨Snd.of rfl fun n => ⟨_, pe_cmpR op_notBl ((ha y h).lk n) pe_bl (nomark _), fun σ H Q q => ?_, fun f => nomatch f⟩, fun n => PT.mono (pt_cmpR op_notBl ((ha y h).lk n) pe_bl (nomark _)) fun σ H Q q => ?_⟩
  · obtain ⟨ρ, O, H0, r, j⟩ := q
    simp only [evE] at j
    refine tP.seq r j fun d v H1 e1 s1 r1 rl1 j1 => ?_
    cases d <;> first | exact j1.elim | skip
    rename_i k'
    cases r1.bool
    refine ⟨k', b, rfl, rfl, ?_⟩
    rw [key]
    exact j1 _ _ s1 (.bl _)
  · obtain ⟨ρ, O, H0, r, j⟩ := q
    simp only [evE] at j
    refine tP.seq r j fun d v H1 e1 s1 r1 rl1 j1 => ?_
    cases d <;> first | exact j1.elim | skip
    rename_i k'
    cases r1.bool
    obtain ⟨k, ek, q⟩ := j1
    refine ⟨k', b, rfl, rfl, _, rfl, ?_⟩
    rw [key, PyData.bool.inj ek]
    exact q H1 s1

/-- a bool as a value is one as a test -/
theorem snd_test {e : E} {x : Expr} (hw : ∀ whole, isTrue x X.env whole = (do let v ← whole; standAt x.pos; holding [v] (truthy v))) (h : PE X x (tP S Wx X.K W e)) : PT X x (tT S Wx X.K W e) := by
  refine PT.mono (pt_val h hw) fun σ H Q q => ?_
  obtain ⟨ρ, O, H0, r, j⟩ := q
  refine ⟨ρ, O, H0, r, j.imp fun d e p v H' s rv => ?_⟩
  obtain ⟨k, rfl, q⟩ := p
  cases rv.bool
  exact ⟨k, rfl, q H' s⟩
theorem snd_nt {a : E} {x : Expr} (h : chkE Γ (.nt a) x = true) (ha : ∀ y, chkE Γ a y = true → Snd S Γ W Wx X a y) : Snd S Γ W Wx X (.nt a) x := by
  cases x <;> first | (simp [chkE] at h; done) | skip
  rename_i p y pos
  cases p <;> first | (simp [chkE] at h; done) | skip
  simp only [chkE] at h
  refine Snd.of rfl fun n => ⟨_, pe_not ((ha y h).lk n), fun σ H Q q => ?_, fun f => nomatch f⟩
  obtain ⟨ρ, O, H0, r, j⟩ := q
  simp only [evE] at j
  refine tP.seq r j fun d v H1 e1 s1 r1 rl1 j1 => ?_
  cases d <;> first | exact j1.elim | skip
  cases r1.bool
  exact ⟨_, rfl, j1 _ _ s1 (.bl _)⟩
theorem snd_ntT {a : E} {x : Expr} (h : chkE Γ (.nt a) x = true) (ha : ∀ y, chkE Γ a y = true → PT X y (tT S Wx X.K W a)) : PT X x (tT S Wx X.K W (.nt a)) := by
  cases x <;> first | (simp [chkE] at h; done) | skip
  rename_i p y pos
  cases p <;> first | (simp [chkE] at h; done) | skip
  simp only [chkE] at h
  refine PT.mono (pt_not (ha y h)) fun σ H Q q => ?_
  obtain ⟨ρ, O, H0, r, j⟩ := q
  simp only [evE] at j
  refine ⟨ρ, O, H0, r, j.bind.imp fun d e j1 => ?_⟩
  cases d <;> first | exact j1.elim | skip
  rename_i k
  obtain ⟨k2, e2, q⟩ := j1
  refine ⟨k, rfl, fun H' s => ?_⟩
  show Q (!k) H'
  rw [PyData.bool.inj e2]
  exact q H' s
theorem snd_ite {c a b : E} {x : Expr} (h : chkE Γ (.ite c a b) x = true) (hc : ∀ y, chkE Γ c y = true → tOk c = true → ndj W (pk c) → PT X y (tT S Wx X.K W c)) (ha : ∀ y, chkE Γ a y = true → Snd S Γ W Wx X a y) (hb : ∀ y, chkE Γ b y = true → Snd S Γ W Wx X b y) : Snd S Γ W Wx X (.ite c a b) x := by
  cases x <;> first | (simp [chkE] at h; done) | skip
  rename_i t y z pos
  simp only [chkE, Bool.and_eq_true] at h
  obtain ⟨h1, h2, h3, h4⟩ := h
  refine Snd.of rfl fun n => ⟨_, pe_ifExp (hc t h1 h2 n.l) ((ha y h3).tk n.r.l) ((hb z h4).tk n.r.r), fun σ H Q q => ?_, fun f => nomatch f⟩
  obtain ⟨ρ, O, H0, r, j⟩ := q
  simp only [evE] at j
  refine ⟨ρ, O, H0, r, j.bind.imp fun d e j1 => ?_⟩
  cases d <;> first | exact j1.elim | skip
  rename_i k
  refine ⟨k, rfl, fun H' s => ?_⟩
  have j2 : JG Wx X.K σ H (PostX X.K O H Q) (if k = true then evE S a ρ else evE S b ρ) := j1
  show if k = true then tE S Wx X.K W a σ H' Q else tE S Wx X.K W b σ H' Q
  split
  · rw [if_pos ‹_›] at j2
    exact ⟨ρ, O, H0, r.same s, j2.same s fun _ p => p.same s⟩
  · rw [if_neg ‹_›] at j2
    exact ⟨ρ, O, H0, r.same s, j2.same s fun _ p => p.same s⟩
theorem PE.or {e : Expr} {t t' : TE} (h : PE X e t) (h' : PE X e t') : PE X e (fun σ H Q => t σ H Q ∨ t' σ H Q) := ⟨fun pins s σ H Q I q => q.elim (h.run pins s σ H Q I) (h'.run pins s σ H Q I)⟩
def isDc : PD → Bool
  | .dict _ => true
  | _ => false
theorem snd_ix (C : Cxt S Γ W Wx X) {a b : E} {x : Expr} (h : chkE Γ (.ix a b) x = true) (ha : ∀ y, chkE Γ a y = true → Snd S Γ W Wx X a y) (hb : ∀ y, chkE Γ b y = true → Snd S Γ W Wx X b y) : Snd S Γ W Wx X (.ix a b) x := by
  cases x <;> first | (simp [chkE] at h; done) | skip
  rename_i y z pos
  simp only [chkE, Bool.and_eq_true] at h
  have pl := plainIx_of (okX_of h.2)
  refine Snd.of rfl fun n => ⟨_, PE.or (pe_ix ix_V ((ha y h.1).lk n.l) ((hb z h.2).lk n.r) pl) (pe_dget (by have := C.un; omega) ((ha y h.1).lk n.l) ((hb z h.2).lk n.r) pl), fun σ H Q q => ?_, fun f => nomatch f⟩
  obtain ⟨ρ, O, H0, r, j⟩ := q
  simp only [evE] at j
  by_cases c : ∃ kvs, evE S a ρ = .ok (.dict kvs)
  · obtain ⟨kvs, ea⟩ := c
    refine .inr (tP.seq r j fun d v H1 e1 s1 r1 rl1 j1 => tP.seq rl1 (j1.same s1 fun _ p => p) fun e w H2 e2 s2 r2 rl2 j2 => ?_)
    rw [ea] at e1
    cases e1
    obtain ⟨p, ps, rfl, dp, rp⟩ := (r1.same s2).dict
    have j3 : JG Wx X.K σ H1 (PostX X.K O H Q) (match getP kvs e with | some d => R.ok d | none => .bad) := j2
    cases eg : getP kvs e with
    | none => rw [eg] at j3; exact j3.elim
    | some d =>
      rw [eg] at j3
      rcases dp with ⟨ks, hd, rfl⟩ | ⟨ks, hd, rfl⟩
      · obtain ⟨k, u, rfl, g2, g3⟩ := getP_rx rp eg
        refine ⟨p, u, rfl, .inl ⟨ks, k, hd, ?_, g2.symm⟩, j3 u H2 (s1.trans s2) g3⟩
        rcases k with i | t
        · exact r2.int
        · exact r2.str.1
      · exfalso
        have gen : ∀ {ks : List (List Key × V)} {kvs : List (PD × PD)}, RXp X.K O H2 (ks.map fun p => (PyData.tuple (p.1.map kP), p.2)) kvs → getP kvs e = none := by
          intro ks
          induction ks with
          | nil => intro kvs r; cases r; rfl
          | cons q ks ih =>
            intro kvs r
            obtain ⟨k, v⟩ := q
            cases r with
            | cons q1 q2 =>
              have := ih q2
              unfold getP at this ⊢
              rw [List.find?_cons]
              have z : keyEq (PyData.tuple (k.map kP)) e = false := by cases e <;> rfl
              rw [z]
              exact this
        rw [gen rp] at eg
        cases eg
  · refine .inl (tP.seq r j fun d v H1 e1 s1 r1 rl1 j1 => tP.seq rl1 (j1.same s1 fun _ p => p) fun e w H2 e2 s2 r2 rl2 j2 => ?_)
    have es : ixV d e = ixS d e := by
      cases d <;> cases e <;> first | rfl | exact absurd ⟨_, e1⟩ c
    rw [es] at j2
    have nx : noX (ixS d e) := by rw [← es]; exact noX_ix d e
    exact ⟨O, d, e, r1.same s2, r2, JG.retX nx (j2.same s2 fun _ p => p.same (s1.trans s2))⟩
theorem snd_sl {a : E} {lo hi : Eo} {x : Expr} (h : chkE Γ (.sl a lo hi) x = true) (ha : ∀ y, chkE Γ a y = true → Snd S Γ W Wx X a y) (hl : ∀ y, chkEo Γ lo y = true → ndj W (esco lo) → PO X y (tEo S Wx X.K W lo))
    (hh : ∀ y, chkEo Γ hi y = true → ndj W (esco hi) → PO X y (tEo S Wx X.K W hi)) : Snd S Γ W Wx X (.sl a lo hi) x := by
  cases x <;> first | (simp [chkE] at h; done) | skip
  rename_i y z pos
  cases z <;> first | (simp [chkE] at h; done) | skip
  rename_i l u st pos2
  cases st <;> first | (simp [chkE] at h; done) | skip
  simp only [chkE, Bool.and_eq_true] at h
  obtain ⟨h1, h2, h3⟩ := h
  refine Snd.of rfl fun n => ⟨_, pe_slice sl_V ((ha y h1).lk n.l) (hl l h2 n.r.l) (hh u h3 n.r.r), fun σ H Q q => ?_, fun _ σ H Q q => ?_⟩
  · obtain ⟨ρ, O, H0, r, j⟩ := q
    simp only [evE] at j
    refine tP.seq r j fun d v H1 e1 s1 r1 rl1 j1 => ⟨ρ, O, H0, rl1, (j1.same s1 fun _ p => p).bind.imp fun l e2 p H2 s2 => ⟨ρ, O, H0, rl1.same s2, (p.same s2 fun _ p => p).bind.imp fun u e3 p H3 s3 => ?_⟩⟩
    exact ⟨O, d, (rl1.same (s2.trans s3)).dom, r1.same (s2.trans s3), JG.retB (rl1.same (s2.trans s3)).dom (noX_sl d l u) (p.same s3 fun _ p => p.same (s1.trans (s2.trans s3)))⟩
  · obtain ⟨ρ, O, H0, r, j⟩ := q
    simp only [evE] at j
    refine tP.seq r j fun d v H1 e1 s1 r1 rl1 j1 => ⟨ρ, O, H0, rl1, (j1.same s1 fun _ p => p).bind.imp fun l e2 p H2 s2 => ⟨ρ, O, H0, rl1.same s2, (p.same s2 fun _ p => p).bind.imp fun u e3 p H3 s3 => ?_⟩⟩
    exact ⟨O, d, (rl1.same (s2.trans s3)).dom, r1.same (s2.trans s3), JG.retF (noX_sl d l u) (p.same s3 fun _ p => ⟨p.1, p.2.same (s1.trans (s2.trans s3))⟩)⟩
/-! ### slices with a step -/
def tSls (K : PySem.W.Frag) (te : TE) (tl th ts : TO) : TE := fun σ H Q => te σ H fun x H1 => tl σ H1 fun l H2 => th σ H2 fun u H3 => ts σ H3 fun o H4 => ∃ a xs k, x = .ref a ∧ SqL K H4 a xs ∧ o = some k ∧ k ≠ 0 ∧ ∀ p, H4 p = none → Q (.ref p) (upd H4 p (.lst (stpV xs l u k)))
theorem pe_sliceS {e : Expr} {te : TE} {lo hi : Option Expr} {st : Expr} {tl th ts : TO} {p2 pos : Pos} (he : PE X e te) (hl : PO X lo tl) (hu : PO X hi th) (hs : PO X (some st) ts) : PE X (.Subscript e (.Slice lo hi (some st) p2) pos) (tSls X.K te tl th ts) := by
  refine ⟨fun pins s σ H Q I h => ?_⟩
  refine Subscript_ (thn (he.run pins s σ H _ I h) fun v s1 ⟨x, H1, I1, r1, q1⟩ => ?_)
  refine wpAny_Slice (thn (hl.run pins s1 σ H1 _ I1 q1) fun vl s2 ⟨l, H2, I2, pl, q2⟩ => thn (hu.run pins s2 σ H2 _ I2 q2) fun vu s3 ⟨u, H3, I3, pu, q3⟩ => ?_)
  refine thn (hs.run pins s3 σ H3 _ I3 q3) fun vs s4 ⟨o, H4, I4, ps, q4⟩ => ?_
  obtain ⟨a, xs, k, ex, hx, eo, hk, q⟩ := q4
  subst ex eo
  cases r1
  have I5 : Inv X pins σ H4 { s4 with heap := s4.heap.push { cls := .type "slice", data := .fields #[vl, vu, vs] } } := I4.kept (t' := s4.toks) fun b ob q => Heap.get?_push_of_some _ q
  obtain ⟨its, r, ht, hz⟩ := I5.list hx
  have hlen := r.length
  show wpAny (model X.prog X.w) X.A (subscriptTail e (.Slice lo hi (some st) p2) (.ref a) (.ref s4.heap.objs.size)) (EP X pins σ Q) X.xe { s4 with heap := s4.heap.push { cls := .type "slice", data := .fields #[vl, vu, vs] } }
  refine tail_any (ops := [.ref a, .ref s4.heap.objs.size]) ht.isList.typeIs (PySem.slot_list_getitem.lookup) ?_ (by with_unfolding_all rfl)
  refine wpAny_getItem_list_slice ht.isList (Heap.IsSliceOf.new _ vl vu vs) pl pu ps (by simpa using hk) ?_ (by rw [List.size_toArray]; omega)
  have ev : slicePick its.toArray l u (some k) = ((sliceRange (sliceBounds l u (some k) xs.length).1 (sliceBounds l u (some k) xs.length).2.1 k).filterMap (its[·]?)).toArray := by
    unfold slicePick
    rw [List.size_toArray, ← hlen]
    congr 2
    funext i
    simp
  have hle := slicePick_size_le its.toArray l u (some k)
  rw [ev] at hle ⊢
  have rv := pick_vals r (sliceRange (sliceBounds l u (some k) xs.length).1 (sliceBounds l u (some k) xs.length).2.1 k)
  refine ⟨.ref _, _, I5.laid (t' := s4.toks) (o := .lst (stpV xs l u k)) (fun b ob q => Heap.get?_push_of_some _ q) (Nat.le_refl _) ?_, rfl, q _ (I5.hok.fresh (Nat.le_refl _))⟩
  refine ⟨?_, _, 0, rv, Heap.get?_push_size _ rfl⟩
  have := rv.length
  unfold stpV
  rw [this]
  rw [List.size_toArray, List.size_toArray] at hle
  omega
theorem snd_st {a : E} {lo hi s : Eo} {x : Expr} (h : chkE Γ (.st a lo hi s) x = true) (ha : ∀ y, chkE Γ a y = true → Snd S Γ W Wx X a y) (hl : ∀ y, chkEo Γ lo y = true → ndj W (esco lo) → PO X y (tEo S Wx X.K W lo))
    (hh : ∀ y, chkEo Γ hi y = true → ndj W (esco hi) → PO X y (tEo S Wx X.K W hi)) (hs : ∀ y, chkEo Γ s y = true → ndj W (esco s) → PO X y (tEo S Wx X.K W s)) : Snd S Γ W Wx X (.st a lo hi s) x := by
  cases x <;> first | (simp [chkE] at h; done) | skip
  rename_i y z pos
  cases z <;> first | (simp [chkE] at h; done) | skip
  rename_i l u st pos2
  cases st <;> first | (simp [chkE] at h; done) | skip
  simp only [chkE, Bool.and_eq_true] at h
  obtain ⟨h1, h2, h3, h4⟩ := h
  have fin : ∀ {σ : L2.St} {H : Hp} {Q : VK}, tF S Wx X.K W (.st a lo hi s) σ H Q → tSls X.K (tP S Wx X.K W a) (tEo S Wx X.K W lo) (tEo S Wx X.K W hi) (tEo S Wx X.K W s) σ H Q := fun {σ H Q} q => by
    obtain ⟨ρ, O, H0, r, j⟩ := q
    simp only [evE] at j
    refine tP.seq r j fun d v H1 e1 s1 r1 rl1 j1 => ⟨ρ, O, H0, rl1, (j1.same s1 fun _ p => p).bind.imp fun l e2 p H2 s2 => ⟨ρ, O, H0, rl1.same s2, (p.same s2 fun _ p => p).bind.imp fun u e3 p H3 s3 => ⟨ρ, O, H0, rl1.same (s2.trans s3), (p.same s3 fun _ p => p).bind.imp fun k e4 p H4 s4 => ?_⟩⟩⟩
    have s14 := s2.trans (s3.trans s4)
    cases d <;> cases k <;> simp only [stV] at p <;> first | exact p.elim | skip
    rename_i ds k
    split at p
    case isFalse => exact p.elim
    rename_i hk
    obtain ⟨p1, p⟩ := p
    obtain ⟨a', xs, e, g1, g2⟩ := (r1.same s14).list
    exact ⟨a', xs, k, e, .inl g1, rfl, of_decide_eq_true hk, fun q n => (p.same (s1.trans s14)) q _ n (same_new n) ⟨_, upd_same, (stp_rx l u k g2).lift ((Lift.own n).trans (Lift.same (same_new n)))⟩⟩
  refine Snd.of rfl fun n => ⟨_, pe_sliceS ((ha y h1).lk n.l) (hl l h2 n.r.l) (hh u h3 n.r.r.l) (hs (some _) h4 n.r.r.r), fun σ H Q q => fin ?_, fun _ σ H Q q => fin q⟩
  obtain ⟨ρ, O, H0, r, j⟩ := q
  refine ⟨ρ, O, H0, r, j.imp fun d e p => ⟨?_, PostX.toF r.dom p⟩⟩
  simp only [evE] at e
  cases e1 : evE S a ρ with
  | ok x =>
    rw [e1] at e
    cases e2 : evEo S lo ρ with
    | ok l =>
      rw [e2] at e
      cases e3 : evEo S hi ρ with
      | ok u =>
        rw [e3] at e
        cases e4 : evEo S s ρ with
        | ok k =>
          rw [e4] at e
          simp only [R.bind] at e
          cases x <;> cases k <;> simp only [stV] at e <;> first | (cases e; done) | skip
          split at e
          · cases e; rfl
          · cases e
        | exc c i => rw [e4] at e; cases e
        | bad => rw [e4] at e; cases e
      | exc c i => rw [e3] at e; cases e
      | bad => rw [e3] at e; cases e
    | exc c i => rw [e2] at e; cases e
    | bad => rw [e2] at e; cases e
  | exc c i => rw [e1] at e; cases e
  | bad => rw [e1] at e; cases e
theorem pe_callS0 {CX : CXT} {k : Nat} {f : Addr} {fd : FuncData} {ps : List Str} {sp : Sp} {dvs : List V} {ds : List Value} {E : L2.St → XK} {x : Str} {p pos : Pos} (F : FnOk X.prog X.w X.K X.mg X.base CX k f fd ps sp) (hr : Room k X.A) (hg : Gl X x) (hm : X.mg x = some (.ref f)) (hk : PySem.W.keepIn X.K (.ref f) = true) (hb : Binds X.K fd ps ds) (hv : Vals dvs ds)
    (hx : ∀ σ, PassesAt CX X σ (E σ)) (hd : (x == ("__debug__" : Str)) = false) : PE X (.Call (.Name x p) [] [] pos) (tCallSD sp dvs E tNil) := by
  refine ⟨fun pins s σ H Q I h => wpAny_Call_Name_kw (ld_glob I hg hm ?_ hd)⟩
  exact PySem.W.callWith_K0 I.kIn hk (run_fnSD (us := []) F hr hb hv (hx σ) I .nil h)
theorem snd_call (C : Cxt S Γ W Wx X) {f : Nat} {es : Es} {x : Expr} (h : chkE Γ (.call f es) x = true) (hes : ∀ as, chkEs Γ es as = true → ndj W (escs es) → PA X as (tAs S Wx X.K W es)) : Snd S Γ W Wx X (.call f es) x := by
  cases x <;> first | (simp [chkE] at h; done) | skip
  rename_i fn as kws pos
  cases fn <;> first | (simp [chkE] at h; done) | skip
  cases kws <;> first | (simp [chkE] at h; done) | skip
  rename_i nm npos
  simp only [chkE, Bool.and_eq_true, decide_eq_true_eq] at h
  obtain ⟨h1, h2, h3, h4⟩ := h
  obtain ⟨fa, fd, ps, k, dvs, dsV, F, hr, hm, hk, hb, hv⟩ := C.fn f nm h1
  obtain ⟨d1, d2⟩ := nodb_of h3
  have fin : ∀ {ρ : Env} {O : Addr → Prop} {H0 H H' : Hp} {σ : L2.St} {Q : VK} {ds : List PD} {vs : List V}, Rel X.K W O H0 ρ σ H → JG Wx X.K σ H (PostX X.K O H Q) (S.C f ds) → Same H H' → RXs X.K O H' vs ds → spD X.K dvs (S.C f) (vs ++ dvs) H' Q (WE Wx σ) := fun {ρ O H0 H H' σ Q ds vs} r p s rx => by
    refine ⟨vs, rfl, ds, O, (r.same s).dom, rx, ?_⟩
    have p2 := p.same s (P' := PostX X.K O H' Q) fun _ p => p.same s
    cases e2 : S.C f ds with
    | ok d => rw [e2] at p2; exact p2
    | exc c i => rw [e2] at p2; exact p2
    | bad => rw [e2] at p2; exact p2
  cases as with
  | nil =>
    cases es with
    | cons _ _ => simp [chkEs] at h4
    | nil =>
      refine Snd.of rfl fun n => ⟨_, pe_callS0 F hr (glb_of C.sc h2) hm hk hb hv (passAt C.tk) d1, fun σ H Q q => ?_, fun f => nomatch f⟩
      obtain ⟨ρ, O, H0, r, j⟩ := q
      simp only [evE, evEs] at j
      exact fin r j (Same.refl H) .nil
  | cons y ys =>
    have oks := okXs_of h4
    simp only [List.all_cons, Bool.and_eq_true] at oks
    refine Snd.of rfl fun n => ⟨_, pe_callSD F hr (glb_of C.sc h2) hm hk hb hv (passAt C.tk) (hes _ h4 n) d1 (star_of oks.1 ys X.env) (stars_of oks.2 X.env pos), fun σ H Q q => ?_, fun f => nomatch f⟩
    obtain ⟨ρ, O, H0, r, j⟩ := q
    simp only [evE] at j
    exact ⟨ρ, O, H0, r, j.bind.imp fun ds e p vs H' s rx => fin r p s rx⟩
theorem snd_callF (C : Cxt S Γ W Wx X) {f : Nat} {es : Es} {x : Expr} (h : chkE Γ (.callF f es) x = true) (hes : ∀ as, chkEs Γ es as = true → ndj W (escs es) → PA X as (tAs S Wx X.K W es)) : Snd S Γ W Wx X (.callF f es) x := by
  cases x <;> first | (simp [chkE] at h; done) | skip
  rename_i fn as kws pos
  cases fn <;> first | (simp [chkE] at h; done) | skip
  cases kws <;> first | (simp [chkE] at h; done) | skip
  rename_i nm npos
  simp only [chkE, Bool.and_eq_true, decide_eq_true_eq] at h
  obtain ⟨h1, h2, h3, h4⟩ := h
  obtain ⟨fa, fd, ps, k, dvs, dsV, F, hr, hm, hk, hb, hv⟩ := C.fnF f nm h1
  obtain ⟨d1, d2⟩ := nodb_of h3
  have fin : ∀ {ρ : Env} {O : Addr → Prop} {H0 H H' : Hp} {σ : L2.St} {Q : VK} {ds : List PD} {vs : List V}, Rel X.K W O H0 ρ σ H → JG Wx X.K σ H (fun d => PostF X.K O H Q d) (S.Cf f ds) → Same H H' → RXs X.K O H' vs ds → spDG X.K dvs (S.Cf f) (vs ++ dvs) H' Q (WE Wx σ) := fun {ρ O H0 H H' σ Q ds vs} r p s rx => by
    refine ⟨vs, rfl, ds, O, (r.same s).dom, rx, ?_⟩
    have p2 := p.same s (P' := PostF X.K O H' Q) fun _ p => p.same s
    cases e2 : S.Cf f ds with
    | ok d => rw [e2] at p2; exact p2
    | exc c i => rw [e2] at p2; exact p2
    | bad => rw [e2] at p2; exact p2
  cases as with
  | nil =>
    cases es with
    | cons _ _ => simp [chkEs] at h4
    | nil =>
      refine Snd.of rfl fun n => ⟨_, pe_callS0 F hr (glb_of C.sc h2) hm hk hb hv (passAt C.tk) d1, fun σ H Q q => ?_, fun _ σ H Q q => ?_⟩
      · obtain ⟨ρ, O, H0, r, j⟩ := q
        simp only [evE, evEs] at j
        exact fin r (JG.imp (show JG Wx X.K σ H (PostX X.K O H Q) (S.Cf f []) from j) fun d _ p => PostX.toF r.dom p) (Same.refl H) .nil
      · obtain ⟨ρ, O, H0, r, j⟩ := q
        simp only [evE, evEs] at j
        exact fin r (JG.imp (show JG Wx X.K σ H (fun d => isL d = true ∧ PostF X.K O H Q d) (S.Cf f []) from j) fun d _ p => p.2) (Same.refl H) .nil
  | cons y ys =>
    have oks := okXs_of h4
    simp only [List.all_cons, Bool.and_eq_true] at oks
    refine Snd.of rfl fun n => ⟨_, pe_callSD F hr (glb_of C.sc h2) hm hk hb hv (passAt C.tk) (hes _ h4 n) d1 (star_of oks.1 ys X.env) (stars_of oks.2 X.env pos), fun σ H Q q => ?_, fun _ σ H Q q => ?_⟩
    · obtain ⟨ρ, O, H0, r, j⟩ := q
      simp only [evE] at j
      exact ⟨ρ, O, H0, r, j.bind.imp fun ds e p vs H' s rx => fin r (p.imp fun d _ p => PostX.toF r.dom p) s rx⟩
    · obtain ⟨ρ, O, H0, r, j⟩ := q
      simp only [evE] at j
      exact ⟨ρ, O, H0, r, j.bind.imp fun ds e p vs H' s rx => fin r (p.imp fun d _ p => p.2) s rx⟩
theorem snd_bi (C : Cxt S Γ W Wx X) {b : Bi} {es : Es} {x : Expr} (h : chkE Γ (.bi b es) x = true) (hes : ∀ as, chkEs Γ es as = true → ndj W (pks es) → PA X as (tAp S Wx X.K W es)) : Snd S Γ W Wx X (.bi b es) x := by
  cases x <;> first | (simp [chkE] at h; done) | skip
  rename_i fn as kws pos
  cases fn <;> first | (simp [chkE] at h; done) | skip
  cases kws <;> first | (simp [chkE] at h; done) | skip
  rename_i nm npos
  simp only [chkE, Bool.and_eq_true, decide_eq_true_eq] at h
  obtain ⟨rfl, h2, h4, h5⟩ := h
  cases as with
  | nil => simp at h5
  | cons y ys =>
    have oks := okXs_of h4
    simp only [List.all_cons, Bool.and_eq_true] at oks
    have pe : ndj W (pks es) → PE X (.Call (.Name (biNm b) npos) (y :: ys) [] pos) (tCB (rBi X.K b) (tAp S Wx X.K W es)) := fun n => by
      cases b
      all_goals first
        | exact pe_callB (call_bi C.calm _) (glb_of C.sc h2) (C.bui _) (by decide +kernel) (hes _ h4 n) (by decide) (by decide) (star_of oks.1 ys X.env) (stars_of oks.2 X.env pos)
        | exact pe_callTy (call_bi C.calm _) (glb_of C.sc h2) (C.bui _) (by decide +kernel) (hes _ h4 n) (by decide) (by decide) (star_of oks.1 ys X.env) (stars_of oks.2 X.env pos)
    refine Snd.of rfl fun n => ⟨_, pe n, fun σ H Q q => ?_, fun _ σ H Q q => ?_⟩
    · obtain ⟨ρ, O, H0, r, j⟩ := q
      simp only [evE] at j
      exact ⟨ρ, O, H0, r, j.bind.imp fun ds e p vs H' s rx => ⟨O, ds, (r.same s).dom, rx, JG.retB (r.same s).dom (noX_bi b ds) (p.same s fun _ p => p.same s)⟩⟩
    · obtain ⟨ρ, O, H0, r, j⟩ := q
      simp only [evE] at j
      exact ⟨ρ, O, H0, r, j.bind.imp fun ds e p vs H' s rx => ⟨O, ds, (r.same s).dom, rx, JG.retF (noX_bi b ds) (p.same s fun _ p => ⟨p.1, p.2.same s⟩)⟩⟩

/-- a comparison in a chain: its answer is a bool -/
theorem cmp_bool {c : Cp} {d e t : PD} (h : cmpV c d e = .ok t) : ∃ k, t = .bool k := by
  cases c <;> cases d <;> cases e <;> simp only [cmpV] at h <;> first
    | (cases h; exact ⟨_, rfl⟩)
    | (split at h <;> first | (cases h; exact ⟨_, rfl⟩) | cases h)
    | cases h
theorem snd_chn (C : Cxt S Γ W Wx X) {c d : Cp} {a b e : E} {x : Expr} (h : chkE Γ (.chn c d a b e) x = true) (ha : ∀ y, chkE Γ a y = true → Snd S Γ W Wx X a y) (hb : ∀ y, chkE Γ b y = true → Snd S Γ W Wx X b y) (he : ∀ y, chkE Γ e y = true → Snd S Γ W Wx X e y) :
    Snd S Γ W Wx X (.chn c d a b e) x ∧ (ndj W (esc (.chn c d a b e)) → PT X x (tT S Wx X.K W (.chn c d a b e))) := by
  cases x <;> first | (simp [chkE] at h; done) | skip
  rename_i y ps zs pos
  rcases ps with _ | ⟨p, _ | ⟨q, _ | _⟩⟩ <;> rcases zs with _ | ⟨z, _ | ⟨w, _ | _⟩⟩ <;> first | (simp [chkE] at h; done) | skip
  simp only [chkE, Bool.and_eq_true, decide_eq_true_eq] at h
  obtain ⟨⟨rfl, rfl⟩, h1, h2, h3⟩ := h
  have hm : lastMarks [cpPy c, cpPy d] [z, w] = false := marks_of (okX_of h3) _
  have main : ∀ (σ : L2.St) (H : Hp) (ρ : Env) (O : Addr → Prop) (H0 : Hp) (P : PD → Prop) (Q : VK), Rel X.K W O H0 ρ σ H → JG Wx X.K σ H P (evE S (.chn c d a b e) ρ) →
      (∀ k H', Same H H' → P (.bool k) → Q (.bl k) H') → tChain (rV X.K (cmpV c)) (rV X.K (cmpV d)) (tP S Wx X.K W a) (tP S Wx X.K W b) (tP S Wx X.K W e) σ H Q := by
    intro σ H ρ O H0 P Q r j hQ
    simp only [evE] at j
    refine tP.seq r j fun t v H1 e1 s1 r1 rl1 j1 => tP.seq rl1 (j1.same s1 fun _ p => p) fun u w' H2 e2 s2 r2 rl2 j2 => ?_
    refine ⟨O, t, u, rl2.dom, r1.same s2, r2, ?_⟩
    have nx := noX_cmp c t u
    cases ec : cmpV c t u with
    | exc c' i => rw [ec] at nx; exact nx.elim
    | bad => rw [ec] at j2; exact j2
    | ok res =>
      rw [ec] at j2
      obtain ⟨k, rfl⟩ := cmp_bool ec
      have j3 : JG Wx X.K σ H1 P (if k = true then (evE S e ρ).bind fun w => cmpV d u w else .ok (.bool false)) := j2
      refine PostX.toB rl2.dom fun v3 H3 s3 rv3 => ?_
      cases rv3
      refine ⟨k, rfl, ?_⟩
      split
      · rw [if_pos ‹_›] at j3
        refine tP.seq (rl2.same s3) (j3.same (s2.trans s3) fun _ p => p) fun g w4 H4 e4 s4 r4 rl4 j4 => ?_
        refine ⟨O, u, g, rl4.dom, (r2.same s3).same s4, r4, ?_⟩
        have nx2 := noX_cmp d u g
        cases ed : cmpV d u g with
        | exc c' i => rw [ed] at nx2; exact nx2.elim
        | bad => rw [ed] at j4; exact j4
        | ok res2 =>
          rw [ed] at j4
          obtain ⟨k2, rfl⟩ := cmp_bool ed
          refine PostX.toB rl4.dom fun v5 H5 s5 rv5 => ?_
          cases rv5
          exact hQ k2 H5 (s1.trans (s2.trans (s3.trans (s4.trans s5)))) j4
      · rw [if_neg ‹_›] at j3
        exact hQ false H3 (s1.trans (s2.trans s3)) j3
  refine ⟨Snd.of rfl fun n => ⟨_, pe_chain (op_cmpV c (units65 C)) (op_cmpV d (units65 C)) ((ha y h1).lk n.l) ((hb z h2).lk n.r.l) ((he w h3).lk n.r.r) hm, fun σ H Q q => ?_, fun f => nomatch f⟩,
    fun n => PT.mono (pt_chain (op_cmpV c (units65 C)) (op_cmpV d (units65 C)) ((ha y h1).lk n.l) ((hb z h2).lk n.r.l) ((he w h3).lk n.r.r) hm) fun σ H Q q => ?_⟩
  · obtain ⟨ρ, O, H0, r, j⟩ := q
    exact main σ H ρ O H0 _ Q r j fun k H' s p => p _ _ s (.bl k)
  · obtain ⟨ρ, O, H0, r, j⟩ := q
    exact main σ H ρ O H0 _ _ r j fun k H' s p => by
      obtain ⟨k2, e2, p⟩ := p
      refine ⟨k, rfl, ?_⟩
      rw [PyData.bool.inj e2]
      exact p H' s

/-! ### and, or -/
theorem snd_ands {Γ : Gam} {W : List Nat} {X : Cx} {pos : Pos} : ∀ (es : Es) (as : List Expr), chkEs Γ es as = true → (∀ e y, esHas e es → chkE Γ e y = true → ndj W (esc e) → PE X y (tE S Wx X.K W e)) → ndj W (escs es) → es ≠ .nil → PE X (.BoolOp .And as pos) (tE S Wx X.K W (.ands es))
  | .nil, _, _, _, _, h => absurd rfl h
  | .cons e r, [], h, _, _, _ => by simp [chkEs] at h
  | .cons e .nil, [x], h, hs, n, _ => by
    simp only [chkEs, Bool.and_eq_true] at h
    refine PE.mono (pe_one (hs e x (.inl rfl) h.1 n.l)) fun σ H Q q => ?_
    obtain ⟨ρ, O, H0, r, j⟩ := q
    simp only [evE, evAnds] at j
    exact ⟨ρ, O, H0, r, j⟩
  | .cons e .nil, x :: y :: ys, h, _, _, _ => by simp [chkEs] at h
  | .cons e (.cons e2 r), [x], h, _, _, _ => by simp [chkEs] at h
  | .cons e (.cons e2 r), x :: y :: ys, h, hs, n, _ => by
    have h' := h
    rw [chkEs, Bool.and_eq_true] at h'
    refine PE.mono (pe_and (hs e x (.inl rfl) h'.1 n.l) (snd_ands (.cons e2 r) (y :: ys) h'.2 (fun e y m => hs e y (.inr m)) n.r (by simp))) fun σ H Q q => ?_
    obtain ⟨ρ, O, H0, r', j⟩ := q
    simp only [evE, evAnds] at j
    refine tE.seq r' j fun d v H1 e1 s1 r1 rl1 j1 => ?_
    cases d <;> first | exact j1.elim | skip
    rename_i k
    cases r1
    refine ⟨k, rfl, ?_⟩
    have j2 : JG Wx X.K σ H (PostX X.K O H Q) (if k = true then evAnds S (.cons e2 r) ρ else .ok (.bool false)) := j1
    split
    · rw [if_pos ‹_›] at j2
      exact ⟨ρ, O, H0, rl1, j2.same s1 fun _ p => p.same s1⟩
    · rw [if_neg ‹_›] at j2
      exact j2 _ _ s1 (.bl _)
theorem snd_ors {Γ : Gam} {W : List Nat} {X : Cx} {pos : Pos} : ∀ (es : Es) (as : List Expr), chkEs Γ es as = true → (∀ e y, esHas e es → chkE Γ e y = true → ndj W (esc e) → PE X y (tE S Wx X.K W e)) → ndj W (escs es) → es ≠ .nil → PE X (.BoolOp .Or as pos) (tE S Wx X.K W (.ors es))
  | .nil, _, _, _, _, h => absurd rfl h
  | .cons e r, [], h, _, _, _ => by simp [chkEs] at h
  | .cons e .nil, [x], h, hs, n, _ => by
    simp only [chkEs, Bool.and_eq_true] at h
    refine PE.mono (pe_one (hs e x (.inl rfl) h.1 n.l)) fun σ H Q q => ?_
    obtain ⟨ρ, O, H0, r, j⟩ := q
    simp only [evE, evOrs] at j
    exact ⟨ρ, O, H0, r, j⟩
  | .cons e .nil, x :: y :: ys, h, _, _, _ => by simp [chkEs] at h
  | .cons e (.cons e2 r), [x], h, _, _, _ => by simp [chkEs] at h
  | .cons e (.cons e2 r), x :: y :: ys, h, hs, n, _ => by
    have h' := h
    rw [chkEs, Bool.and_eq_true] at h'
    refine PE.mono (pe_or (hs e x (.inl rfl) h'.1 n.l) (snd_ors (.cons e2 r) (y :: ys) h'.2 (fun e y m => hs e y (.inr m)) n.r (by simp))) fun σ H Q q => ?_
    obtain ⟨ρ, O, H0, r', j⟩ := q
    simp only [evE, evOrs] at j
    refine tE.seq r' j fun d v H1 e1 s1 r1 rl1 j1 => ?_
    cases d <;> first | exact j1.elim | skip
    rename_i k
    cases r1
    refine ⟨k, rfl, ?_⟩
    have j2 : JG Wx X.K σ H (PostX X.K O H Q) (if k = true then .ok (.bool true) else evOrs S (.cons e2 r) ρ) := j1
    split
    · rw [if_pos ‹_›] at j2
      exact j2 _ _ s1 (.bl _)
    · rw [if_neg ‹_›] at j2
      exact ⟨ρ, O, H0, rl1, j2.same s1 fun _ p => p.same s1⟩
/-- .. as tests -/
theorem snd_andsT {Γ : Gam} {W : List Nat} {X : Cx} {pos : Pos} : ∀ (es : Es) (as : List Expr), chkEs Γ es as = true → tOks es = true → (∀ e y, esHas e es → chkE Γ e y = true → tOk e = true → ndj W (esc e) → PT X y (tT S Wx X.K W e)) → ndj W (escs es) → es ≠ .nil → PW X (.BoolOp .And as pos) (tT S Wx X.K W (.ands es))
  | .nil, _, _, _, _, _, h => absurd rfl h
  | .cons e r, [], h, _, _, _, _ => by simp [chkEs] at h
  | .cons e .nil, [x], h, t, hs, n, _ => by
    simp only [chkEs, Bool.and_eq_true] at h
    simp only [tOks, Bool.and_eq_true] at t
    refine PW.mono (pw_and1 (hs e x (.inl rfl) h.1 t.1 n.l)) fun σ H Q q => ?_
    obtain ⟨ρ, O, H0, r, j⟩ := q
    simp only [evE, evAnds] at j
    exact ⟨ρ, O, H0, r, j⟩
  | .cons e .nil, x :: y :: ys, h, _, _, _, _ => by simp [chkEs] at h
  | .cons e (.cons e2 r), [x], h, _, _, _, _ => by simp [chkEs] at h
  | .cons e (.cons e2 r), x :: y :: ys, h, t, hs, n, _ => by
    have h' := h
    rw [chkEs, Bool.and_eq_true] at h'
    have t' := t
    rw [tOks, Bool.and_eq_true] at t'
    refine PW.mono (pw_and (hs e x (.inl rfl) h'.1 t'.1 n.l) (snd_andsT (.cons e2 r) (y :: ys) h'.2 t'.2 (fun e y m => hs e y (.inr m)) n.r (by simp))) fun σ H Q q => ?_
    obtain ⟨ρ, O, H0, r', j⟩ := q
    simp only [evE, evAnds] at j
    refine ⟨ρ, O, H0, r', j.bind.imp fun d e1 j1 => ?_⟩
    cases d <;> first | exact j1.elim | skip
    rename_i k
    refine ⟨k, rfl, fun H' s => ?_⟩
    have j2 : JG Wx X.K σ H (fun d => ∃ k, d = PyData.bool k ∧ ∀ H', Same H H' → Q k H') (if k = true then evAnds S (.cons e2 r) ρ else .ok (.bool false)) := j1
    show if k = true then tT S Wx X.K W (.ands (.cons e2 r)) σ H' Q else Q false H'
    split
    · rw [if_pos ‹_›] at j2
      exact ⟨ρ, O, H0, r'.same s, j2.same s fun _ p => by
        obtain ⟨k, e, p⟩ := p
        exact ⟨k, e, fun H2 s2 => p H2 (s.trans s2)⟩⟩
    · rw [if_neg ‹_›] at j2
      obtain ⟨k2, e2, p⟩ := j2
      cases e2
      exact p H' s
theorem snd_orsT {Γ : Gam} {W : List Nat} {X : Cx} {pos : Pos} : ∀ (es : Es) (as : List Expr), chkEs Γ es as = true → tOks es = true → (∀ e y, esHas e es → chkE Γ e y = true → tOk e = true → ndj W (esc e) → PT X y (tT S Wx X.K W e)) → ndj W (escs es) → es ≠ .nil → PW X (.BoolOp .Or as pos) (tT S Wx X.K W (.ors es))
  | .nil, _, _, _, _, _, h => absurd rfl h
  | .cons e r, [], h, _, _, _, _ => by simp [chkEs] at h
  | .cons e .nil, [x], h, t, hs, n, _ => by
    simp only [chkEs, Bool.and_eq_true] at h
    simp only [tOks, Bool.and_eq_true] at t
    refine PW.mono (pw_or1 (hs e x (.inl rfl) h.1 t.1 n.l)) fun σ H Q q => ?_
    obtain ⟨ρ, O, H0, r, j⟩ := q
    simp only [evE, evOrs] at j
    exact ⟨ρ, O, H0, r, j⟩
  | .cons e .nil, x :: y :: ys, h, _, _, _, _ => by simp [chkEs] at h
  | .cons e (.cons e2 r), [x], h, _, _, _, _ => by simp [chkEs] at h
  | .cons e (.cons e2 r), x :: y :: ys, h, t, hs, n, _ => by
    have h' := h
    rw [chkEs, Bool.and_eq_true] at h'
    have t' := t
    rw [tOks, Bool.and_eq_true] at t'
    refine PW.mono (pw_or (hs e x (.inl rfl) h'.1 t'.1 n.l) (snd_orsT (.cons e2 r) (y :: ys) h'.2 t'.2 (fun e y m => hs e y (.inr m)) n.r (by simp))) fun σ H Q q => ?_
    obtain ⟨ρ, O, H0, r', j⟩ := q
    simp only [evE, evOrs] at j
    refine ⟨ρ, O, H0, r', j.bind.imp fun d e1 j1 => ?_⟩
    cases d <;> first | exact j1.elim | skip
    rename_i k
    refine ⟨k, rfl, fun H' s => ?_⟩
    have j2 : JG Wx X.K σ H (fun d => ∃ k, d = PyData.bool k ∧ ∀ H', Same H H' → Q k H') (if k = true then .ok (.bool true) else evOrs S (.cons e2 r) ρ) := j1
    show if k = true then Q true H' else tT S Wx X.K W (.ors (.cons e2 r)) σ H' Q
    split
    · rw [if_pos ‹_›] at j2
      obtain ⟨k2, e2, p⟩ := j2
      cases e2
      exact p H' s
    · rw [if_neg ‹_›] at j2
      exact ⟨ρ, O, H0, r'.same s, j2.same s fun _ p => by
        obtain ⟨k, e, p⟩ := p
        exact ⟨k, e, fun H2 s2 => p H2 (s.trans s2)⟩⟩
end
end Fe
set_option Elab.async false
set_option linter.all false
set_option maxRecDepth 100000
set_option maxHeartbeats 4000000
/-! Fe, part F: targets, what is walked, comprehensions; all expressions. -/
namespace Fe
open PySem PySem.Spec PyProof.Rows L2

/-! ### slots set, slots forgotten -/
theorem get_set {α : Type} {l : List α} {i j : Nat} {a : α} : (l.set i a)[j]? = if i = j then (if i < l.length then some a else none) else l[j]? := by
  rw [List.getElem?_set]
theorem Rel.set {K : PySem.W.Frag} {W : List Nat} {O : Addr → Prop} {H0 : Hp} {ρ : Env} {σ : L2.St} {H : Hp} {i : Nat} {v : V} {d : PD} (r : Rel K W O H0 ρ σ H) (hi : i ∉ W) (rx : RX K O H v d) :
    Rel K W O H0 (ρ.set i (some d)) (σ.set i (some v)) H := by
  have ne : ∀ {j : Nat}, j ∈ W → i ≠ j := fun hj e => hi (e ▸ hj)
  refine ⟨by simp [r.len], fun j e hj h => ?_, fun j e hj h => ?_, r.dom, r.sam⟩
  · rw [get_set] at h ⊢
    by_cases c : i = j
    · rw [if_pos c] at h ⊢
      rw [r.len]
      split at h
      · rename_i l
        rw [if_pos l]
        have : d = e := by simpa using h
        exact ⟨v, rfl, this ▸ rx⟩
      · cases h
    · rw [if_neg c] at h ⊢
      exact r.val j e hj h
  · rw [get_set, if_neg (ne hj)] at h
    obtain ⟨a, h1, h2, h3, h4, h5⟩ := r.own j e hj h
    refine ⟨a, by rw [get_set, if_neg (ne hj)]; exact h1, h2, h3, h4, fun k e2 hk nk h6 => ?_⟩
    rw [get_set, if_neg (ne hk)] at h6 ⊢
    exact h5 k e2 hk nk h6
theorem Rel.forget {K : PySem.W.Frag} {W : List Nat} {O : Addr → Prop} {H0 : Hp} {ρ : Env} {σ : L2.St} {H : Hp} (r : Rel K W O H0 ρ σ H) (i : Nat) : Rel K W O H0 (ρ.set i none) (σ.set i none) H := by
  have key : ∀ {j : Nat} {e : PD}, (ρ.set i none)[j]? = some (some e) → i ≠ j ∧ ρ[j]? = some (some e) := fun {j e} h => by
    rw [get_set] at h
    split at h
    · split at h <;> cases h
    · exact ⟨‹_›, h⟩
  refine ⟨by simp [r.len], fun j e hj h => ?_, fun j e hj h => ?_, r.dom, r.sam⟩
  · obtain ⟨c, h⟩ := key h
    rw [get_set, if_neg c]
    exact r.val j e hj h
  · obtain ⟨c, h⟩ := key h
    obtain ⟨a, h1, h2, h3, h4, h5⟩ := r.own j e hj h
    refine ⟨a, by rw [get_set, if_neg c]; exact h1, h2, h3, h4, fun k e2 hk nk h6 => ?_⟩
    obtain ⟨c2, h6⟩ := key h6
    rw [get_set, if_neg c2]
    exact h5 k e2 hk nk h6
theorem Rel.wipe {K : PySem.W.Frag} {W : List Nat} {O : Addr → Prop} {H0 : Hp} {ρ : Env} {σ : L2.St} {H : Hp} (r : Rel K W O H0 ρ σ H) : ∀ vs : List Nat, Rel K W O H0 (wipeE ρ vs) (L2.wipe σ vs) H
  | [] => r
  | v :: vs => (Rel.wipe r vs).forget v
/-- owned things grow, heaps change: what the slots hold stays -/
theorem Rel.lift {K : PySem.W.Frag} {W : List Nat} {O O' : Addr → Prop} {H0 : Hp} {ρ : Env} {σ : L2.St} {H H' : Hp} (r : Rel K W O H0 ρ σ H) (L : Lift O H O' H') (sub : ∀ a, O a → O' a) (dom : Dom O' H') (sam : Same H0 H')
    (eq : ∀ i d a, i ∈ W → ρ[i]? = some (some d) → σ[i]? = some (some (.ref a)) → H' a = H a) : Rel K W O' H0 ρ σ H' :=
  ⟨r.len, fun i d n e => by
    obtain ⟨v, e1, h⟩ := r.val i d n e
    exact ⟨v, e1, h.lift L⟩, fun i d n e => by
    obtain ⟨a, e1, h1, h2, h3, h4⟩ := r.own i d n e
    exact ⟨a, e1, sub a h1, h2, h3.lift L (eq i d a n e e1), h4⟩, dom, sam⟩

/-! ### targets -/
mutual
def tgL : Tg → List Nat
  | .nm i => [i]
  | .tp ts => tgLs ts
def tgLs : List Tg → List Nat
  | [] => []
  | t :: ts => tgL t ++ tgLs ts
end
section
variable (K : PySem.W.Frag) (W : List Nat)
def gT (tg : Tg) : TG := fun v σ H Q => ∃ ρ O H0 d ρ', Rel K W O H0 ρ σ H ∧ RX K O H v d ∧ tgSet tg d ρ = some ρ' ∧
  ∀ σ', Rel K W O H0 ρ' σ' H → σ'.length = σ.length → (∀ i, i ∉ tgL tg → σ'[i]? = σ[i]?) → Q σ' H
def gTs (ts : List Tg) : TGs := fun vs σ H Q => ∃ ρ O H0 ds ρ', Rel K W O H0 ρ σ H ∧ RXs K O H vs ds ∧ tgSets ts ds ρ = some ρ' ∧
  ∀ σ', Rel K W O H0 ρ' σ' H → σ'.length = σ.length → (∀ i, i ∉ tgLs ts → σ'[i]? = σ[i]?) → Q σ' H
end
theorem PGs.mono {X : Cx} {e : List Expr} {t t' : TGs} (h : PGs X e t) (k : ∀ v σ H Q, t' v σ H Q → t v σ H Q) : PGs X e t' := ⟨fun pins s σ H v u Q I r q => h.run pins s σ H v u Q I r (k v σ H Q q)⟩
def noSt : Expr → Bool
  | .Starred .. => false
  | _ => true
theorem asg_cons {e : Expr} (h : noSt e = true) (es : List Expr) (env : PySem.Env) : assignEach (e :: es) env = (false, assign e env) :: assignEach es env := by
  cases e <;> first | rfl | cases h
theorem chkTg_noSt {Γ : Gam} {t : Tg} {e : Expr} (h : chkTg Γ t e = true) : noSt e = true := by
  cases t <;> cases e <;> first | rfl | (simp [chkTg] at h)
theorem chkTgs_len {Γ : Gam} : ∀ {ts : List Tg} {es : List Expr}, chkTgs Γ ts es = true → ts.length = es.length ∧ ∀ env : PySem.Env, (assignEach es env).length = es.length ∧ (assignEach es env).findIdx? (·.1) = none
  | [], [], _ => ⟨rfl, fun _ => ⟨rfl, rfl⟩⟩
  | [], _ :: _, h => by simp [chkTgs] at h
  | _ :: _, [], h => by simp [chkTgs] at h
  | t :: ts, e :: es, h => by
    simp only [chkTgs, Bool.and_eq_true] at h
    obtain ⟨l, k⟩ := chkTgs_len h.2
    refine ⟨by simp [l], fun env => ?_⟩
    obtain ⟨k1, k2⟩ := k env
    rw [asg_cons (chkTg_noSt h.1)]
    refine ⟨by simp [k1], ?_⟩
    rw [List.findIdx?_cons]
    simp [k2]
theorem tgSets_len {ts : List Tg} {ds : List PD} {ρ ρ' : Env} (h : tgSets ts ds ρ = some ρ') : ts.length = ds.length := by
  induction ts generalizing ds ρ with
  | nil => cases ds with
    | nil => rfl
    | cons _ _ => simp [tgSets] at h
  | cons t ts ih => cases ds with
    | nil => simp [tgSets] at h
    | cons d ds =>
      simp only [tgSets] at h
      split at h
      · simp [ih h]
      · cases h
theorem PG.or {X : Cx} {e : Expr} {t t' : TG} (h : PG X e t) (h' : PG X e t') : PG X e (fun v σ H Q => t v σ H Q ∨ t' v σ H Q) := ⟨fun pins s σ H v u Q I r q => q.elim (h.run pins s σ H v u Q I r) (h'.run pins s σ H v u Q I r)⟩
section
variable {S : Sig} {Γ : Gam} {W : List Nat} {Wx : WX} {X : Cx}
mutual
theorem snd_tg (C : Cxt S Γ W Wx X) : ∀ (t : Tg) (e : Expr), chkTg Γ t e = true → PG X e (gT X.K W t)
  | .nm i, e, h => by
    cases e <;> first | (simp [chkTg] at h; done) | skip
    rename_i x pos
    simp only [chkTg, Bool.and_eq_true, decide_eq_true_eq] at h
    obtain ⟨h1, h2, h3⟩ := h
    obtain ⟨g1, g2⟩ := C.sto x h2
    refine PG.mono (pg_name (i := i) (by rw [C.N]; exact C.nd) (by rw [C.N]; exact h1) g1 g2) fun v σ H Q q => ?_
    obtain ⟨ρ, O, H0, d, ρ', r, rx, e1, q⟩ := q
    simp only [tgSet, Option.some.injEq] at e1
    subst e1
    refine q _ (r.set (fun z => h3 (C.sub i z)) rx) (by simp) fun j hj => ?_
    rw [get_set, if_neg (fun e => hj (by simp [tgL, e]))]
  | .tp ts, e, h => by
    cases e <;> first | (simp [chkTg] at h; done) | skip
    rename_i es k pos
    simp only [chkTg] at h
    obtain ⟨l, k2⟩ := chkTgs_len h
    obtain ⟨l1, l2⟩ := k2 X.env
    refine PG.mono (PG.or (pg_tup C.calm (snd_tgs C ts es h) l1 l2) (pg_lst C.calm (snd_tgs C ts es h) l1 l2)) fun v σ H Q q => ?_
    obtain ⟨ρ, O, H0, d, ρ', r, rx, e1, q⟩ := q
    cases d <;> first | (simp [tgSet] at e1; done) | skip
    · rename_i ds
      simp only [tgSet] at e1
      cases rx with
      | lst ho hs rs =>
        refine .inr ⟨_, _, rfl, .inl hs, ?_, ρ, O, H0, ds, ρ', r, rs, e1, q⟩
        rw [rs.length, ← tgSets_len e1, l]
    · rename_i ds
      simp only [tgSet] at e1
      cases rx with
      | tup hs rs =>
        refine .inl ⟨_, _, rfl, hs, ?_, ρ, O, H0, ds, ρ', r, rs, e1, q⟩
        rw [rs.length, ← tgSets_len e1, l]
theorem snd_tgs (C : Cxt S Γ W Wx X) : ∀ (ts : List Tg) (es : List Expr), chkTgs Γ ts es = true → PGs X es (gTs X.K W ts)
  | [], [], _ => PGs.mono pgs_nil fun v σ H Q q => by
    obtain ⟨ρ, O, H0, ds, ρ', r, rx, e1, q⟩ := q
    cases ds with
    | nil =>
      cases rx
      simp only [tgSets, Option.some.injEq] at e1
      subst e1
      exact ⟨rfl, q σ r rfl fun _ _ => rfl⟩
    | cons _ _ => simp [tgSets] at e1
  | [], _ :: _, h => by simp [chkTgs] at h
  | _ :: _, [], h => by simp [chkTgs] at h
  | t :: ts, e :: es, h => by
    have h' := h
    simp only [chkTgs, Bool.and_eq_true] at h'
    refine PGs.mono (pgs_cons (snd_tg C t e h'.1) (snd_tgs C ts es h'.2) (by rw [asg_cons (chkTg_noSt h'.1)]; rfl)) fun v σ H Q q => ?_
    obtain ⟨ρ, O, H0, ds, ρ', r, rx, e1, q⟩ := q
    cases ds with
    | nil => simp [tgSets] at e1
    | cons d ds =>
      cases rx with
      | cons rx rxs =>
        simp only [tgSets] at e1
        split at e1
        · rename_i ρ1 e2
          refine ⟨_, _, rfl, ρ, O, H0, d, ρ1, r, rx, e2, fun σ1 r1 l1 k1 => ⟨ρ1, O, H0, ds, ρ', r1, rxs, e1, fun σ2 r2 l2 k2 => q σ2 r2 (l2.trans l1) fun i hi => ?_⟩⟩
          have hi' : i ∉ tgL t ∧ i ∉ tgLs ts := by simpa [tgLs] using hi
          rw [k2 i hi'.2, k1 i hi'.1]
        · cases e1
end
end

/-! ### what is walked -/
structure ItSrc (K : PySem.W.Frag) (J : L2.It) (items : List PD) (roots : List Addr) (Keep : (Addr → Prop) → Hp → Prop) : Prop where
  go : ∀ O i H, Keep O H → i < items.length → J.go i H
  stop : ∀ O i H, Keep O H → items.length ≤ i → J.stop i H
  yld : ∀ O i H x H', Keep O H → i < items.length → J.yld i H x H' → ∃ d, items[i]? = some d ∧ Same H H' ∧ RX K O H' x d
  lift : ∀ O H O' H', Lift O H O' H' → (∀ a ∈ roots, H' a = H a) → Keep O H → Keep O' H'
  there : ∀ O H a, Keep O H → a ∈ roots → H a ≠ none
/-- a list that is kept -/
structure LKp (K : PySem.W.Frag) (a : Addr) (ds : List PD) (roots : List Addr) (Keep : (Addr → Prop) → Hp → Prop) : Prop where
  rd : ∀ O H, Keep O H → ∃ xs, Rd H a (.lst xs) ∧ RXs K O H xs ds
  lift : ∀ O H O' H', Lift O H O' H' → (∀ a ∈ roots, H' a = H a) → Keep O H → Keep O' H'
  there : ∀ O H a, Keep O H → a ∈ roots → H a ≠ none
theorem lkp_x {K : PySem.W.Frag} {a : Addr} {xs : List V} {ds : List PD} : LKp K a ds [] (fun O H => ¬ O a ∧ Rd H a (.lst xs) ∧ RXs K O H xs ds) where
  rd := fun O H k => ⟨xs, k.2⟩
  lift := fun O H O' H' L _ k => ⟨L.ow _ _ k.1 k.2.1, L.rd _ _ k.1 k.2.1, k.2.2.lift L⟩
  there := fun _ _ _ _ h => by cases h
theorem lkp_o {K : PySem.W.Frag} {a : Addr} {xs : List V} {ds : List PD} : LKp K a ds [a] (fun O H => H a = some (.lst xs) ∧ RXs K O H xs ds) where
  rd := fun O H k => ⟨xs, .inl k.1, k.2⟩
  lift := fun O H O' H' L e k => ⟨(e a (by simp)).trans k.1, k.2.lift L⟩
  there := fun _ _ b k h => by
    have e : b = a := by simpa using h
    rw [e, k.1]
    simp
/-- a tuple that is kept -/
structure TKp (K : PySem.W.Frag) (a : Addr) (ds : List PD) (Keep : (Addr → Prop) → Hp → Prop) : Prop where
  rd : ∀ O H, Keep O H → ∃ xs, SqT K H a xs ∧ RXs K O H xs ds
  lift : ∀ O H O' H', Lift O H O' H' → Keep O H → Keep O' H'
theorem tkp {K : PySem.W.Frag} {a : Addr} {xs : List V} {ds : List PD} : TKp K a ds (fun O H => SqT K H a xs ∧ RXs K O H xs ds) where
  rd := fun O H k => ⟨xs, k⟩
  lift := fun O H O' H' L k => ⟨by
    rcases k.1 with h | h
    · exact .inl (L.tp _ _ h)
    · exact .inr h, k.2.lift L⟩
section
variable {K : PySem.W.Frag} {a b : Addr} {ds es : List PD} {roots r1 r2 : List Addr} {Keep K1 K2 : (Addr → Prop) → Hp → Prop}
theorem src_l (L : LKp K a ds roots Keep) : ItSrc K (Itl K a) ds roots Keep where
  go := fun O i H k h => by
    obtain ⟨xs, h1, r⟩ := L.rd O H k
    have hl : i < xs.length := by rw [r.length]; exact h
    exact ⟨xs, xs[i], .inl h1, by simp [hl]⟩
  stop := fun O i H k h => by
    obtain ⟨xs, h1, r⟩ := L.rd O H k
    exact ⟨xs, .inl h1, by rw [r.length]; exact h⟩
  yld := fun O i H x H' k _ h => by
    obtain ⟨xs, h1, r⟩ := L.rd O H k
    obtain ⟨rfl, h⟩ := h
    obtain ⟨d, e, rx⟩ := r.get' (h xs (.inl h1))
    exact ⟨d, e, Same.refl _, rx⟩
  lift := L.lift
  there := L.there
theorem src_t (L : TKp K a ds Keep) : ItSrc K (Itt K a) ds [] Keep where
  go := fun O i H k h => by
    obtain ⟨xs, h1, r⟩ := L.rd O H k
    have hl : i < xs.length := by rw [r.length]; exact h
    exact ⟨xs, xs[i], h1, by simp [hl]⟩
  stop := fun O i H k h => by
    obtain ⟨xs, h1, r⟩ := L.rd O H k
    exact ⟨xs, h1, by rw [r.length]; exact h⟩
  yld := fun O i H x H' k _ h => by
    obtain ⟨xs, h1, r⟩ := L.rd O H k
    obtain ⟨rfl, h⟩ := h
    obtain ⟨d, e, rx⟩ := r.get' (h xs h1)
    exact ⟨d, e, Same.refl _, rx⟩
  lift := fun O H O' H' l _ k => L.lift O H O' H' l k
  there := fun _ _ _ _ h => by cases h
theorem src_r (lo : Int) (n : Nat) : ItSrc K (Itr lo n) (rngV lo n) [] (fun _ _ => True) where
  go := fun O i H k h => by simpa [rngV, Itr] using h
  stop := fun O i H k h => by simpa [rngV, Itr] using h
  yld := fun O i H x H' k l h => by
    obtain ⟨rfl, rfl⟩ := h
    have l' : i < n := by simpa [rngV] using l
    exact ⟨.int (lo + (i : Nat)), by simp [rngV, l'], Same.refl _, .int _⟩
  lift := fun _ _ _ _ _ _ _ => trivial
  there := fun _ _ _ _ h => by cases h
theorem src_rc (lo c : Int) (n : Nat) : ItSrc K (Itc lo c n) (rngC lo c n) [] (fun _ _ => True) where
  go := fun O i H k h => by simpa [rngC, Itc] using h
  stop := fun O i H k h => by simpa [rngC, Itc] using h
  yld := fun O i H x H' k l h => by
    obtain ⟨rfl, rfl⟩ := h
    have l' : i < n := by simpa [rngC] using l
    exact ⟨.int (lo + (i : Nat) * c), by simp [rngC, l'], Same.refl _, .int _⟩
  lift := fun _ _ _ _ _ _ _ => trivial
  there := fun _ _ _ _ h => by cases h
theorem zip_len {xs ys : List PD} : (zipV xs ys).length = min xs.length ys.length := by simp [zipV]
theorem zip_get {xs ys : List PD} {i : Nat} {d e : PD} (h1 : xs[i]? = some d) (h2 : ys[i]? = some e) : (zipV xs ys)[i]? = some (.tuple [d, e]) := by
  simp [zipV, List.getElem?_zipWith, h1, h2]
theorem src_z (L : LKp K a ds r1 K1) (M : LKp K b es r2 K2) : ItSrc K (Itz K a b) (zipV ds es) (r1 ++ r2) (fun O H => K1 O H ∧ K2 O H) where
  go := fun O i H k h => by
    obtain ⟨xs, h1, r⟩ := L.rd O H k.1
    obtain ⟨ys, h2, r'⟩ := M.rd O H k.2
    rw [zip_len] at h
    have hl : i < xs.length := by rw [r.length]; omega
    have hm : i < ys.length := by rw [r'.length]; omega
    exact ⟨xs, ys, xs[i], ys[i], .inl h1, .inl h2, by simp [hl], by simp [hm]⟩
  stop := fun O i H k h => by
    obtain ⟨xs, h1, r⟩ := L.rd O H k.1
    obtain ⟨ys, h2, r'⟩ := M.rd O H k.2
    rw [zip_len] at h
    refine ⟨xs, ys, .inl h1, .inl h2, ?_⟩
    rw [r.length, r'.length]
    omega
  yld := fun O i H x H' k _ h => by
    obtain ⟨xs, h1, r⟩ := L.rd O H k.1
    obtain ⟨ys, h2, r'⟩ := M.rd O H k.2
    obtain ⟨T, x', y', rfl, nT, rfl, g1, g2⟩ := h
    obtain ⟨d, e1, rx⟩ := r.get' (g1 xs (.inl h1))
    obtain ⟨e, e2, ry⟩ := r'.get' (g2 ys (.inl h2))
    exact ⟨_, zip_get e1 e2, same_new nT, .tup (.inl (.inl upd_same)) (.cons (rx.same (same_new nT)) (.cons (ry.same (same_new nT)) .nil))⟩
  lift := fun O H O' H' l e k => ⟨L.lift O H O' H' l (fun c hc => e c (List.mem_append_left _ hc)) k.1, M.lift O H O' H' l (fun c hc => e c (List.mem_append_right _ hc)) k.2⟩
  there := fun O H c k h => (List.mem_append.mp h).elim (L.there O H c k.1) (M.there O H c k.2)
theorem src_zt (L : TKp K a ds K1) (M : TKp K b es K2) : ItSrc K (RZ.ItzT K a b) (zipV ds es) [] (fun O H => K1 O H ∧ K2 O H) where
  go := fun O i H k h => by
    obtain ⟨xs, h1, r⟩ := L.rd O H k.1
    obtain ⟨ys, h2, r'⟩ := M.rd O H k.2
    rw [zip_len] at h
    have hl : i < xs.length := by rw [r.length]; omega
    have hm : i < ys.length := by rw [r'.length]; omega
    exact ⟨xs, ys, xs[i], ys[i], h1, h2, by simp [hl], by simp [hm]⟩
  stop := fun O i H k h => by
    obtain ⟨xs, h1, r⟩ := L.rd O H k.1
    obtain ⟨ys, h2, r'⟩ := M.rd O H k.2
    rw [zip_len] at h
    refine ⟨xs, ys, h1, h2, ?_⟩
    rw [r.length, r'.length]
    omega
  yld := fun O i H x H' k _ h => by
    obtain ⟨xs, h1, r⟩ := L.rd O H k.1
    obtain ⟨ys, h2, r'⟩ := M.rd O H k.2
    obtain ⟨T, x', y', rfl, nT, rfl, g1, g2⟩ := h
    obtain ⟨d, e1, rx⟩ := r.get' (g1 xs h1)
    obtain ⟨e, e2, ry⟩ := r'.get' (g2 ys h2)
    exact ⟨_, zip_get e1 e2, same_new nT, .tup (.inl (.inl upd_same)) (.cons (rx.same (same_new nT)) (.cons (ry.same (same_new nT)) .nil))⟩
  lift := fun O H O' H' l _ k => ⟨L.lift O H O' H' l k.1, M.lift O H O' H' l k.2⟩
  there := fun _ _ _ _ h => by cases h
theorem enum_len : ∀ (n : Nat) (ds : List PD), (enumV n ds).length = ds.length
  | _, [] => rfl
  | n, d :: ds => by simp [enumV, enum_len (n + 1) ds]
theorem enum_get : ∀ (n : Nat) {ds : List PD} {i : Nat} {d : PD}, ds[i]? = some d → (enumV n ds)[i]? = some (.tuple [.int ((n + i : Nat) : Int), d])
  | _, [], _, _, h => by simp at h
  | n, x :: ds, 0, d, h => by
    simp at h
    simp [enumV, h]
  | n, x :: ds, i + 1, d, h => by
    have := enum_get (n + 1) (i := i) (ds := ds) (d := d) (by simpa using h)
    rw [show n + 1 + i = n + (i + 1) by omega] at this
    simpa [enumV] using this
theorem src_eT (L : TKp K a ds Keep) : ItSrc K (IteT K a) (enumV 0 ds) [] Keep where
  go := fun O i H k h => by
    obtain ⟨xs, h1, r⟩ := L.rd O H k
    rw [enum_len] at h
    have hl : i < xs.length := by rw [r.length]; exact h
    exact ⟨xs, xs[i], h1, by simp [hl]⟩
  stop := fun O i H k h => by
    obtain ⟨xs, h1, r⟩ := L.rd O H k
    rw [enum_len] at h
    exact ⟨xs, h1, by rw [r.length]; exact h⟩
  yld := fun O i H x H' k _ h => by
    obtain ⟨xs, h1, r⟩ := L.rd O H k
    obtain ⟨T, x', rfl, nT, rfl, g1⟩ := h
    obtain ⟨d, e1, rx⟩ := r.get' (g1 xs h1)
    have e2 := enum_get 0 e1
    rw [Nat.zero_add] at e2
    exact ⟨_, e2, same_new nT, .tup (.inl (.inl upd_same)) (.cons (.int _) (.cons (rx.same (same_new nT)) .nil))⟩
  lift := fun O H O' H' l _ k => L.lift O H O' H' l k
  there := fun _ _ _ _ h => by cases h
theorem src_e (L : LKp K a ds roots Keep) : ItSrc K (Ite K a) (enumV 0 ds) roots Keep where
  go := fun O i H k h => by
    obtain ⟨xs, h1, r⟩ := L.rd O H k
    rw [enum_len] at h
    have hl : i < xs.length := by rw [r.length]; exact h
    exact ⟨xs, xs[i], .inl h1, by simp [hl]⟩
  stop := fun O i H k h => by
    obtain ⟨xs, h1, r⟩ := L.rd O H k
    rw [enum_len] at h
    exact ⟨xs, .inl h1, by rw [r.length]; exact h⟩
  yld := fun O i H x H' k _ h => by
    obtain ⟨xs, h1, r⟩ := L.rd O H k
    obtain ⟨T, x', rfl, nT, rfl, g1⟩ := h
    obtain ⟨d, e1, rx⟩ := r.get' (g1 xs (.inl h1))
    have e2 := enum_get 0 e1
    rw [Nat.zero_add] at e2
    exact ⟨_, e2, same_new nT, .tup (.inl (.inl upd_same)) (.cons (.int _) (.cons (rx.same (same_new nT)) .nil))⟩
  lift := L.lift
  there := L.there
end
theorem RS.lkp {K : PySem.W.Frag} {O : Addr → Prop} {H : Hp} {v : V} {ds : List PD} (h : RS K O H v (.list ds)) : ∃ a roots Keep, v = .ref a ∧ LKp K a ds roots Keep ∧ Keep O H := by
  rcases h with h | ⟨a, e, h⟩
  · cases h with
    | lst ho h r => exact ⟨_, _, _, rfl, lkp_x, ho, h, r⟩
  · obtain ⟨xs, e', r⟩ := h
    exact ⟨a, _, _, e, lkp_o, e', r⟩
theorem RX.lkp {K : PySem.W.Frag} {O : Addr → Prop} {H : Hp} {v : V} {ds : List PD} (h : RX K O H v (.list ds)) : ∃ a Keep, v = .ref a ∧ LKp K a ds [] Keep ∧ Keep O H := by
  cases h with
  | lst ho h r => exact ⟨_, _, rfl, lkp_x, ho, h, r⟩
theorem RS.tkp {K : PySem.W.Frag} {O : Addr → Prop} {H : Hp} {v : V} {ds : List PD} (h : RS K O H v (.tuple ds)) : ∃ a Keep, v = .ref a ∧ TKp K a ds Keep ∧ Keep O H := by
  obtain ⟨a, xs, e, h, r⟩ := h.tup
  exact ⟨a, _, e, Fe.tkp, h, r⟩
/-- a source stands: looked at (any roots), or taken (none) -/
def SrcAt (K : PySem.W.Frag) (tk : Bool) (O : Addr → Prop) (J : L2.It) (items : List PD) (H : Hp) : Prop :=
  ∃ roots Keep, ItSrc K J items roots Keep ∧ Keep O H ∧ (tk = true → roots = [])
section
variable (S : Sig) (Wx : WX) (K : PySem.W.Frag) (W : List Nat)
def tI (tk : Bool) (it : It) : TI := fun σ H R => ∃ ρ O H0, Rel K W O H0 ρ σ H ∧ JG Wx K σ H (fun items => ∀ J H', Same H H' → SrcAt K tk O J items H' → R J H') (evIt S it ρ)
end
theorem PI.or {X : Cx} {tg e : Expr} {t t' : TI} (h : PI X tg e t) (h' : PI X tg e t') : PI X tg e (fun σ H R => t σ H R ∨ t' σ H R) :=
  ⟨fun pins s σ H R I q => q.elim (h.run pins s σ H R I) (h'.run pins s σ H R I)⟩

/-! ### the two ways to look -/
def RM (tk : Bool) (K : PySem.W.Frag) (O : Addr → Prop) (H : Hp) (v : V) (d : PD) : Prop := match tk with
  | true => RX K O H v d
  | false => RS K O H v d
theorem RM.rs {tk : Bool} {K : PySem.W.Frag} {O : Addr → Prop} {H : Hp} {v : V} {d : PD} (h : RM tk K O H v d) : RS K O H v d := by
  cases tk
  · exact h
  · exact RX.rs h
theorem RM.same {tk : Bool} {K : PySem.W.Frag} {O : Addr → Prop} {H H' : Hp} {v : V} {d : PD} (h : RM tk K O H v d) (s : Same H H') : RM tk K O H' v d := by
  cases tk
  · exact RS.same s h
  · exact RX.same s h
theorem RM.lkp {tk : Bool} {K : PySem.W.Frag} {O : Addr → Prop} {H : Hp} {v : V} {ds : List PD} (h : RM tk K O H v (.list ds)) : ∃ a roots Keep, v = .ref a ∧ LKp K a ds roots Keep ∧ Keep O H ∧ (tk = true → roots = []) := by
  cases tk
  · obtain ⟨a, r, k, e, l, h⟩ := RS.lkp h
    exact ⟨a, r, k, e, l, h, fun z => by cases z⟩
  · obtain ⟨a, k, e, l, h⟩ := RX.lkp h
    exact ⟨a, [], k, e, l, h, fun _ => rfl⟩
def tM (tk : Bool) (S : Sig) (Wx : WX) (K : PySem.W.Frag) (W : List Nat) (e : E) : TE := match tk with
  | true => tE S Wx K W e
  | false => tP S Wx K W e
def escM (tk : Bool) (e : E) : List Nat := match tk with
  | true => esc e
  | false => pk e
def escItM (tk : Bool) : It → List Nat
  | .e a | .r1 a | .enum a => escM tk a
  | .r2 a b | .zip a b => escM tk a ++ escM tk b
  | .r3 a b c => escM tk a ++ (escM tk b ++ escM tk c)
theorem escIt_eq (it : It) : escIt it = escItM false it := by cases it <;> rfl
section
variable {S : Sig} {Γ : Gam} {W : List Nat} {Wx : WX} {X : Cx} {tk : Bool}
theorem Snd.md {e : E} {x : Expr} (h : Snd S Γ W Wx X e x) (n : ndj W (escM tk e)) : PE X x (tM tk S Wx X.K W e) := by
  cases tk
  · exact h.lk n
  · exact h.tk n
theorem tM.seq {a : E} {σ : L2.St} {H : Hp} {Q : VK} {α : Type} {P : α → Prop} {ρ : Env} {O : Addr → Prop} {H0 : Hp} {g : PD → R α} (r : Rel X.K W O H0 ρ σ H) (j : JG Wx X.K σ H P ((evE S a ρ).bind g))
    (k : ∀ d v H', evE S a ρ = .ok d → Same H H' → RM tk X.K O H' v d → Rel X.K W O H0 ρ σ H' → JG Wx X.K σ H P (g d) → Q v H') : tM tk S Wx X.K W a σ H Q := by
  cases tk
  · exact tP.seq r j k
  · exact tE.seq r j k
theorem pa1 {x : Expr} {t : TE} (o : okX x = true) (h : PE X x t) : PA X [x] (tCons t tNil) := pa_cons h pa_nil (star_of o [] X.env)
theorem pa2 {x y : Expr} {t u : TE} (o : okX x = true) (o2 : okX y = true) (h : PE X x t) (h2 : PE X y u) : PA X [x, y] (tCons t (tCons u tNil)) := pa_cons h (pa1 o2 h2) (star_of o [y] X.env)
theorem pa3 {x y z : Expr} {t u w : TE} (o : okX x = true) (o2 : okX y = true) (o3 : okX z = true) (h : PE X x t) (h2 : PE X y u) (h3 : PE X z w) : PA X [x, y, z] (tCons t (tCons u (tCons w tNil))) := pa_cons h (pa2 o2 o3 h2 h3) (star_of o [y, z] X.env)
theorem inRg_of {i : Int} (h : inRg i = true) : -(2 ^ 62) ≤ i ∧ i < 2 ^ 62 := of_decide_eq_true h

theorem snd_it_e {a : E} {tg x : Expr} (h : chkIt Γ (.e a) tg x = true) (ha : Snd S Γ W Wx X a x) (n : ndj W (escItM tk (.e a))) : PI X tg x (tI S Wx X.K W tk (.e a)) := by
  have p := ha.md (tk := tk) n
  refine PI.mono (PI.or (pi_list p) (pi_tup p)) fun σ H R q => ?_
  obtain ⟨ρ, O, H0, r, j⟩ := q
  simp only [evIt] at j
  cases e : evE S a ρ with
  | bad => rw [e] at j; exact j.elim
  | exc c i =>
    refine .inl (tM.seq r j fun d v H1 e1 _ _ _ _ => ?_)
    rw [e] at e1
    cases e1
  | ok d =>
    cases d <;> first | (rw [e] at j; exact j.elim) | skip
    · rename_i ds
      refine .inl (tM.seq r j fun d v H1 e1 s1 r1 rl1 j1 => ?_)
      rw [e] at e1
      cases e1
      obtain ⟨ad, roots, Keep, rfl, L, k, z⟩ := r1.lkp
      obtain ⟨xs, h1, _⟩ := L.rd _ _ k
      exact ⟨ad, rfl, ⟨xs, .inl h1⟩, j1 _ _ s1 ⟨roots, Keep, src_l L, k, z⟩⟩
    · rename_i ds
      refine .inr (tM.seq r j fun d v H1 e1 s1 r1 rl1 j1 => ?_)
      rw [e] at e1
      cases e1
      obtain ⟨ad, Keep, rfl, L, k⟩ := r1.rs.tkp
      obtain ⟨xs, h1, _⟩ := L.rd _ _ k
      exact ⟨ad, rfl, ⟨xs, h1⟩, j1 _ _ s1 ⟨[], Keep, src_t L, k, fun _ => rfl⟩⟩
theorem snd_it_r1 (C : Cxt S Γ W Wx X) {a : E} {tg x : Expr} (h : chkIt Γ (.r1 a) tg x = true) (ha : ∀ y, chkE Γ a y = true → Snd S Γ W Wx X a y) (n : ndj W (escItM tk (.r1 a))) : PI X tg x (tI S Wx X.K W tk (.r1 a)) := by
  cases x <;> first | (simp [chkIt] at h; done) | skip
  rename_i fn as kws pos
  cases fn <;> first | (simp [chkIt] at h; done) | skip
  rcases as with _ | ⟨y, _ | _⟩ <;> first | (simp [chkIt] at h; done) | skip
  cases kws <;> first | (simp [chkIt] at h; done) | skip
  rename_i nm npos
  simp only [chkIt, Bool.and_eq_true, decide_eq_true_eq] at h
  obtain ⟨rfl, h2, h3⟩ := h
  refine PI.mono (pi_range1 (glb_of C.sc h2) C.rng (pa1 (okX_of h3) ((ha y h3).md (tk := tk) n)) (star_of (okX_of h3) [] X.env)) fun σ H R q => ?_
  obtain ⟨ρ, O, H0, r, j⟩ := q
  simp only [evIt] at j
  refine tM.seq r j fun d v H1 e1 s1 r1 rl1 j1 => ?_
  cases d <;> first | exact j1.elim | skip
  cases r1.rs.int
  rename_i i
  have j2 : JG Wx X.K σ H (fun items => ∀ J H', Same H H' → SrcAt X.K tk O J items H' → R J H') (if inRg i = true then .ok (rngV 0 i.toNat) else .bad) := j1
  split at j2
  · rename_i hi
    obtain ⟨g1, g2⟩ := inRg_of hi
    exact ⟨i, rfl, g1, g2, j2 _ _ s1 ⟨[], _, src_r 0 i.toNat, trivial, fun _ => rfl⟩⟩
  · exact j2.elim
theorem snd_it_r2 (C : Cxt S Γ W Wx X) {a b : E} {tg x : Expr} (h : chkIt Γ (.r2 a b) tg x = true) (ha : ∀ y, chkE Γ a y = true → Snd S Γ W Wx X a y) (hb : ∀ y, chkE Γ b y = true → Snd S Γ W Wx X b y) (n : ndj W (escItM tk (.r2 a b))) : PI X tg x (tI S Wx X.K W tk (.r2 a b)) := by
  cases x <;> first | (simp [chkIt] at h; done) | skip
  rename_i fn as kws pos
  cases fn <;> first | (simp [chkIt] at h; done) | skip
  rcases as with _ | ⟨y, _ | ⟨z, _ | _⟩⟩ <;> first | (simp [chkIt] at h; done) | skip
  cases kws <;> first | (simp [chkIt] at h; done) | skip
  rename_i nm npos
  simp only [chkIt, Bool.and_eq_true, decide_eq_true_eq] at h
  obtain ⟨rfl, h2, h3, h4⟩ := h
  have hs : starEach [y, z] X.env = [(false, eval y X.env), (false, eval z X.env)] := by
    rw [star_of (okX_of h3), star_of (okX_of h4)]
    rfl
  refine PI.mono (pi_range2 (glb_of C.sc h2) C.rng (pa2 (okX_of h3) (okX_of h4) ((ha y h3).md (tk := tk) n.l) ((hb z h4).md (tk := tk) n.r)) hs (star_of (okX_of h4) [] X.env)) fun σ H R q => ?_
  obtain ⟨ρ, O, H0, r, j⟩ := q
  simp only [evIt] at j
  refine tM.seq r j fun d v H1 e1 s1 r1 rl1 j1 => tM.seq rl1 (j1.same s1 fun _ p => p) fun e w H2 e2 s2 r2 rl2 j2 => ?_
  cases d <;> first | exact j2.elim | skip
  cases e <;> first | exact j2.elim | skip
  cases r1.rs.int
  cases r2.rs.int
  rename_i i k
  have j3 : JG Wx X.K σ H1 (fun items => ∀ J H', Same H H' → SrcAt X.K tk O J items H' → R J H') (if (inRg i && inRg k) = true then .ok (rngV i (k - i).toNat) else .bad) := j2
  split at j3
  · rename_i hi
    simp only [Bool.and_eq_true] at hi
    obtain ⟨g1, g2⟩ := inRg_of hi.1
    obtain ⟨g3, g4⟩ := inRg_of hi.2
    exact ⟨i, k, rfl, ⟨g1, g2, g3, g4⟩, j3 _ _ (s1.trans s2) ⟨[], _, src_r i (k - i).toNat, trivial, fun _ => rfl⟩⟩
  · exact j3.elim
theorem snd_it_r3 (C : Cxt S Γ W Wx X) {a b c : E} {tg x : Expr} (h : chkIt Γ (.r3 a b c) tg x = true) (ha : ∀ y, chkE Γ a y = true → Snd S Γ W Wx X a y) (hb : ∀ y, chkE Γ b y = true → Snd S Γ W Wx X b y) (hc : ∀ y, chkE Γ c y = true → Snd S Γ W Wx X c y)
    (n : ndj W (escItM tk (.r3 a b c))) : PI X tg x (tI S Wx X.K W tk (.r3 a b c)) := by
  cases x <;> first | (simp [chkIt] at h; done) | skip
  rename_i fn as kws pos
  cases fn <;> first | (simp [chkIt] at h; done) | skip
  rcases as with _ | ⟨y, _ | ⟨z, _ | ⟨t, _ | _⟩⟩⟩ <;> first | (simp [chkIt] at h; done) | skip
  cases kws <;> first | (simp [chkIt] at h; done) | skip
  rename_i nm npos
  simp only [chkIt, Bool.and_eq_true, decide_eq_true_eq] at h
  obtain ⟨rfl, h2, h3, h4, h5⟩ := h
  have hs : (backTo pos (starEach [z, t] X.env)).any (·.1) = false := stars_of (by simp [okX_of h4, okX_of h5]) X.env pos
  refine PI.mono (pi_range3 (glb_of C.sc h2) C.rng (pa3 (okX_of h3) (okX_of h4) (okX_of h5) ((ha y h3).md (tk := tk) n.l) ((hb z h4).md (tk := tk) n.r.l) ((hc t h5).md (tk := tk) n.r.r)) (star_of (okX_of h3) [z, t] X.env) hs) fun σ H R q => ?_
  obtain ⟨ρ, O, H0, r, j⟩ := q
  simp only [evIt] at j
  refine tM.seq r j fun d v H1 e1 s1 r1 rl1 j1 => tM.seq rl1 (j1.same s1 fun _ p => p) fun e w H2 e2 s2 r2 rl2 j2 => tM.seq rl2 (j2.same s2 fun _ p => p) fun f u H3 e3 s3 r3 rl3 j3 => ?_
  cases d <;> first | exact j3.elim | skip
  cases e <;> first | exact j3.elim | skip
  cases f <;> first | exact j3.elim | skip
  cases r1.rs.int
  cases r2.rs.int
  cases r3.rs.int
  rename_i i k m
  have j4 : JG Wx X.K σ H2 (fun items => ∀ J H', Same H H' → SrcAt X.K tk O J items H' → R J H') (rng3V i k m) := j3
  unfold rng3V at j4
  split at j4
  · rename_i hi
    simp only [Bool.and_eq_true, decide_eq_true_eq] at hi
    obtain ⟨⟨g1, g2, g3, g4, g5⟩, g6⟩ := hi
    exact ⟨i, k, m, _, rfl, ⟨g3, g4, g6, by omega⟩, j4 _ _ (s1.trans (s2.trans s3)) ⟨[], _, src_rc i m _, trivial, fun _ => rfl⟩⟩
  · exact j4.elim
theorem snd_it_zip (C : Cxt S Γ W Wx X) {a b : E} {tg x : Expr} (h : chkIt Γ (.zip a b) tg x = true) (ha : ∀ y, chkE Γ a y = true → Snd S Γ W Wx X a y) (hb : ∀ y, chkE Γ b y = true → Snd S Γ W Wx X b y) (n : ndj W (escItM tk (.zip a b))) : PI X tg x (tI S Wx X.K W tk (.zip a b)) := by
  cases tg <;> first | (simp [chkIt] at h; done) | skip
  cases x <;> first | (simp [chkIt] at h; done) | skip
  rename_i els ek epos fn as kws pos
  cases fn <;> first | (simp [chkIt] at h; done) | skip
  rcases as with _ | ⟨y, _ | ⟨z, _ | _⟩⟩ <;> first | (simp [chkIt] at h; done) | skip
  cases kws <;> first | (simp [chkIt] at h; done) | skip
  rename_i nm npos
  simp only [chkIt, Bool.and_eq_true, decide_eq_true_eq] at h
  obtain ⟨rfl, h2, h3, h4⟩ := h
  have hs : (backTo pos (starEach [z] X.env)).any (·.1) = false := stars_of (by simp [okX_of h4]) X.env pos
  refine PI.mono (RZ.pi_zipA (glb_of C.sc h2) C.zip (pa2 (okX_of h3) (okX_of h4) ((ha y h3).md (tk := tk) n.l) ((hb z h4).md (tk := tk) n.r)) (star_of (okX_of h3) [z] X.env) hs) fun σ H R q => ?_
  obtain ⟨ρ, O, H0, r, j⟩ := q
  simp only [evIt] at j
  refine tM.seq r j fun d v H1 e1 s1 r1 rl1 j1 => tM.seq rl1 (j1.same s1 fun _ p => p) fun e w H2 e2 s2 r2 rl2 j2 => ?_
  cases d <;> first | exact j2.elim | skip
  all_goals cases e <;> first | exact j2.elim | skip
  · obtain ⟨p1, q1, K1, rfl, L1, k1, z1⟩ := (r1.same s2).lkp
    obtain ⟨p2, q2, K2, rfl, L2, k2, z2⟩ := r2.lkp
    obtain ⟨xs, g1, _⟩ := L1.rd _ _ k1
    obtain ⟨ys, g2, _⟩ := L2.rd _ _ k2
    exact ⟨_, _, xs, ys, rfl, .inl ⟨.inl g1, .inl g2, j2 _ _ (s1.trans s2) ⟨q1 ++ q2, _, src_z L1 L2, ⟨k1, k2⟩, fun h => by rw [z1 h, z2 h]; rfl⟩⟩⟩
  · obtain ⟨p1, K1, rfl, L1, k1⟩ := (r1.same s2).rs.tkp
    obtain ⟨p2, K2, rfl, L2, k2⟩ := r2.rs.tkp
    obtain ⟨xs, g1, _⟩ := L1.rd _ _ k1
    obtain ⟨ys, g2, _⟩ := L2.rd _ _ k2
    exact ⟨_, _, xs, ys, rfl, .inr ⟨g1, g2, j2 _ _ (s1.trans s2) ⟨[], _, src_zt L1 L2, ⟨k1, k2⟩, fun _ => rfl⟩⟩⟩
theorem snd_it_enum (C : Cxt S Γ W Wx X) {a : E} {tg x : Expr} (h : chkIt Γ (.enum a) tg x = true) (ha : ∀ y, chkE Γ a y = true → Snd S Γ W Wx X a y) (n : ndj W (escItM tk (.enum a))) : PI X tg x (tI S Wx X.K W tk (.enum a)) := by
  cases tg <;> first | (simp [chkIt] at h; done) | skip
  cases x <;> first | (simp [chkIt] at h; done) | skip
  rename_i els ek epos fn as kws pos
  cases fn <;> first | (simp [chkIt] at h; done) | skip
  rcases as with _ | ⟨y, _ | _⟩ <;> first | (simp [chkIt] at h; done) | skip
  cases kws <;> first | (simp [chkIt] at h; done) | skip
  rename_i nm npos
  simp only [chkIt, Bool.and_eq_true, decide_eq_true_eq] at h
  obtain ⟨rfl, h2, h3⟩ := h
  have pa := pa1 (okX_of h3) ((ha y h3).md (tk := tk) n)
  have st := star_of (okX_of h3) [] X.env
  refine PI.mono (PI.or (pi_enum (glb_of C.sc h2) C.enu pa st) (pi_enumT (glb_of C.sc h2) C.enu pa st)) fun σ H R q => ?_
  obtain ⟨ρ, O, H0, r, j⟩ := q
  simp only [evIt] at j
  cases e : evE S a ρ with
  | bad => rw [e] at j; exact j.elim
  | exc c i =>
    refine .inl (tM.seq r j fun d v H1 e1 _ _ _ _ => ?_)
    rw [e] at e1
    cases e1
  | ok d =>
    cases d <;> first | (rw [e] at j; exact j.elim) | skip
    · refine .inl (tM.seq r j fun d v H1 e1 s1 r1 rl1 j1 => ?_)
      rw [e] at e1
      cases e1
      obtain ⟨p1, q1, K1, rfl, L1, k1, z1⟩ := r1.lkp
      obtain ⟨xs, g1, _⟩ := L1.rd _ _ k1
      exact ⟨_, xs, rfl, .inl g1, j1 _ _ s1 ⟨q1, _, src_e L1, k1, z1⟩⟩
    · refine .inr (tM.seq r j fun d v H1 e1 s1 r1 rl1 j1 => ?_)
      rw [e] at e1
      cases e1
      obtain ⟨p1, K1, rfl, L1, k1⟩ := r1.rs.tkp
      obtain ⟨xs, g1, _⟩ := L1.rd _ _ k1
      exact ⟨_, xs, rfl, g1, j1 _ _ s1 ⟨[], _, src_eT L1, k1, fun _ => rfl⟩⟩
end
end Fe
set_option Elab.async false
set_option linter.all false
set_option maxRecDepth 100000
set_option maxHeartbeats 4000000
/-! Fe, part G: comprehensions; the theorem of all expressions. -/
namespace Fe
open PySem PySem.Spec PyProof.Rows L2
abbrev W0 : WX := fun _ _ _ _ => False
theorem cxt_blk {S : Sig} {Γ : Gam} {W : List Nat} {Wx : WX} {X : Cx} (C : Cxt S Γ W Wx X) (s : Shared) (H : Hp) (sc : Scope) (A : Addr) (cl : List (Str × Addr)) (fp : List Addr) :
    Cxt S { Γ with sc := relS sc Γ.sc, st := sc } W W0 (X.blk s H sc (compEnvC sc cl A X.env) fp) where
  sub := C.sub
  calm := C.calm
  sc := by
    show relabel sc X.env = relS sc Γ.sc
    rw [← C.sc]
    rfl
  N := C.N
  nd := C.nd
  tk := takes0
  un := C.un
  sto := fun x h => by
    have e : (compEnvC sc cl A X.env).scope = relS sc X.env.scope := rfl
    unfold stOk at h
    show Loc (compEnvC sc cl A X.env).scope x ∧ ((sc.names.lookup x == some .cell) = true ∨ (compEnvC sc cl A X.env).scope.names.lookup x = some .local)
    rw [e]
    split at h
    · rename_i e1
      have := lookup_relS_keep (sc := X.env.scope) (by decide) (show sc.names.lookup x = some .local from e1)
      exact ⟨.inl this, .inr this⟩
    · rename_i e1
      have e2 : sc.names.lookup x = some .cell := e1
      have := lookup_relS_keep (sc := X.env.scope) (by decide) e2
      exact ⟨.inr this, .inl (by rw [e2]; rfl)⟩
    · cases h
  fn := C.fn
  fnF := C.fnF
  con := C.con
  bui := C.bui
  rng := C.rng
  zip := C.zip
  enu := C.enu
def tCs (S : Sig) (Wx : WX) (K : PySem.W.Frag) (W : List Nat) (cs : Eo) : TT := fun σ H Q => ∃ ρ O H0, Rel K W O H0 ρ σ H ∧ JG Wx K σ H (fun k => ∀ H', Same H H' → Q k H') (evC S cs ρ)
theorem wipe_get : ∀ (vs : List Nat) {σ : L2.St} (i : Nat), (L2.wipe σ vs)[i]? = if i ∈ vs ∧ i < σ.length then some none else σ[i]?
  | [], σ, i => by simp [L2.wipe]
  | v :: vs, σ, i => by
    simp only [L2.wipe]
    rw [get_set, wipe_get vs, wipe_length]
    by_cases c : v = i
    · subst c
      by_cases l : v < σ.length
      · simp [l]
      · simp [l]
    · have c' : ¬ i = v := fun e => c e.symm
      simp [c, c']
theorem wipe_eq {σ σ' : L2.St} {vs : List Nat} (l : σ'.length = σ.length) (k : ∀ i, i ∉ vs → σ'[i]? = σ[i]?) : L2.wipe σ' vs = L2.wipe σ vs := by
  apply List.ext_getElem?
  intro i
  rw [wipe_get, wipe_get, l]
  by_cases c : i ∈ vs
  · by_cases d : i < σ.length
    · simp [c, d]
    · have e1 : σ[i]? = none := List.getElem?_eq_none (by omega)
      have e2 : σ'[i]? = none := List.getElem?_eq_none (by omega)
      simp [c, d, e1, e2]
  · simp [c, k i c]
mutual
theorem tgIn_mem {own : List Nat} : ∀ {t : Tg}, tgIn own t = true → ∀ i ∈ tgL t, i ∈ own
  | .nm i, h, j, hj => by
    simp only [tgL, List.mem_singleton] at hj
    subst hj
    simpa [tgIn] using h
  | .tp ts, h, j, hj => tgIns_mem (ts := ts) (by simpa [tgIn] using h) j (by simpa [tgL] using hj)
theorem tgIns_mem {own : List Nat} : ∀ {ts : List Tg}, tgIns own ts = true → ∀ i ∈ tgLs ts, i ∈ own
  | [], _, j, hj => by simp [tgLs] at hj
  | t :: ts, h, j, hj => by
    simp only [tgIns, Bool.and_eq_true] at h
    rcases List.mem_append.mp (by simpa [tgLs] using hj) with e | e
    · exact tgIn_mem h.1 j e
    · exact tgIns_mem h.2 j e
end
theorem ownOf_snd (Γ : Gam) (own : List Nat) : (ownOf Γ own).map (·.2) = own := by
  unfold ownOf
  rw [List.map_map]
  exact (List.map_congr_left fun _ _ => rfl).trans (List.map_id own)
theorem chkIt_okX {Γ : Gam} {it : It} {t x : Expr} (h : chkIt Γ it t x = true) : okX x = true := by
  cases it
  · exact okX_of (show chkE Γ _ x = true by simpa [chkIt] using h)
  all_goals cases x <;> first | rfl | (cases t <;> simp [chkIt] at h)
theorem compGo_noX {f : PD → R (Option PD)} : ∀ {l : List PD}, (∃ r, compGo f l = .ok r) ∨ compGo f l = .bad
  | [] => .inl ⟨[], rfl⟩
  | d :: ds => by
    simp only [compGo]
    cases f d with
    | ok o =>
      rcases compGo_noX (f := f) (l := ds) with ⟨r, e⟩ | e
      · simp only [e]
        exact .inl ⟨_, rfl⟩
      · refine .inr ?_
        simp only [e]
    | exc c i => exact .inr rfl
    | bad => exact .inr rfl
theorem compGo_cons {f : PD → R (Option PD)} {d : PD} {ds r : List PD} (h : compGo f (d :: ds) = .ok r) : ∃ o r', f d = .ok o ∧ compGo f ds = .ok r' ∧ r = (match o with | some x => x :: r' | none => r') := by
  simp only [compGo] at h
  cases e : f d with
  | ok o =>
    rw [e] at h
    simp only at h
    cases e2 : compGo f ds with
    | ok r' =>
      rw [e2] at h
      simp only [R.ok.injEq] at h
      exact ⟨o, r', rfl, rfl, h.symm⟩
    | exc c i => rw [e2] at h; cases h
    | bad => rw [e2] at h; cases h
  | exc c i => rw [e] at h; cases h
  | bad => rw [e] at h; cases h
section
variable {S : Sig} {Γ : Gam} {W : List Nat} {Wx : WX} {X : Cx}
theorem comp_key (C : Cxt S Γ W Wx X) {elt : E} {tg : Tg} {it : It} {cs : Eo} {own : List Nat} {x : Expr} (h : chkE Γ (.comp elt tg it cs own) x = true)
    (hit : ∀ t i, chkIt Γ it t i = true → ndj W (escItM false it) → PI X t i (tI S Wx X.K W false it))
    (hcs : ∀ (Γ' : Gam) (X' : Cx), Cxt S Γ' W W0 X' → ∀ ifs, chkC Γ' cs ifs = true → ndj W (esco cs) → PTs X' ifs (tCs S W0 X'.K W cs))
    (hel : ∀ (Γ' : Gam) (X' : Cx), Cxt S Γ' W W0 X' → ∀ y, chkE Γ' elt y = true → Snd S Γ' W W0 X' elt y) (n : ndj W (esc (.comp elt tg it cs own))) :
    ∃ t', PE X x t' ∧ (∀ (i : Nat) (y : Str) (py spos : Pos), X.N[i]? = some y → X.env.scope.names.lookup y = some .local → swapsWith x (some (.Name y py)) spos.line X.env = pure true → PS X (.Assign [.Name y py] x spos) (tAsg t' (gName i))) ∧
      ∀ σ H Q, tF S Wx X.K W (.comp elt tg it cs own) σ H Q → t' σ H Q := by
  cases x <;> first | (simp [chkE] at h; done) | skip
  rename_i ex gens sc pos
  rcases gens with _ | ⟨g, _ | _⟩ <;> first | (simp [chkE] at h; done) | skip
  obtain ⟨t, i, ifs, as⟩ := g
  have has : as = 0 := by
    by_cases c : as = 0
    · exact c
    · exfalso
      unfold chkE at h
      split at h <;> first | (cases h; done) | skip
      all_goals first | (rename_i e1 e2; cases e1; cases e2; exact c rfl) | (rename_i e1 e2; cases e2; done) | skip
  subst has
  simp only [chkE, Bool.and_eq_true] at h
  obtain ⟨h1, h2, h3, h4, h5, h6, h7⟩ := h
  have hown : ∀ j ∈ own, j ∉ W := fun j hj z => of_decide_eq_true (List.all_eq_true.mp h3 j hj) (C.sub j z)
  have n1 : ndj W (escItM false it) := by rw [← escIt_eq]; exact n.l
  have n2 : ndj W (esco cs) := n.r.l
  have n3 : ndj W (esc elt) := n.r.r
  have hN : X.N.Nodup := by rw [C.N]; exact C.nd
  have hok : BlkOk X.N X.env.scope sc (ownOf Γ own) := by rw [C.N, C.sc]; exact blkOk_by h2
  have hgT := fun (s : Shared) (H : Hp) (A : Addr) (cl : List (Str × Addr)) (fp : List Addr) => snd_tg (cxt_blk C s H sc A cl fp) tg t h4
  have hcT := fun (s : Shared) (H : Hp) (A : Addr) (cl : List (Str × Addr)) (fp : List Addr) => hcs _ _ (cxt_blk C s H sc A cl fp) ifs h5 n2
  have heT := fun (s : Shared) (H : Hp) (A : Addr) (cl : List (Str × Addr)) (fp : List Addr) => (hel _ _ (cxt_blk C s H sc A cl fp) ex h7).tk n3
  refine ⟨_, pe_lc C.calm hN (hit t i h1 n1) hok (g := gT X.K W tg) (tt := tCs S W0 X.K W cs) (te := tE S W0 X.K W elt) hgT hcT heT (folded_of (chkIt_okX h1) X.env),
    fun i' y py spos e1 e2 e3 => ps_setLc C.calm hN e1 e2 e3 (hit t i h1 n1) hok (g := gT X.K W tg) (tt := tCs S W0 X.K W cs) (te := tE S W0 X.K W elt) hgT hcT heT (folded_of (chkIt_okX h1) X.env), fun σ H Q q => ?_⟩
  obtain ⟨ρ, O, H0, r, j⟩ := q
  simp only [evE] at j
  refine ⟨ρ, O, H0, r, j.bind.imp fun items e1 p J H1 s1 src => ?_⟩
  obtain ⟨roots, Keep, src, k, _⟩ := src
  rw [ownOf_snd]
  generalize ef : (fun d => match tgSet tg d (wipeE ρ own) with
    | some ρ1 => (evC S cs ρ1).bind fun k => if k = true then (evE S elt ρ1).bind fun x => R.ok (some x) else R.ok none
    | none => R.bad) = f at p
  rcases compGo_noX (f := f) (l := items) with ⟨ds, ec⟩ | ec
  case inr =>
    rw [ec] at p
    exact p.elim
  rw [ec] at p
  have p : JG Wx X.K σ H (fun d => isL d = true ∧ PostF X.K O H Q d) (if okLen items.length = true then .ok (.list ds) else .bad) := p
  split at p
  case isFalse => exact p.elim
  rename_i hlen
  have hlen := okLen_le hlen
  have p : PostF X.K O H Q (.list ds) := p.2
  intro D nD
  have r1 := r.same s1
  have nWD : ∀ i d a, i ∈ W → ρ[i]? = some (some d) → σ[i]? = some (some (.ref a)) → a ≠ D := fun i d a hi h1 h2 e => by
    obtain ⟨b, g1, _, _, g2, _⟩ := r1.own i d hi h1
    rw [g1] at h2
    have e2 : b = a := by simpa using h2
    obtain ⟨u, g3, _⟩ := g2.mut
    rw [e2, e, nD] at g3
    cases g3
  have nRD : ∀ a ∈ roots, a ≠ D := fun a ha e => src.there O H1 a k ha (by rw [e]; exact nD)
  have L1 : Lift O H1 (fun b => O b ∨ b = D) (upd H1 D (.lst [])) := (Lift.own nD).trans (Lift.same (same_new nD))
  have W1 : Rel X.K W (fun b => O b ∨ b = D) H0 ρ σ (upd H1 D (.lst [])) := r1.lift L1 (fun _ h => .inl h) (fun a h => by
      by_cases c : a = D
      · rw [c, upd_same]; simp
      · rw [upd_ne c]
        exact r1.dom a (h.resolve_right c)) (r1.sam.trans (same_new nD)) (fun i d a hi g1 g2 => upd_ne (nWD i d a hi g1 g2))
  have K1 : Keep (fun b => O b ∨ b = D) (upd H1 D (.lst [])) := src.lift _ _ _ _ L1 (fun a ha => upd_ne (nRD a ha)) k
  let Inv : Nat → Hp → Prop := fun i Hc => ∃ acc da rest, Hc D = some (.lst acc) ∧ RXs X.K (fun b => O b ∨ b = D) Hc acc da ∧ acc.length ≤ i ∧ compGo f (items.drop i) = .ok rest ∧ ds = da ++ rest ∧
    Rel X.K W (fun b => O b ∨ b = D) H0 ρ σ Hc ∧ Keep (fun b => O b ∨ b = D) Hc ∧ ∀ b o, H1 b = some o → Hc b = some o
  refine ⟨fun i m Hc => m = items.length - i ∧ i ≤ items.length ∧ Inv i Hc, ⟨items.length, by simp, Nat.zero_le _, [], [], ds, upd_same, .nil, Nat.le_refl _, by simpa using ec, rfl, W1, K1, fun b o e => same_new nD b o e⟩, ?_⟩
  rintro i m Hc ⟨rfl, hi, acc, da, rest, g1, g2, g3, g4, g5, g6, g7, g8⟩
  by_cases c : i < items.length
  · refine .inr ⟨src.go _ i Hc g7 c, Inv (i + 1), fun H' I' => ⟨items.length - (i + 1), by omega, rfl, c, I'⟩, fun y H2 hy => ?_⟩
    obtain ⟨d, e2, s2, ry⟩ := src.yld _ i Hc y H2 g7 c hy
    have ed : items.drop i = d :: items.drop (i + 1) := by
      rw [List.drop_eq_getElem_cons c]
      have : items[i]? = some items[i] := by simp [c]
      rw [this] at e2
      rw [Option.some.inj e2]
    rw [ed] at g4
    obtain ⟨o, rest', fo, g4', er⟩ := compGo_cons g4
    rw [← ef] at fo
    simp only at fo
    split at fo
    case h_2 => cases fo
    rename_i ρ1 et
    refine ⟨wipeE ρ own, _, H0, d, ρ1, (g6.same s2).wipe own, ry, et, fun σ2 rl2 l2 k2 => ⟨?_, ?_⟩⟩
    · have l2' : σ2.length = σ.length := by rw [l2, wipe_length]
      refine wipe_eq l2' fun j cj => ?_
      rw [k2 j fun hm => cj (tgIn_mem h6 j hm), wipe_get]
      simp [cj]
    · cases ek : evC S cs ρ1 with
      | exc c' i' => rw [ek] at fo; simp [R.bind] at fo
      | bad => rw [ek] at fo; simp [R.bind] at fo
      | ok k' =>
        rw [ek] at fo
        have fo : (if k' = true then (evE S elt ρ1).bind fun x => R.ok (some x) else R.ok none) = .ok o := fo
        refine ⟨ρ1, _, H0, rl2, ?_⟩
        rw [ek]
        intro H3 s3
        show if k' = true then tE S W0 X.K W elt σ2 H3 _ else Inv (i + 1) H3
        split
        · rw [if_pos ‹_›] at fo
          cases ev : evE S elt ρ1 with
          | exc c' i' => rw [ev] at fo; simp [R.bind] at fo
          | bad => rw [ev] at fo; simp [R.bind] at fo
          | ok z =>
            rw [ev] at fo
            have fo : R.ok (some z) = .ok o := fo
            cases fo
            refine ⟨ρ1, _, H0, rl2.same s3, ?_⟩
            rw [ev]
            intro v H4 s4 rv
            have s24 := s2.trans (s3.trans s4)
            have eD : H4 D = some (.lst acc) := s24 _ _ g1
            refine ⟨acc, eD, by omega, ?_⟩
            have L4 : Lift (fun b => O b ∨ b = D) H4 (fun b => O b ∨ b = D) (upd H4 D (.lst (acc ++ [v]))) := Lift.upd (.inr rfl) eD True.intro
            have rl4 := g6.same s24
            refine ⟨acc ++ [v], da ++ [z], rest', upd_same, ((g2.same s24).append (.cons rv .nil)).lift L4, by simp; omega, g4', ?_, ?_, ?_, fun b o' hb => ?_⟩
            · rw [g5, er]
              simp
            · refine rl4.lift L4 (fun _ h => h) (fun a h => ?_) (fun b o' hb => ?_) (fun i d a hi e1 e2 => upd_ne (nWD i d a hi e1 e2))
              · by_cases ca : a = D
                · rw [ca, upd_same]; simp
                · rw [upd_ne ca]; exact rl4.dom a h
              · have cb : b ≠ D := fun e => by
                  have := r1.sam _ _ hb
                  rw [e, nD] at this
                  cases this
                rw [upd_ne cb]
                exact rl4.sam _ _ hb
            · exact src.lift _ _ _ _ L4 (fun a ha => upd_ne (nRD a ha)) (src.lift _ _ _ _ (Lift.same s24) (fun a ha => by
                cases e : Hc a with
                | none => exact absurd e (src.there _ Hc a g7 ha)
                | some u => exact s24 _ _ e) g7)
            · have cb : b ≠ D := fun e => by rw [e, nD] at hb; cases hb
              rw [upd_ne cb]
              exact s24 _ _ (g8 b o' hb)
        · rw [if_neg ‹_›] at fo
          cases fo
          have s23 := s2.trans s3
          refine ⟨acc, da, rest', s23 _ _ g1, g2.same s23, by omega, g4', by rw [g5, er], g6.same s23, ?_, fun b o' hb => s23 _ _ (g8 b o' hb)⟩
          exact src.lift _ _ _ _ (Lift.same s23) (fun a ha => by
            cases e : Hc a with
            | none => exact absurd e (src.there _ Hc a g7 ha)
            | some u => exact s23 _ _ e) g7
  · have ei : i = items.length := by omega
    subst ei
    rw [List.drop_length] at g4
    simp only [compGo, R.ok.injEq] at g4
    subst g4
    rw [List.append_nil] at g5
    subst g5
    exact .inl ⟨src.stop _ _ Hc g7 (Nat.le_refl _), p D Hc (Same.free s1 nD) (s1.trans fun b o e => g8 b o e) ⟨acc, g1, g2⟩⟩
theorem comp_EF {elt : E} {tg : Tg} {it : It} {cs : Eo} {own : List Nat} {σ : L2.St} {H : Hp} {Q : VK} (q : tE S Wx X.K W (.comp elt tg it cs own) σ H Q) : tF S Wx X.K W (.comp elt tg it cs own) σ H Q := by
  obtain ⟨ρ, O, H0, r, j⟩ := q
  refine ⟨ρ, O, H0, r, ?_⟩
  have isl : ∀ d, evE S (.comp elt tg it cs own) ρ = .ok d → isL d = true := fun d e => by
    simp only [evE] at e
    cases e1 : evIt S it ρ with
    | ok items =>
      rw [e1] at e
      simp only [R.bind] at e
      split at e
      · split at e
        · cases e; rfl
        · cases e
      · cases e
      · cases e
    | exc c i => rw [e1] at e; cases e
    | bad => rw [e1] at e; cases e
  exact j.imp fun d e p => ⟨isl d e, PostX.toF r.dom p⟩
theorem snd_comp (C : Cxt S Γ W Wx X) {elt : E} {tg : Tg} {it : It} {cs : Eo} {own : List Nat} {x : Expr} (h : chkE Γ (.comp elt tg it cs own) x = true)
    (hit : ∀ t i, chkIt Γ it t i = true → ndj W (escItM false it) → PI X t i (tI S Wx X.K W false it))
    (hcs : ∀ (Γ' : Gam) (X' : Cx), Cxt S Γ' W W0 X' → ∀ ifs, chkC Γ' cs ifs = true → ndj W (esco cs) → PTs X' ifs (tCs S W0 X'.K W cs))
    (hel : ∀ (Γ' : Gam) (X' : Cx), Cxt S Γ' W W0 X' → ∀ y, chkE Γ' elt y = true → Snd S Γ' W W0 X' elt y) : Snd S Γ W Wx X (.comp elt tg it cs own) x := by
  refine Snd.of rfl fun n => ?_
  obtain ⟨t', pe, _, kF⟩ := comp_key C h hit hcs hel n
  exact ⟨t', pe, fun σ H Q q => kF σ H Q (comp_EF q), fun _ => kF⟩
/-- pairs of a display -/
abbrev KvR (K : PySem.W.Frag) (O : Addr → Prop) (H : Hp) : List (V × V) → List (PD × PD) → Prop := Paired fun p d => RS K O H p.1 d.1 ∧ RX K O H p.2 d.2
theorem kv_run : ∀ (p : Kv) {ρ : Env} {O : Addr → Prop} {H0 H : Hp} {σ : L2.St} {Q : List (V × V) → Hp → Prop}, Rel X.K W O H0 ρ σ H → JG Wx X.K σ H (fun ds => ∀ ps H', Same H H' → KvR X.K O H' ps ds → Q ps H') (evKv S p ρ) → tPairs (tKv S Wx X.K W p) σ H Q
  | .nil, ρ, O, H0, H, σ, Q, r, j => by
    simp only [evKv] at j
    exact j [] H (Same.refl H) .nil
  | .cons k v q, ρ, O, H0, H, σ, Q, r, j => by
    simp only [evKv] at j
    show tP S Wx X.K W k σ H fun x H1 => tE S Wx X.K W v σ H1 fun y H2 => tPairs (tKv S Wx X.K W q) σ H2 fun ps H3 => Q ((x, y) :: ps) H3
    refine tP.seq r j fun d x H1 e1 s1 r1 rl1 j1 => tE.seq rl1 (j1.same s1 (fun _ p => p)) fun e y H2 e2 s2 r2 rl2 j2 => ?_
    refine kv_run q rl2 ((j2.same s2 (fun _ p => p)).bind.imp fun ds e3 p ps H3 s3 rs => ?_)
    exact p ((x, y) :: ps) H3 (s1.trans (s2.trans s3)) (.cons ⟨r1.same (s2.trans s3), r2.same s3⟩ rs)
theorem kvr_keys {K : PySem.W.Frag} {O : Addr → Prop} {H : Hp} : ∀ {ps : List (V × V)} {ds : List (PD × PD)}, KvR K O H ps ds → (ds.all fun p => (keyOf p.1).isSome) = true → ∃ kvs : List (Key × V), ps = kvs.map (fun kv => (kV kv.1, kv.2)) ∧ RXp K O H (kvs.map fun p => (kP p.1, p.2)) ds ∧ kvs.length = ds.length
  | _, _, .nil, _ => ⟨[], rfl, .nil, rfl⟩
  | _, _, .cons (a := p) (b := d) ⟨h1, h2⟩ r, h => by
    simp only [List.all_cons, Bool.and_eq_true] at h
    obtain ⟨kvs, e1, e2, e3⟩ := kvr_keys r h.2
    obtain ⟨k, hk⟩ := Option.isSome_iff_exists.mp h.1
    obtain ⟨x, y⟩ := p
    obtain ⟨a, b⟩ := d
    have ea : a = kP k := keyOf_kP hk
    dsimp only at h1 h2
    subst ea
    refine ⟨(k, y) :: kvs, ?_, .cons h2 e2, by simp [e3]⟩
    rw [List.map_cons, ← e1]
    congr 2
    rcases k with i | z
    · exact h1.int
    · exact h1.str.1
theorem chkKv_all {Γ : Gam} : ∀ {p : Kv} {ks : List (Option Expr)} {vs : List Expr}, chkKv Γ p ks vs = true → ks.all (·.isSome) = true ∧ ks.length = vs.length
  | .nil, ks, vs, h => by cases ks <;> cases vs <;> simp [chkKv] at h <;> exact ⟨rfl, rfl⟩
  | .cons k v r, ks, vs, h => by
    rcases ks with _ | ⟨a, ks⟩ <;> first | (cases vs <;> simp [chkKv] at h; done) | skip
    cases a <;> first | (cases vs <;> simp [chkKv] at h; done) | skip
    cases vs <;> first | (simp [chkKv] at h; done) | skip
    simp only [chkKv, Bool.and_eq_true] at h
    obtain ⟨i1, i2⟩ := chkKv_all h.2.2
    exact ⟨by simpa using i1, by simpa using i2⟩
theorem snd_dct {p : Kv} {x : Expr} (h : chkE Γ (.dct p) x = true) (hp : ∀ pos ks vs, chkKv Γ p ks vs = true → ndj W (escp p) → PPs X pos ks vs (tKv S Wx X.K W p)) : Snd S Γ W Wx X (.dct p) x := by
  cases x <;> first | (simp [chkE] at h; done) | skip
  rename_i ks vs pos
  simp only [chkE, Bool.and_eq_true, decide_eq_true_eq, Bool.not_eq_true'] at h
  obtain ⟨h1, h2, h3⟩ := h
  obtain ⟨k1, k2⟩ := chkKv_all h1
  have key : ∀ σ H Q, tF S Wx X.K W (.dct p) σ H Q → tDisp (tKv S Wx X.K W p) σ H Q := fun σ H Q z => by
    obtain ⟨ρ, O, H0, r, j⟩ := z
    simp only [evE] at j
    intro a na
    have L1 : Lift O H (fun b => O b ∨ b = a) (upd H a (.dK [])) := (Lift.own na).trans (Lift.same (same_new na))
    have nWa : ∀ i d b, i ∈ W → ρ[i]? = some (some d) → σ[i]? = some (some (.ref b)) → b ≠ a := fun i d b hi h1 h2 e => by
      obtain ⟨c, g1, _, _, g2, _⟩ := r.own i d hi h1
      rw [g1] at h2
      have e2 : c = b := by simpa using h2
      obtain ⟨u, g3, _⟩ := g2.mut
      rw [e2, e, na] at g3
      cases g3
    have r1 : Rel X.K W (fun b => O b ∨ b = a) H0 ρ σ (upd H a (.dK [])) := r.lift L1 (fun _ h => .inl h) (fun b h => by
        by_cases c : b = a
        · rw [c, upd_same]; simp
        · rw [upd_ne c]
          exact r.dom b (h.resolve_right c)) (r.sam.trans (same_new na)) (fun i d b hi g1 g2 => upd_ne (nWa i d b hi g1 g2))
    refine kv_run p r1 ((j.same (same_new na) (fun _ p => p)).bind.imp fun ds e q ps H2 s2 rs => ?_)
    have q : JG Wx X.K σ (upd H a (.dK [])) (fun d => isL d = true ∧ PostF X.K O H Q d) (if (decide (ds.length ≤ 15) && (!ds.isEmpty && ds.all fun p => (keyOf p.1).isSome)) = true then .ok (.dict (mergeP [] ds)) else .bad) := q
    split at q
    case isFalse => exact q.elim
    rename_i c
    simp only [Bool.and_eq_true, decide_eq_true_eq] at c
    obtain ⟨kvs, e1, e2, e3⟩ := kvr_keys rs c.2.2
    have ea : H2 a = some (.dK []) := s2 _ _ upd_same
    refine ⟨ea, kvs, e1, by rw [e3]; exact c.1, ?_⟩
    have L2 : Lift (fun b => O b ∨ b = a) H2 (fun b => O b ∨ b = a) (upd H2 a (.dK (mergeK [] kvs))) := Lift.upd (.inr rfl) ea True.intro
    refine q.2 a _ na (fun b u hb => ?_) ⟨_, .inl ⟨_, upd_same, rfl⟩, (merge_rx e2 .nil).lift L2⟩
    have ne : b ≠ a := ne_of_none hb na
    rw [upd_ne ne]
    exact s2 _ _ (by rw [upd_ne ne]; exact hb)
  refine Snd.of rfl fun n => ⟨_, pe_disp (hp pos ks vs h1 n) k1 k2 (by cases ks <;> simp at h3 ⊢) h2, fun σ H Q z => key σ H Q ?_, fun _ => key⟩
  obtain ⟨ρ, O, H0, r, j⟩ := z
  refine ⟨ρ, O, H0, r, ?_⟩
  have isl : ∀ d', evE S (.dct p) ρ = .ok d' → isL d' = true := fun d' e => by
    simp only [evE] at e
    cases e1 : evKv S p ρ with
    | ok ds =>
      rw [e1] at e
      simp only [R.bind] at e
      split at e
      · cases e; rfl
      · cases e
    | exc c i => rw [e1] at e; cases e
    | bad => rw [e1] at e; cases e
  exact j.imp fun d e p => ⟨isl d e, PostX.toF r.dom p⟩
end

/-! ### all of them -/
def AllE (S : Sig) (e : E) : Prop := ∀ (Γ : Gam) (W : List Nat) (Wx : WX) (X : Cx), Cxt S Γ W Wx X → ∀ x, chkE Γ e x = true → Snd S Γ W Wx X e x ∧ (tOk e = true → ndj W (pk e) → PT X x (tT S Wx X.K W e))
def AllEs (S : Sig) (es : Es) : Prop := (∀ e, esHas e es → AllE S e) ∧ ∀ (Γ : Gam) (W : List Nat) (Wx : WX) (X : Cx), Cxt S Γ W Wx X → ∀ as, chkEs Γ es as = true →
  (ndj W (escs es) → PA X as (tAs S Wx X.K W es)) ∧ (ndj W (pks es) → PA X as (tAp S Wx X.K W es))
def AllEd (S : Sig) (d : Ed) : Prop := ∀ (Γ : Gam) (W : List Nat) (Wx : WX) (X : Cx), Cxt S Γ W Wx X → ∀ as, chkEd Γ d as = true → ndj W (escd d) → PA X as (tEd S Wx X.K W d)
def AllKv (S : Sig) (p : Kv) : Prop := ∀ (Γ : Gam) (W : List Nat) (Wx : WX) (X : Cx), Cxt S Γ W Wx X → ∀ pos ks vs, chkKv Γ p ks vs = true → ndj W (escp p) → PPs X pos ks vs (tKv S Wx X.K W p)
def AllEo (S : Sig) (eo : Eo) : Prop := ∀ (Γ : Gam) (W : List Nat) (Wx : WX) (X : Cx), Cxt S Γ W Wx X → (∀ x, chkEo Γ eo x = true → ndj W (esco eo) → PO X x (tEo S Wx X.K W eo)) ∧ (∀ ifs, chkC Γ eo ifs = true → ndj W (esco eo) → PTs X ifs (tCs S Wx X.K W eo))
def AllIt (S : Sig) (it : It) : Prop := ∀ (Γ : Gam) (W : List Nat) (Wx : WX) (X : Cx) (tk : Bool), Cxt S Γ W Wx X → ∀ t i, chkIt Γ it t i = true → ndj W (escItM tk it) → PI X t i (tI S Wx X.K W tk it)
/-- of plain ones -/
theorem allE_plain {S : Sig} {e : E} (h : ∀ (Γ : Gam) (W : List Nat) (Wx : WX) (X : Cx), Cxt S Γ W Wx X → ∀ x, chkE Γ e x = true → Snd S Γ W Wx X e x)
    (hw : ∀ (Γ : Gam) (x : Expr), chkE Γ e x = true → ∀ (env : PySem.Env) whole, isTrue x env whole = (do let v ← whole; standAt x.pos; holding [v] (truthy v))) : AllE S e :=
  fun Γ W Wx X C x c => ⟨h Γ W Wx X C x c, fun _ n => snd_test (hw Γ x c X.env) ((h Γ W Wx X C x c).lk n)⟩
theorem esc_ne {W : List Nat} {e : E} (v : isVar e = false) (n : ndj W (pk e)) : ndj W (esc e) := by
  rw [esc_pk v]
  exact n
theorem ands_nil {Γ : Gam} {S : Sig} {ρ : Env} : evAnds S .nil ρ = .bad := by simp [evAnds]
mutual
theorem allE (S : Sig) : ∀ e : E, AllE S e
  | .var i => allE_plain (fun Γ W Wx X C x c => snd_var C c) fun Γ x c env wh => by cases x <;> first | (simp [chkE] at c; done) | rfl
  | .int i => allE_plain (fun Γ W Wx X C x c => by
      cases x <;> first | (simp [chkE] at c; done) | skip
      rename_i v k pos
      cases v <;> first | (simp [chkE] at c; done) | skip
      simp only [chkE, decide_eq_true_eq] at c
      subst c
      exact snd_const rfl rfl pe_int (fun ρ => by simp only [evE]) fun O H => .int _) fun Γ x c env wh => by cases x <;> first | (simp [chkE] at c; done) | rfl
  | .bl b => allE_plain (fun Γ W Wx X C x c => by
      cases x <;> first | (simp [chkE] at c; done) | skip
      rename_i v k pos
      cases v <;> first | (simp [chkE] at c; done) | skip
      simp only [chkE, decide_eq_true_eq] at c
      subst c
      exact snd_const rfl rfl pe_bl (fun ρ => by simp only [evE]) fun O H => .bl _) fun Γ x c env wh => by cases x <;> first | (simp [chkE] at c; done) | rfl
  | .non => allE_plain (fun Γ W Wx X C x c => by
      cases x <;> first | (simp [chkE] at c; done) | skip
      rename_i v k pos
      cases v <;> first | (simp [chkE] at c; done) | skip
      exact snd_const rfl rfl pe_non (fun ρ => by simp only [evE]) fun O H => .non) fun Γ x c env wh => by cases x <;> first | (simp [chkE] at c; done) | rfl
  | .str s => allE_plain (fun Γ W Wx X C x c => by
      cases x <;> first | (simp [chkE] at c; done) | skip
      rename_i v k pos
      cases v <;> first | (simp [chkE] at c; done) | skip
      simp only [chkE, Bool.and_eq_true, decide_eq_true_eq] at c
      obtain ⟨rfl, c⟩ := c
      exact snd_const rfl rfl pe_str (fun ρ => by simp only [evE]) fun O H => .str _ c) fun Γ x c env wh => by cases x <;> first | (simp [chkE] at c; done) | rfl
  | .glob n => allE_plain (fun Γ W Wx X C x c => snd_glob C c) fun Γ x c env wh => by cases x <;> first | (simp [chkE] at c; done) | rfl
  | .tup es => allE_plain (fun Γ W Wx X C x c => snd_tup c fun as h n => ((allEs S es).2 Γ W Wx X C as h).1 n) fun Γ x c env wh => by cases x <;> first | (simp [chkE] at c; done) | rfl
  | .lst es => allE_plain (fun Γ W Wx X C x c => snd_lst c fun as h n => ((allEs S es).2 Γ W Wx X C as h).1 n) fun Γ x c env wh => by cases x <;> first | (simp [chkE] at c; done) | rfl
  | .bin o a b => allE_plain (fun Γ W Wx X C x c => snd_bin c (fun y h => (allE S a Γ W Wx X C y h).1) fun y h => (allE S b Γ W Wx X C y h).1) fun Γ x c env wh => by cases x <;> first | (simp [chkE] at c; done) | rfl
  | .neg a => allE_plain (fun Γ W Wx X C x c => snd_neg c fun y h => (allE S a Γ W Wx X C y h).1) fun Γ x c env wh => by
      cases x <;> first | (simp [chkE] at c; done) | skip
      rename_i p y pos
      cases p <;> first | (simp [chkE] at c; done) | rfl
  | .cmp o a b => fun Γ W Wx X C x c => ⟨(snd_cmp C c (fun y h => (allE S a Γ W Wx X C y h).1) fun y h => (allE S b Γ W Wx X C y h).1).1,
      fun _ n => (snd_cmp C c (fun y h => (allE S a Γ W Wx X C y h).1) fun y h => (allE S b Γ W Wx X C y h).1).2 (esc_ne rfl n)⟩
  | .chn o q a b d => fun Γ W Wx X C x c => ⟨(snd_chn C c (fun y h => (allE S a Γ W Wx X C y h).1) (fun y h => (allE S b Γ W Wx X C y h).1) fun y h => (allE S d Γ W Wx X C y h).1).1,
      fun _ n => (snd_chn C c (fun y h => (allE S a Γ W Wx X C y h).1) (fun y h => (allE S b Γ W Wx X C y h).1) fun y h => (allE S d Γ W Wx X C y h).1).2 (esc_ne rfl n)⟩
  | .isN a => fun Γ W Wx X C x c => ⟨(snd_isN c fun y h => (allE S a Γ W Wx X C y h).1).1, fun _ n => (snd_isN c fun y h => (allE S a Γ W Wx X C y h).1).2 (esc_ne rfl n)⟩
  | .noN a => fun Γ W Wx X C x c => ⟨(snd_noN c fun y h => (allE S a Γ W Wx X C y h).1).1, fun _ n => (snd_noN c fun y h => (allE S a Γ W Wx X C y h).1).2 (esc_ne rfl n)⟩
  | .isB b a => fun Γ W Wx X C x c => ⟨(snd_isB c fun y h => (allE S a Γ W Wx X C y h).1).1, fun _ n => (snd_isB c fun y h => (allE S a Γ W Wx X C y h).1).2 (esc_ne rfl n)⟩
  | .noB b a => fun Γ W Wx X C x c => ⟨(snd_noB c fun y h => (allE S a Γ W Wx X C y h).1).1, fun _ n => (snd_noB c fun y h => (allE S a Γ W Wx X C y h).1).2 (esc_ne rfl n)⟩
  | .ands es => fun Γ W Wx X C x c => by
      cases x <;> first | (simp [chkE] at c; done) | skip
      rename_i op as pos
      cases op <;> first | (simp [chkE] at c; done) | skip
      simp only [chkE] at c
      by_cases e : es = .nil
      · subst e
        refine ⟨Snd.of rfl fun _ => ⟨fun _ _ _ => False, ⟨fun _ _ _ _ _ _ z => z.elim⟩, fun σ H Q z => ?_, fun f => nomatch f⟩, fun _ _ => ⟨fun _ _ _ _ _ _ z => ?_⟩⟩
        · obtain ⟨ρ, O, H0, r, j⟩ := z
          simp only [evE, evAnds] at j
          exact j
        · obtain ⟨ρ, O, H0, r, j⟩ := z
          simp only [evE, evAnds] at j
          exact j.elim
      · have hx := allEs S es
        refine ⟨Snd.of rfl fun n => ⟨_, snd_ands es as c (fun e y m h n => (hx.1 e m Γ W Wx X C y h).1.tk n) n e, fun _ _ _ z => z, fun f => nomatch f⟩, fun t n => (snd_andsT es as c (by simpa [tOk] using t) (fun e y m h t n => (hx.1 e m Γ W Wx X C y h).2 t (pk_of n)) n e).pt⟩
  | .ors es => fun Γ W Wx X C x c => by
      cases x <;> first | (simp [chkE] at c; done) | skip
      rename_i op as pos
      cases op <;> first | (simp [chkE] at c; done) | skip
      simp only [chkE] at c
      by_cases e : es = .nil
      · subst e
        refine ⟨Snd.of rfl fun _ => ⟨fun _ _ _ => False, ⟨fun _ _ _ _ _ _ z => z.elim⟩, fun σ H Q z => ?_, fun f => nomatch f⟩, fun _ _ => ⟨fun _ _ _ _ _ _ z => ?_⟩⟩
        · obtain ⟨ρ, O, H0, r, j⟩ := z
          simp only [evE, evOrs] at j
          exact j
        · obtain ⟨ρ, O, H0, r, j⟩ := z
          simp only [evE, evOrs] at j
          exact j.elim
      · have hx := allEs S es
        refine ⟨Snd.of rfl fun n => ⟨_, snd_ors es as c (fun e y m h n => (hx.1 e m Γ W Wx X C y h).1.tk n) n e, fun _ _ _ z => z, fun f => nomatch f⟩, fun t n => (snd_orsT es as c (by simpa [tOk] using t) (fun e y m h t n => (hx.1 e m Γ W Wx X C y h).2 t (pk_of n)) n e).pt⟩
  | .nt a => fun Γ W Wx X C x c => ⟨snd_nt c fun y h => (allE S a Γ W Wx X C y h).1, fun t n => snd_ntT c fun y h => (allE S a Γ W Wx X C y h).2 (by simpa [tOk] using t) n⟩
  | .ite q a b => fun Γ W Wx X C x c => ⟨snd_ite c (fun y h t n => (allE S q Γ W Wx X C y h).2 t n) (fun y h => (allE S a Γ W Wx X C y h).1) fun y h => (allE S b Γ W Wx X C y h).1, fun t => by simp [tOk] at t⟩
  | .ix a b => allE_plain (fun Γ W Wx X C x c => snd_ix C c (fun y h => (allE S a Γ W Wx X C y h).1) fun y h => (allE S b Γ W Wx X C y h).1) fun Γ x c env wh => by cases x <;> first | (simp [chkE] at c; done) | rfl
  | .sl a lo hi => allE_plain (fun Γ W Wx X C x c => snd_sl c (fun y h => (allE S a Γ W Wx X C y h).1) (fun y h n => (allEo S lo Γ W Wx X C).1 y h n) fun y h n => (allEo S hi Γ W Wx X C).1 y h n) fun Γ x c env wh => by cases x <;> first | (simp [chkE] at c; done) | rfl
  | .st a lo hi s => allE_plain (fun Γ W Wx X C x c => snd_st c (fun y h => (allE S a Γ W Wx X C y h).1) (fun y h n => (allEo S lo Γ W Wx X C).1 y h n) (fun y h n => (allEo S hi Γ W Wx X C).1 y h n) fun y h n => (allEo S s Γ W Wx X C).1 y h n) fun Γ x c env wh => by cases x <;> first | (simp [chkE] at c; done) | rfl
  | .call f es => allE_plain (fun Γ W Wx X C x c => snd_call C c fun as h n => ((allEs S es).2 Γ W Wx X C as h).1 n) fun Γ x c env wh => by cases x <;> first | (simp [chkE] at c; done) | rfl
  | .callF f es => allE_plain (fun Γ W Wx X C x c => snd_callF C c fun as h n => ((allEs S es).2 Γ W Wx X C as h).1 n) fun Γ x c env wh => by cases x <;> first | (simp [chkE] at c; done) | rfl
  | .bi b es => allE_plain (fun Γ W Wx X C x c => snd_bi C c fun as h n => ((allEs S es).2 Γ W Wx X C as h).2 n) fun Γ x c env wh => by cases x <;> first | (simp [chkE] at c; done) | rfl
  | .comp elt tg it cs own => allE_plain (fun Γ W Wx X C x c => snd_comp C c (fun t i h n => allIt S it Γ W Wx X false C t i h n) (fun Γ' X' C' ifs h n => (allEo S cs Γ' W W0 X' C').2 ifs h n) fun Γ' X' C' y h => (allE S elt Γ' W W0 X' C' y h).1) fun Γ x c env wh => by cases x <;> first | (simp [chkE] at c; done) | rfl
  | .disp l d => allE_plain (fun Γ W Wx X C x c => snd_disp c fun as h n => allEd S d Γ W Wx X C as h n) fun Γ x c env wh => by
      cases l <;> cases x <;> first | (simp [chkE] at c; done) | rfl
  | .dct p => allE_plain (fun Γ W Wx X C x c => snd_dct c fun pos ks vs h n => allKv S p Γ W Wx X C pos ks vs h n) fun Γ x c env wh => by
      cases x <;> first | (simp [chkE] at c; done) | rfl
theorem allKv (S : Sig) : ∀ p : Kv, AllKv S p
  | .nil => fun Γ W Wx X C pos ks vs c _ => by
      cases ks <;> cases vs <;> first | (simp [chkKv] at c; done) | exact pps_nil
  | .cons k v r => fun Γ W Wx X C pos ks vs c n => by
      rcases ks with _ | ⟨a, ks⟩ <;> first | (simp [chkKv] at c; done) | skip
      cases a <;> first | (simp [chkKv] at c; done) | skip
      cases vs <;> first | (simp [chkKv] at c; done) | skip
      simp only [chkKv, Bool.and_eq_true] at c
      exact pps_cons ((allE S k Γ W Wx X C _ c.1).1.lk n.l) ((allE S v Γ W Wx X C _ c.2.1).1.tk n.r.l) (allKv S r Γ W Wx X C pos ks _ c.2.2 n.r.r)
theorem allEd (S : Sig) : ∀ d : Ed, AllEd S d
  | .nil => fun Γ W Wx X C as c _ => by
      cases as with
      | cons _ _ => simp [chkEd] at c
      | nil =>
        refine PA.mono pa_nil fun σ H Q q => ?_
        obtain ⟨ρ, O, H0, r, j⟩ := q
        simp only [evEd] at j
        exact j [] H (Same.refl H) .nil
  | .one e r => fun Γ W Wx X C as c n => by
      cases as with
      | nil => simp [chkEd] at c
      | cons y ys =>
        simp only [chkEd, Bool.and_eq_true] at c
        refine PA.mono (pa_cons ((allE S e Γ W Wx X C y c.1).1.tk n.l) (allEd S r Γ W Wx X C ys c.2 n.r) (star_of (okX_of c.1) ys X.env)) fun σ H Q q => ?_
        obtain ⟨ρ, O, H0, r', j⟩ := q
        simp only [evEd] at j
        refine tE.seq r' j fun d v H1 e1 s1 r1 rl1 j1 => ⟨ρ, O, H0, rl1, (j1.same s1 (fun _ p => p)).bind.imp fun ds e2 p vs H2 s2 rs => ?_⟩
        exact p (v :: vs) H2 (s1.trans s2) (.cons (r1.same s2) rs)
  | .star e r => fun Γ W Wx X C as c n => by
      cases as with
      | nil => simp [chkEd] at c
      | cons y ys =>
        cases y <;> first | (simp [chkEd] at c; done) | skip
        rename_i y yp
        simp only [chkEd, Bool.and_eq_true] at c
        refine PA.mono (StX.pa_star ((allE S e Γ W Wx X C y c.1).1.lk n.l) (allEd S r Γ W Wx X C ys c.2 n.r)) fun σ H Q q => ?_
        obtain ⟨ρ, O, H0, r', j⟩ := q
        simp only [evEd] at j
        refine tP.seq r' j fun d v H1 e1 s1 r1 rl1 j1 => ?_
        cases d <;> first | exact j1.elim | skip
        · rename_i items
          obtain ⟨a, xs, rfl, h1, rx⟩ := r1.list
          refine ⟨a, xs, rfl, .inr (.inl h1), ρ, O, H0, rl1, ?_⟩
          have j2 : JG Wx X.K σ H (fun ds => ∀ vs H', Same H H' → RXs X.K O H' vs ds → Q vs H') ((evEd S r ρ).bind fun ds => .ok (items ++ ds)) := j1
          exact (j2.same s1 (fun _ p => p)).bind.imp fun ds e2 p vs H2 s2 rs => p (xs ++ vs) H2 (s1.trans s2) ((rx.same s2).append rs)
        · rename_i items
          obtain ⟨a, xs, rfl, h1, rx⟩ := r1.tup
          refine ⟨a, xs, rfl, .inl h1, ρ, O, H0, rl1, ?_⟩
          have j2 : JG Wx X.K σ H (fun ds => ∀ vs H', Same H H' → RXs X.K O H' vs ds → Q vs H') ((evEd S r ρ).bind fun ds => .ok (items ++ ds)) := j1
          exact (j2.same s1 (fun _ p => p)).bind.imp fun ds e2 p vs H2 s2 rs => p (xs ++ vs) H2 (s1.trans s2) ((rx.same s2).append rs)
theorem allEs (S : Sig) : ∀ es : Es, AllEs S es
  | .nil => ⟨fun e h => h.elim, fun Γ W Wx X C as c => by
      cases as with
      | cons _ _ => simp [chkEs] at c
      | nil =>
        refine ⟨fun _ => PA.mono pa_nil fun σ H Q q => ?_, fun _ => PA.mono pa_nil fun σ H Q q => ?_⟩
        · obtain ⟨ρ, O, H0, r, j⟩ := q
          simp only [evEs] at j
          exact j [] H (Same.refl H) .nil
        · obtain ⟨ρ, O, H0, r, j⟩ := q
          simp only [evEs] at j
          exact j [] H (Same.refl H) .nil⟩
  | .cons e r => ⟨fun a h => h.elim (fun h => h ▸ allE S e) fun h => (allEs S r).1 a h, fun Γ W Wx X C as c => by
      cases as with
      | nil => simp [chkEs] at c
      | cons y ys =>
        simp only [chkEs, Bool.and_eq_true] at c
        have h1 := (allE S e Γ W Wx X C y c.1).1
        have h2 := (allEs S r).2 Γ W Wx X C ys c.2
        refine ⟨fun n => PA.mono (pa_cons (h1.tk n.l) (h2.1 n.r) (star_of (okX_of c.1) ys X.env)) fun σ H Q q => ?_, fun n => PA.mono (pa_cons (h1.lk n.l) (h2.2 n.r) (star_of (okX_of c.1) ys X.env)) fun σ H Q q => ?_⟩
        · obtain ⟨ρ, O, H0, r', j⟩ := q
          simp only [evEs] at j
          refine tE.seq r' j fun d v H1 e1 s1 r1 rl1 j1 => ⟨ρ, O, H0, rl1, (j1.same s1 (fun _ p => p)).bind.imp fun ds e2 p vs H2 s2 rs => ?_⟩
          exact p (v :: vs) H2 (s1.trans s2) (.cons (r1.same s2) rs)
        · obtain ⟨ρ, O, H0, r', j⟩ := q
          simp only [evEs] at j
          refine tP.seq r' j fun d v H1 e1 s1 r1 rl1 j1 => ⟨ρ, O, H0, rl1, (j1.same s1 (fun _ p => p)).bind.imp fun ds e2 p vs H2 s2 rs => ?_⟩
          exact p (v :: vs) H2 (s1.trans s2) (.cons (r1.same s2) rs)⟩
theorem allEo (S : Sig) : ∀ eo : Eo, AllEo S eo
  | .none => fun Γ W Wx X C => ⟨fun x c _ => by
      cases x <;> first | (simp [chkEo] at c; done) | skip
      refine PO.mono po_none fun σ H Q q => ?_
      obtain ⟨ρ, O, H0, r, j⟩ := q
      simp only [evEo] at j
      exact j H (Same.refl H), fun ifs c _ => by
      cases ifs <;> first | (simp [chkC] at c; done) | skip
      refine ⟨fun pins s σ H Q I q => pts_nil.run pins s σ H Q I ?_⟩
      obtain ⟨ρ, O, H0, r, j⟩ := q
      simp only [evC] at j
      exact j H (Same.refl H)⟩
  | .some e => fun Γ W Wx X C => ⟨fun x c n => by
      cases x <;> first | (simp [chkEo] at c; done) | skip
      rename_i y
      simp only [chkEo] at c
      refine PO.mono (po_some ((allE S e Γ W Wx X C y c).1.tk n)) fun σ H Q q => ?_
      obtain ⟨ρ, O, H0, r, j⟩ := q
      simp only [evEo] at j
      refine tE.seq r j fun d v H1 e1 s1 r1 rl1 j1 => ?_
      cases d <;> first | exact j1.elim | skip
      cases r1
      exact ⟨_, rfl, j1 H1 s1⟩, fun ifs c n => by
      rcases ifs with _ | ⟨y, _ | _⟩ <;> first | (simp [chkC] at c; done) | skip
      simp only [chkC, Bool.and_eq_true] at c
      refine ⟨fun pins s σ H Q I q => (pts_one ((allE S e Γ W Wx X C y c.1).2 c.2 (pk_of n))).run pins s σ H Q I ?_⟩
      obtain ⟨ρ, O, H0, r, j⟩ := q
      simp only [evC] at j
      refine ⟨ρ, O, H0, r, j.bind.imp fun d e1 p => ?_⟩
      cases d <;> first | exact p.elim | skip
      exact ⟨_, rfl, fun H' s => p H' s⟩⟩
theorem allIt (S : Sig) : ∀ it : It, AllIt S it
  | .e a => fun Γ W Wx X tk C t i c n => snd_it_e c (allE S a Γ W Wx X C i (by simpa [chkIt] using c)).1 n
  | .r1 a => fun Γ W Wx X tk C t i c n => snd_it_r1 C c (fun y h => (allE S a Γ W Wx X C y h).1) n
  | .r2 a b => fun Γ W Wx X tk C t i c n => snd_it_r2 C c (fun y h => (allE S a Γ W Wx X C y h).1) (fun y h => (allE S b Γ W Wx X C y h).1) n
  | .r3 a b d => fun Γ W Wx X tk C t i c n => snd_it_r3 C c (fun y h => (allE S a Γ W Wx X C y h).1) (fun y h => (allE S b Γ W Wx X C y h).1) (fun y h => (allE S d Γ W Wx X C y h).1) n
  | .zip a b => fun Γ W Wx X tk C t i c n => snd_it_zip C c (fun y h => (allE S a Γ W Wx X C y h).1) (fun y h => (allE S b Γ W Wx X C y h).1) n
  | .enum a => fun Γ W Wx X tk C t i c n => snd_it_enum C c (fun y h => (allE S a Γ W Wx X C y h).1) n
end
end Fe
set_option Elab.async false
set_option linter.all false
set_option maxRecDepth 100000
set_option maxHeartbeats 4000000
/-! Fe, part H: statements. -/
namespace Fe
open PySem PySem.Spec PyProof.Rows L2

/-- the slots that hold own things, and what the slots hold -/
abbrev Sta := List Nat × Env
inductive SR where
  | nx (s : Sta)
  | rt (d : PD)
  | rf (d : PD)
  | bk (s : Sta)
  | ct (s : Sta)
  | exc (c : Str) (i : Int) (s : Sta)
  | bad
/-- what an except clause answers: e.at | (text, e.at) -/
inductive Hr where
  | at
  | pair (x : Str)
mutual
inductive Sm where
  | set (i : Nat) (e : E)
  | setF (i : Nat) (e : E)
  | par (is : List Nat) (es : Es)
  | parF (i j : Nat) (g h : Bool) (a b : E)
  | unp (t : Tg) (e : E)
  | setIx (i : Nat) (k e : E)
  | app (i : Nat) (e : E)
  | ext (i : Nat) (e : E)
  | ret (e : E)
  | retF (i : Nat)
  | retN
  | ifs (c : E) (a b : Ss)
  | for_ (t : Tg) (it : It) (b : Ss)
  | whl (n : Nat) (c : E) (b : Ss)
  | ex (e : E)
  | rai (c : Str) (e : E)
  | tri (b : Ss) (i : Nat) (hs : List (Str × Hr))
  | pass
  | brk
  | cont
inductive Ss where
  | nil
  | cons (s : Sm) (r : Ss)
end

/-! ### the evaluator of statements -/
def dl (W l : List Nat) : List Nat := W.filter fun i => decide (i ∉ l)
def R.s {α : Type} (r : R α) (s : Sta) (f : α → SR) : SR := match r with
  | .ok a => f a
  | .exc c i => .exc c i s
  | .bad => .bad
def SR.seq (r : SR) (f : Sta → SR) : SR := match r with
  | .nx s => f s
  | r => r
def setL : List Nat → List PD → Env → Env
  | i :: is, d :: ds, ρ => setL is ds (ρ.set i (some d))
  | _, _, ρ => ρ
def forGo (t : Tg) (f : Sta → SR) : List PD → Sta → SR
  | [], s => .nx s
  | d :: ds, s => match tgSet t d s.2 with
    | none => .bad
    | some ρ1 => match f (s.1, ρ1) with
      | .nx s' => forGo t f ds s'
      | .ct s' => forGo t f ds s'
      | .bk s' => .nx s'
      | r => r
def whGo (l : List Nat) (c : Env → R Bool) (f : Sta → SR) : Nat → Sta → SR
  | 0, _ => .bad
  | n + 1, s => (c s.2).s s fun k => if k then (match f (dl s.1 l, s.2) with
      | .nx s' => whGo l c f n s'
      | .ct s' => whGo l c f n s'
      | .bk s' => .nx s'
      | r => r) else .nx (dl s.1 l, s.2)
def putV (d k x : PD) : Option PD := match d, k with
  | .list ds, .int n => (ixN ds.length n).map fun j => .list (ds.set j x)
  | .dict ((k0, v0) :: kvs), k => if (keyOf k0).isSome && ((keyOf k).isSome && decide (kvs.length + 1 < sLine)) then some (.dict (putP ((k0, v0) :: kvs) k x)) else none
  | _, _ => none
def hrV : Hr → Int → PD
  | .at, i => .int i
  | .pair x, i => .tuple [.str x, .int i]
def triGo (sub : Str → Str → Option Bool) (c : Str) (i : Int) (s : Sta) : List (Str × Hr) → SR
  | [] => .exc c i s
  | (x, h) :: r => match sub c x with
    | some true => .rt (hrV h i)
    | some false => triGo sub c i s r
    | none => .bad
def cw (g : Bool) (i : Nat) (W : List Nat) : List Nat := if g = true then i :: W else W
mutual
def evS (S : Sig) : Sm → Sta → SR
  | .set i e, s => (evE S e s.2).s s fun d => .nx (dl s.1 (i :: esc e), s.2.set i (some d))
  | .setF i e, s => (evE S e s.2).s s fun d => if isL d && decide (i < s.2.length) then .nx (i :: dl s.1 (i :: esc e), s.2.set i (some d)) else .bad
  | .par is es, s => (evEs S es s.2).s s fun ds => .nx (dl s.1 (is ++ escs es), setL is ds s.2)
  | .parF i j g h a b, s => (evE S a s.2).s s fun d => if (!g || isL d) && decide (i < s.2.length) then (evE S b s.2).s s fun e => if (!h || isL e) && decide (j < s.2.length) then .nx (cw h j (cw g i (dl s.1 ([i, j] ++ (esc a ++ esc b)))), (s.2.set i (some d)).set j (some e)) else .bad else .bad
  | .unp t e, s => (evE S e s.2).s s fun d => match tgSet t d s.2 with
    | some ρ => .nx (dl s.1 (esc e), ρ)
    | none => .bad
  | .setIx i k e, s => (evE S e s.2).s s fun x => match s.2[i]? with
      | some (some d) => if decide (i ∈ dl s.1 (esc e ++ pk k)) then (evE S k s.2).s s fun y => (match putV d y x with
        | some d' => .nx (dl s.1 (esc e ++ pk k), s.2.set i (some d'))
        | none => .bad) else .bad
      | _ => .bad
  | .app i e, s => match s.2[i]? with
      | some (some (.list ds)) => if decide (i ∈ dl s.1 (esc e)) then (evE S e s.2).s s fun x =>
        if decide (ds.length < sLine) then .nx (dl s.1 (esc e), s.2.set i (some (.list (ds ++ [x])))) else .bad
        else .bad
      | _ => .bad
  | .ext i e, s => match s.2[i]? with
      | some (some (.list ds)) => if decide (i ∈ dl s.1 (esc e)) then (evE S e s.2).s s fun x => (match x with
        | .list xs => if decide (ds.length + xs.length ≤ sLine) then .nx (dl s.1 (esc e), s.2.set i (some (.list (ds ++ xs)))) else .bad
        | _ => .bad) else .bad
      | _ => .bad
  | .ret e, s => (evE S e s.2).s s fun d => .rt d
  | .retN, _ => .rt .none
  | .retF i, s => match s.2[i]? with
      | some (some d) => if decide (i ∈ s.1) then .rf d else .bad
      | _ => .bad
  | .ifs c a b, s => ((evE S c s.2).bind boolOf).s s fun k => if k then evSs S a (dl s.1 (pk c), s.2) else evSs S b (dl s.1 (pk c), s.2)
  | .for_ t it b, s => (evIt S it s.2).s s fun items => forGo t (evSs S b) items (dl s.1 (escItM true it), s.2)
  | .whl n c b, s => whGo (pk c) (fun ρ => (evE S c ρ).bind boolOf) (evSs S b) n s
  | .ex e, s => (evE S e s.2).s s fun _ => .nx (dl s.1 (esc e), s.2)
  | .rai c e, s => ((evE S e s.2).bind intOf).s s fun i => .exc c i (dl s.1 (esc e), s.2)
  | .tri b i hs, s => match evSs S b s with
    | .exc c k s' => if decide (i < s'.2.length) then triGo S.X c k s' hs else .bad
    | r => r
  | .pass, s => .nx s
  | .brk, s => .bk s
  | .cont, s => .ct s
def evSs (S : Sig) : Ss → Sta → SR
  | .nil, s => .nx s
  | .cons a r, s => match evS S a s with
    | .nx s' => evSs S r s'
    | z => z
end

/-! ### what stands while a body runs -/
/-- F stays as things are owned, written or let go -/
structure Frm (F : (Addr → Prop) → Hp → Prop) (Oc : Addr → Prop) (H0 : Hp) : Prop where
  lift : ∀ O H O' H', Lift O H O' H' → F O H → F O' H'
  dom : Dom Oc H0
structure RelS (F : (Addr → Prop) → Hp → Prop) (Γ : Gam) (K : PySem.W.Frag) (Oc : Addr → Prop) (H0 : Hp) (s : Sta) (σ : L2.St) (H : Hp) : Prop where
  ex : ∃ O, F O H ∧ (∀ a, Oc a → O a) ∧ Rel K s.1 O H0 s.2 σ H
  sub : ∀ i ∈ s.1, i ∈ Γ.W
def JS (F : (Addr → Prop) → Hp → Prop) (Γ : Gam) (Wx : WX) (K : PySem.W.Frag) (Oc : Addr → Prop) (H0 : Hp) (D : Ends) : SR → Prop
  | .nx s => ∀ σ H, RelS F Γ K Oc H0 s σ H → D.nx σ H
  | .rt d => ∀ v H, Same H0 H → RX K Oc H v d → D.rt v H
  | .rf d => ∀ p H, H0 p = none → Same H0 H → Own K (fun b => Oc b ∨ b = p) H p d → D.rt (.ref p) H
  | .bk s => ∀ σ H, RelS F Γ K Oc H0 s σ H → D.bk σ H
  | .ct s => ∀ σ H, RelS F Γ K Oc H0 s σ H → D.ct σ H
  | .exc c i s => ∀ σ H cls dd, RelS F Γ K Oc H0 s σ H → XRep K H cls dd c i → Wx cls dd σ H
  | .bad => False
def tS (S : Sig) (Wx : WX) (K : PySem.W.Frag) (Γ : Gam) (st : Sm) : TS := fun D σ H => ∃ F Oc H0 s, Frm F Oc H0 ∧ RelS F Γ K Oc H0 s σ H ∧ JS F Γ Wx K Oc H0 D (evS S st s)
def tSs (S : Sig) (Wx : WX) (K : PySem.W.Frag) (Γ : Gam) (st : Ss) : TS := fun D σ H => ∃ F Oc H0 s, Frm F Oc H0 ∧ RelS F Γ K Oc H0 s σ H ∧ JS F Γ Wx K Oc H0 D (evSs S st s)

theorem mem_dl {W l : List Nat} {i : Nat} : i ∈ dl W l ↔ i ∈ W ∧ i ∉ l := by simp [dl]
theorem ndj_dl {W l m : List Nat} (h : ∀ i ∈ m, i ∈ l) : ndj (dl W l) m := fun i hi z => (mem_dl.mp z).2 (h i hi)
/-- own things are let go -/
theorem Rel.unown {K : PySem.W.Frag} {W : List Nat} {O Oc : Addr → Prop} {H0 : Hp} {ρ : Env} {σ : L2.St} {H : Hp} (r : Rel K W O H0 ρ σ H) (l : List Nat) (hc : ∀ a, Oc a → O a) (hd : Dom Oc H0) :
    ∃ O', (∀ a, O' a → O a) ∧ (∀ a, Oc a → O' a) ∧ Rel K (dl W l) O' H0 ρ σ H := by
  let O' : Addr → Prop := fun a => O a ∧ ¬ ∃ i d, i ∈ W ∧ i ∈ l ∧ ρ[i]? = some (some d) ∧ σ[i]? = some (some (.ref a))
  have L : Lift O H O' H := Lift.less fun _ h => h.1
  refine ⟨O', fun _ h => h.1, fun a h => ⟨hc a h, fun ⟨i, d, h1, _, h3, h4⟩ => ?_⟩, r.len, fun i d n e => ?_, fun i d n e => ?_, fun a h => r.dom a h.1, r.sam⟩
  · obtain ⟨b, e1, _, e2, _⟩ := r.own i d h1 h3
    rw [e1] at h4
    have : b = a := by simpa using h4
    exact hd a h (this ▸ e2)
  · by_cases c : i ∈ W
    · have il : i ∈ l := by
        by_cases z : i ∈ l
        · exact z
        · exact absurd (mem_dl.mpr ⟨c, z⟩) n
      obtain ⟨a, e1, h1, h2, h3, h4⟩ := r.own i d c e
      exact ⟨_, e1, (h3.lift L rfl).rx fun z => z.2 ⟨i, d, c, il, e, e1⟩⟩
    · obtain ⟨v, e1, h⟩ := r.val i d c e
      exact ⟨v, e1, h.lift L⟩
  · obtain ⟨c, il⟩ := mem_dl.mp n
    obtain ⟨a, e1, h1, h2, h3, h4⟩ := r.own i d c e
    refine ⟨a, e1, ⟨h1, fun ⟨j, d', g1, g2, g3, g4⟩ => ?_⟩, h2, h3.lift L rfl, fun j e2 hj ne h5 => h4 j e2 (mem_dl.mp hj).1 ne h5⟩
    exact h4 j d' g1 (fun z => il (z ▸ g2)) g3 g4
/-- an own thing is written -/
theorem Rel.write {K : PySem.W.Frag} {W : List Nat} {O : Addr → Prop} {H0 : Hp} {ρ : Env} {σ : L2.St} {H : Hp} {i : Nat} {d d' : PD} {a : Addr} {o : HO} (r : Rel K W O H0 ρ σ H) (hi : i ∈ W) (e : ρ[i]? = some (some d))
    (ea : σ[i]? = some (some (.ref a))) (ho : Own K O (upd H a o) a d') : Rel K W O H0 (ρ.set i (some d')) σ (upd H a o) ∧ Lift O H O (upd H a o) := by
  obtain ⟨b, e1, h1, h2, h3, h4⟩ := r.own i d hi e
  rw [e1] at ea
  have : b = a := by simpa using ea
  subst this
  obtain ⟨u, g1, g2⟩ := h3.mut
  have L : Lift O H O (upd H b o) := Lift.upd h1 g1 g2
  refine ⟨⟨by simp [r.len], fun j e2 hj h => ?_, fun j e2 hj h => ?_, fun c hc => ?_, fun c x hx => ?_⟩, L⟩
  · have ne : i ≠ j := fun z => hj (z ▸ hi)
    rw [get_set, if_neg ne] at h
    obtain ⟨v, k1, k2⟩ := r.val j e2 hj h
    exact ⟨v, k1, k2.lift L⟩
  · by_cases c : i = j
    · subst c
      have il : i < ρ.length := by
        by_cases z : i < ρ.length
        · exact z
        · rw [List.getElem?_eq_none (by omega)] at e; cases e
      rw [get_set, if_pos rfl, if_pos il] at h
      have : d' = e2 := by simpa using h
      subst this
      refine ⟨b, e1, h1, h2, ho, fun k e3 hk nk h6 => ?_⟩
      rw [get_set, if_neg (fun z => nk z.symm)] at h6
      exact h4 k e3 hk nk h6
    · rw [get_set, if_neg c] at h
      obtain ⟨a', k1, k2, k3, k4, k5⟩ := r.own j e2 hj h
      have ne : a' ≠ b := fun z => k5 i d hi c e (by rw [e1, z])
      refine ⟨a', k1, k2, k3, k4.lift L (upd_ne ne), fun k e3 hk nk h6 => ?_⟩
      rw [get_set] at h6
      split at h6
      · rename_i z
        subst z
        intro z
        rw [e1] at z
        exact ne (by simpa using z.symm)
      · exact k5 k e3 hk nk h6
  · by_cases z : c = b
    · rw [z, upd_same]; simp
    · rw [upd_ne z]; exact r.dom c hc
  · rw [upd_ne (ne_of_none hx h2)]
    exact r.sam c x hx
/-- a new thing is put into an own slot -/
theorem Rel.take {K : PySem.W.Frag} {W : List Nat} {O : Addr → Prop} {H0 : Hp} {ρ : Env} {σ : L2.St} {H H' : Hp} {i : Nat} {d : PD} {p : Addr} (r : Rel K W O H0 ρ σ H) (hi : i ∉ W) (il : i < ρ.length) (n : H p = none) (s : Same H H') (ho : Own K (fun b => O b ∨ b = p) H' p d) :
    Rel K (i :: W) (fun b => O b ∨ b = p) H0 (ρ.set i (some d)) (σ.set i (some (.ref p))) H' ∧ Lift O H (fun b => O b ∨ b = p) H' := by
  have L : Lift O H (fun b => O b ∨ b = p) H' := (Lift.own n).trans (Lift.same s)
  have n0 : H0 p = none := by
    cases z : H0 p with
    | none => rfl
    | some u =>
      have := r.sam _ _ z
      rw [n] at this
      cases this
  have il' : i < σ.length := by rw [r.len]; exact il
  have np : ∀ {j : Nat} {e : PD} {a : Addr}, j ∈ W → ρ[j]? = some (some e) → σ[j]? = some (some (.ref a)) → a ≠ p := fun {j e a} hj h1 h2 z => by
    obtain ⟨b, k1, k2, k3, k4, k5⟩ := r.own j e hj h1
    rw [k1] at h2
    have : b = a := by simpa using h2
    obtain ⟨u, g1, _⟩ := k4.mut
    rw [this, z, n] at g1
    cases g1
  refine ⟨⟨by simp [r.len], fun j e2 hj h => ?_, fun j e2 hj h => ?_, fun c hc => ?_, r.sam.trans s⟩, L⟩
  · simp only [List.mem_cons, not_or] at hj
    rw [get_set, if_neg (fun z => hj.1 z.symm)] at h ⊢
    obtain ⟨v, k1, k2⟩ := r.val j e2 hj.2 h
    exact ⟨v, k1, k2.lift L⟩
  · by_cases c : i = j
    · subst c
      rw [get_set, if_pos rfl, if_pos il] at h
      have : d = e2 := by simpa using h
      subst this
      refine ⟨p, by rw [get_set, if_pos rfl, if_pos il'], .inr rfl, n0, ho, fun k e3 hk nk h6 => ?_⟩
      have hk' : k ∈ W := by
        rcases List.mem_cons.mp hk with z | z
        · exact absurd z nk
        · exact z
      rw [get_set, if_neg (fun z => nk z.symm)] at h6 ⊢
      exact fun z => np hk' h6 z rfl
    · have hj' : j ∈ W := by
        rcases List.mem_cons.mp hj with z | z
        · exact absurd z.symm c
        · exact z
      rw [get_set, if_neg c] at h
      obtain ⟨a', k1, k2, k3, k4, k5⟩ := r.own j e2 hj' h
      refine ⟨a', by rw [get_set, if_neg c]; exact k1, .inl k2, k3, k4.lift L ?_, fun k e3 hk nk h6 => ?_⟩
      · obtain ⟨u, g1, _⟩ := k4.mut
        rw [g1, s _ _ g1]
      · rw [get_set] at h6 ⊢
        by_cases ck : i = k
        · rw [if_pos ck, if_pos il']
          intro z
          have : p = a' := by simpa using z
          exact np hj' h k1 this.symm
        · rw [if_neg ck] at h6 ⊢
          rcases List.mem_cons.mp hk with z | z
          · exact absurd z.symm ck
          · exact k5 k e3 z nk h6
  · rcases hc with hc | hc
    · exact (r.dom.same s) c hc
    · rw [hc]
      obtain ⟨u, g1, _⟩ := ho.mut
      rw [g1]; simp
end Fe
set_option Elab.async false
set_option linter.all false
set_option maxRecDepth 100000
set_option maxHeartbeats 4000000
/-! Fe, part I: statements are what the evaluator says. -/
namespace Fe
open PySem PySem.Spec PyProof.Rows L2

/-! ### unions -/
section
variable {X : Cx} {P : List Nat → Prop}
theorem PE.un {e : Expr} {t : List Nat → TE} (h : ∀ W, P W → PE X e (t W)) : PE X e (fun σ H Q => ∃ W, P W ∧ t W σ H Q) := ⟨fun pins s σ H Q I ⟨W, p, q⟩ => (h W p).run pins s σ H Q I q⟩
theorem PT.un {e : Expr} {t : List Nat → TT} (h : ∀ W, P W → PT X e (t W)) : PT X e (fun σ H Q => ∃ W, P W ∧ t W σ H Q) := ⟨fun pins s σ H Q I ⟨W, p, q⟩ => (h W p).run pins s σ H Q I q⟩
theorem PA.un {e : List Expr} {t : List Nat → TA} (h : ∀ W, P W → PA X e (t W)) : PA X e (fun σ H Q => ∃ W, P W ∧ t W σ H Q) := ⟨fun pos pins s σ H Q I ⟨W, p, q⟩ => (h W p).run pos pins s σ H Q I q⟩
theorem PI.un {g e : Expr} {t : List Nat → TI} (h : ∀ W, P W → PI X g e (t W)) : PI X g e (fun σ H Q => ∃ W, P W ∧ t W σ H Q) := ⟨fun pins s σ H Q I ⟨W, p, q⟩ => (h W p).run pins s σ H Q I q⟩
theorem PG.un {e : Expr} {t : List Nat → TG} (h : ∀ W, P W → PG X e (t W)) : PG X e (fun v σ H Q => ∃ W, P W ∧ t W v σ H Q) := ⟨fun pins s σ H v u Q I r ⟨W, p, q⟩ => (h W p).run pins s σ H v u Q I r q⟩
theorem PS.un {e : Stmt} {t : List Nat → TS} (h : ∀ W, P W → PS X e (t W)) : PS X e (fun D σ H => ∃ W, P W ∧ t W D σ H) := ⟨fun pins s σ H Q I ⟨W, p, q⟩ => (h W p).run pins s σ H Q I q⟩
end
section
variable {F : (Addr → Prop) → Hp → Prop} {Γ : Gam} {K : PySem.W.Frag} {Oc : Addr → Prop} {H0 H H' : Hp} {s : Sta} {σ : L2.St} {Wx : WX} {D : Ends}
theorem RelS.same (f : Frm F Oc H0) (r : RelS F Γ K Oc H0 s σ H) (sm : Same H H') : RelS F Γ K Oc H0 s σ H' := by
  obtain ⟨⟨O, h1, h2, h3⟩, h4⟩ := r
  exact ⟨⟨O, f.lift _ _ _ _ (Lift.same sm) h1, h2, h3.same sm⟩, h4⟩
theorem RelS.un (f : Frm F Oc H0) (r : RelS F Γ K Oc H0 s σ H) (l : List Nat) : ∃ O', F O' H ∧ (∀ a, Oc a → O' a) ∧ Rel K (dl s.1 l) O' H0 s.2 σ H := by
  obtain ⟨⟨O, h1, h2, h3⟩, h4⟩ := r
  obtain ⟨O', k1, k2, k3⟩ := h3.unown l h2 f.dom
  exact ⟨O', f.lift _ _ _ _ (Lift.less k1) h1, k2, k3⟩
theorem RelS.subd (r : RelS F Γ K Oc H0 s σ H) (l : List Nat) : ∀ i ∈ dl s.1 l, i ∈ Γ.W := fun i h => r.sub i (mem_dl.mp h).1
theorem JS.jg {α : Type} {r : R α} {g : α → SR} {P : α → Prop} (f : Frm F Oc H0) (rl : RelS F Γ K Oc H0 s σ H) (j : JS F Γ Wx K Oc H0 D (r.s s g)) (k : ∀ a, r = .ok a → JS F Γ Wx K Oc H0 D (g a) → P a) : JG Wx K σ H P r := by
  cases r with
  | ok a => exact k a rfl j
  | exc c i => exact fun cls dd H' sm x => j σ H' cls dd (rl.same f sm) x
  | bad => exact j
end
/-- the slots W, of the mutated ones, away from l -/
def PW' (Γ : Gam) (l : List Nat) (W : List Nat) : Prop := (∀ i ∈ W, i ∈ Γ.W) ∧ ndj W l

/-! ### the check -/
def swB (sc : Scope) (y : Str) (py : Pos) (v : Expr) : Bool := match v with
  | .ListComp _ _ s p => decide (sc.names.lookup y = some .local) && (py.line == p.line && !(s.names.any fun (n, k) => n == y && (k == .local || k == .cell)))
  | _ => false
def headOk (x : Expr) : Bool := match x with
  | .Name .. => true
  | _ => false
/-- no plain local name -/
def notLoc (sc : Scope) : Expr → Bool
  | .Name x _ => !decide (sc.names.lookup x = some .local)
  | _ => true
def chkPar3 (Γ : Gam) (i j l : Nat) (es : Es) : Stmt → Bool
  | .Assign [.Tuple [.Name y p, .Name z q, .Name w r] _ _] (.Tuple [a, b, c] _ _) _ =>
    decide (Γ.N[i]? = some y) && (decide (Γ.N[j]? = some z) && (decide (Γ.N[l]? = some w) && (decide (i ≠ j ∧ i ≠ l ∧ j ≠ l) && (decide (Γ.sc.names.lookup y = some .local) && (decide (Γ.sc.names.lookup z = some .local) && (decide (Γ.sc.names.lookup w = some .local) &&
      (chkEs Γ es [a, b, c] && (p.line == q.line && (p.line == r.line && (!([a, b, c].all (foldedForSure 8)) && !([a, b, c].all (constantsAlone 8)))))))))))) 
  | _ => false
def chkPar (Γ : Gam) (i j : Nat) (es : Es) : Stmt → Bool
  | .Assign [.Tuple [.Name y p, .Name z q] _ _] (.Tuple [a, b] _ _) _ =>
    decide (Γ.N[i]? = some y) && (decide (Γ.N[j]? = some z) && (decide (i ≠ j) && (decide (Γ.sc.names.lookup y = some .local) && (decide (Γ.sc.names.lookup z = some .local) && (chkEs Γ es [a, b] && (p.line == q.line && (!([a, b].all (foldedForSure 8)) && !([a, b].all (constantsAlone 8)))))))))
  | _ => false
def chkRai (Γ : Gam) (c : Str) (e : E) : Stmt → Bool
  | .Raise (some (.Call (.Name y _) [v] [] _)) none _ => decide (c = y) && (decide (c ∈ Γ.C) && (glb Γ.sc c && (nodb c && chkE Γ e v)))
  | _ => false
/-- e.at | (text, e.at) -/
def chkHr (n : Str) : Hr → Expr → Bool
  | .at, .Attribute (.Name y _) m _ => decide (y = n) && decide (m = ("at" : Str))
  | .pair x, .Tuple [.Constant (.str z) _ _, .Attribute (.Name y _) m _] _ _ => decide (x = z) && (PyData.strOk x && (decide (y = n) && decide (m = ("at" : Str))))
  | _, _ => false
def chkHd (Γ : Gam) (i : Nat) (x : Str) (h : Hr) : ExceptHandler → Bool
  | .ExceptHandler (some (.Name y _)) (some n) [.Return (some e) _] _ => decide (y = x) && (decide (x ∈ Γ.C) && (glb Γ.sc x && (nodb x && (decide (Γ.N[i]? = some n) && (decide (Γ.sc.names.lookup n = some .local) && (nodb n && (decide (i ∉ Γ.W) && chkHr n h e)))))))
  | _ => false
def chkHds (Γ : Gam) (i : Nat) : List (Str × Hr) → List ExceptHandler → Bool
  | [], [] => true
  | (x, h) :: r, e :: es => chkHd Γ i x h e && chkHds Γ i r es
  | _, _ => false
mutual
def chkS (Γ : Gam) : Sm → Stmt → Bool
  | .set i e, .Assign [.Name y _] v _ => decide (Γ.N[i]? = some y) && (stOk Γ y && chkE Γ e v)
  | .setF i e, .Assign [.Name y _] v _ => decide (Γ.N[i]? = some y) && (stOk Γ y && (chkE Γ e v && (isF e && decide (i ∈ Γ.W))))
  | .par [i, j] es, x => chkPar Γ i j es x
  | .par [i, j, l] es, x => chkPar3 Γ i j l es x
  | .parF i j g h a b, x => chkPar Γ i j (.cons a (.cons b .nil)) x && ((!g || (isF a && decide (i ∈ Γ.W))) && (!h || (isF b && decide (j ∈ Γ.W))))
  | .unp t e, .Assign [.Tuple ts k p] v _ => chkTg Γ t (.Tuple ts k p) && (chkE Γ e v && ((match v with
    | .Tuple vs _ _ => vs.all (foldedForSure 8) || (!(ts.length == 2 || ts.length == 3) || ts.any (notLoc Γ.sc))
    | _ => true)))
  | .setIx i k e, .Assign [.Subscript (.Name y _) kx _] v _ => decide (Γ.N[i]? = some y) && (vis Γ.sc y && (nodb y && (chkE Γ k kx && (chkE Γ e v && !isLC v))))
  | .app i e, .Expr (.Call (.Attribute (.Name y _) m ap) [v] [] cp) _ => decide (m = ("append" : Str)) && (decide (Γ.N[i]? = some y) && (vis Γ.sc y && (nodb y && (chkE Γ e v && ap.endLine == cp.line))))
  | .ext i e, .Expr (.Call (.Attribute (.Name y _) m ap) [v] [] cp) _ => decide (m = ("extend" : Str)) && (decide (Γ.N[i]? = some y) && (vis Γ.sc y && (nodb y && (chkE Γ e v && ap.endLine == cp.line))))
  | .ret e, .Return (some v) _ => chkE Γ e v
  | .retN, .Return none _ => true
  | .retF i, .Return (some (.Name y _)) _ => decide (Γ.N[i]? = some y) && (vis Γ.sc y && nodb y)
  | .ifs c a b, .If x p q _ => chkE Γ c x && (tOk c && (chkSs Γ a p && chkSs Γ b q))
  | .for_ t it b, .For tg x p [] _ => chkIt Γ it tg x && (chkTg Γ t tg && chkSs Γ b p)
  | .whl _ c b, .While x p [] _ => chkE Γ c x && (tOk c && chkSs Γ b p)
  | .ex e, .Expr v _ => chkE Γ e v && !isLC v
  | .rai c e, x => chkRai Γ c e x
  | .tri b i hs, .Try p hds [] [] _ => chkHds Γ i hs hds && (!hds.isEmpty && chkSs Γ b p)
  | .pass, .Pass _ => true
  | .brk, .Break _ => true
  | .cont, .Continue _ => true
  | _, _ => false
def chkSs (Γ : Gam) : Ss → List Stmt → Bool
  | .nil, [] => true
  | .cons a r, x :: xs => chkS Γ a x && chkSs Γ r xs
  | _, _ => false
end

/-! ### where statements stand -/
/-- an own error made: its class, its number -/
def tMk (K : PySem.W.Frag) (c : Str) (t : TE) : L2.St → Hp → XK → Prop := fun σ H Q => t σ H fun v H1 => ∃ i, v = .int i ∧ ∀ cls dd H2, Same H1 H2 → XRep K H2 cls dd c i → Q cls dd H2
structure CxtS (S : Sig) (Γ : Gam) (Wx : WX) (X : Cx) : Prop where
  c : Cxt S Γ [] Wx X
  po : PassesOwn (model X.prog X.w) X.A X.env X.xe
  kf : X.env.scope.kind = .function
  stk : X.stack = X.env :: X.outer
  frm : X.env.frame = some X.env.locals
  cmg : ∀ x ∈ Γ.C, X.mg x = some (.ref (He.ga X.K x))
  exm : ∀ c x b, S.X c x = some b → x ∈ Γ.C → PySem.W.exmOne X.K (.ref (He.ga X.K c)) (.ref (He.ga X.K x)) = some b ∧ XfC X.K (He.ga X.K c) ∧ PySem.W.findIn X.K (.ref (He.ga X.K c)) "at" = some none
  mke : ∀ pn xe c, c ∈ Γ.C → glb Γ.sc c = true → nodb c = true → ∀ (x : Expr) (t : TE) (p pos : Pos), okX x = true → PE (X.tr pn xe) x t → PMk (X.tr pn xe) (.Call (.Name c p) [x] [] pos) (tMk X.K c t)
section
variable {S : Sig} {Γ : Gam} {Wx : WX} {X : Cx}
theorem CxtS.at {W : List Nat} (C : CxtS S Γ Wx X) (h : ∀ i ∈ W, i ∈ Γ.W) : Cxt S Γ W Wx X := { C.c with sub := h }
theorem CxtS.hN (C : CxtS S Γ Wx X) : X.N.Nodup := by rw [C.c.N]; exact C.c.nd
theorem CxtS.nth (C : CxtS S Γ Wx X) {i : Nat} {y : Str} (h : Γ.N[i]? = some y) : X.N[i]? = some y := by rw [C.c.N]; exact h
theorem CxtS.tk (C : CxtS S Γ Wx X) {e : E} {x : Expr} (h : chkE Γ e x = true) : PE X x (fun σ H Q => ∃ W, PW' Γ (esc e) W ∧ tE S Wx X.K W e σ H Q) := PE.un fun W p => (allE S e Γ W Wx X (C.at p.1) x h).1.tk p.2
theorem CxtS.lk (C : CxtS S Γ Wx X) {e : E} {x : Expr} (h : chkE Γ e x = true) : PE X x (fun σ H Q => ∃ W, PW' Γ (pk e) W ∧ tP S Wx X.K W e σ H Q) := PE.un fun W p => (allE S e Γ W Wx X (C.at p.1) x h).1.lk p.2
theorem CxtS.tt (C : CxtS S Γ Wx X) {e : E} {x : Expr} (h : chkE Γ e x = true) (t : tOk e = true) : PT X x (fun σ H Q => ∃ W, PW' Γ (pk e) W ∧ tT S Wx X.K W e σ H Q) := PT.un fun W p => (allE S e Γ W Wx X (C.at p.1) x h).2 t p.2

/-! ### name = value -/
theorem swB_spec {y : Str} {py : Pos} {elt : Expr} {gs : List Comprehension} {scope : Scope} {pos : Pos} {l : Nat} {env : PySem.Env} (hk : env.scope.kind = .function) : swapsWith (.ListComp elt gs scope pos) (some (.Name y py)) l env = pure (swB env.scope y py (.ListComp elt gs scope pos)) := by
  have hb : env.blockKind = .function := by unfold PySem.Env.blockKind; rw [hk] <;> rfl
  have hkk : (env.kindOf y == some NameKind.local) = decide (env.scope.names.lookup y = some .local) := by
    show (env.scope.names.lookup y == some NameKind.local) = _
    rw [Bool.eq_iff_iff]
    simp
  unfold swapsWith
  simp only [hb, hkk, Expr.pos]
  unfold swB
  have : (ScopeKind.function == ScopeKind.function) = true := rfl
  simp only [this, Bool.true_and, Bool.and_assoc]
theorem lc_of {e : E} {x : Expr} (h : chkE Γ e x = true) (l : isLC x = true) : ∃ elt tg it cs own, e = .comp elt tg it cs own := by
  cases e <;> first | exact ⟨_, _, _, _, _, rfl⟩ | skip
  all_goals cases x <;> first | (simp [chkE] at h; done) | (simp [isLC] at l; done)
theorem asg_ps {W : List Nat} (C : CxtS S Γ Wx X) {e : E} {v : Expr} {i : Nat} {y : Str} {py pos : Pos} (hi : Γ.N[i]? = some y) (hy : stOk Γ y = true) (hv : chkE Γ e v = true) (p : PW' Γ (esc e) W) :
    PS X (.Assign [.Name y py] v pos) (tAsg (tE S Wx X.K W e) (gName i)) ∧ (isF e = true → PS X (.Assign [.Name y py] v pos) (tAsg (tF S Wx X.K W e) (gName i))) := by
  have hn := (allE S e Γ W Wx X (C.at p.1) v hv).1
  obtain ⟨g1, g2⟩ := C.c.sto y hy
  by_cases l : isLC v = true
  · obtain ⟨elt, tg, it, cs, own, rfl⟩ := lc_of hv l
    cases v <;> first | (simp [isLC] at l; done) | (simp [chkE] at hv; done) | skip
    rename_i ex gens sc cp
    cases sw : swB X.env.scope y py (.ListComp ex gens sc cp) with
    | false =>
      have hs : swapsWith (.ListComp ex gens sc cp) (some (.Name y py)) pos.line X.env = pure false := by rw [swB_spec C.kf, sw]
      exact ⟨ps_set C.hN (C.nth hi) g1 (hn.tk p.2) hs g2, fun f => ps_set C.hN (C.nth hi) g1 (hn.nw f p.2) hs g2⟩
    | true =>
      have hs : swapsWith (.ListComp ex gens sc cp) (some (.Name y py)) pos.line X.env = pure true := by rw [swB_spec C.kf, sw]
      have hl : X.env.scope.names.lookup y = some .local := by
        unfold swB at sw
        simp only [Bool.and_eq_true, decide_eq_true_eq] at sw
        exact sw.1
      obtain ⟨t', _, q, k⟩ := comp_key (C.at p.1) hv (fun t i h n => allIt S it Γ W Wx X false (C.at p.1) t i h n) (fun Γ' X' C' ifs h n => (allEo S cs Γ' W W0 X' C').2 ifs h n) (fun Γ' X' C' y h => (allE S elt Γ' W W0 X' C' y h).1) p.2
      have q := q i y py pos (C.nth hi) hl hs
      exact ⟨PS.mono q fun D σ H z => k _ _ _ (comp_EF z), fun _ => PS.mono q fun D σ H z => k _ _ _ z⟩
  · have l' : isLC v = false := by simpa using l
    have hs := swaps_of (okX_of hv) l' (some (.Name y py)) pos.line X.env
    exact ⟨ps_set C.hN (C.nth hi) g1 (hn.tk p.2) hs g2, fun f => ps_set C.hN (C.nth hi) g1 (hn.nw f p.2) hs g2⟩
theorem snd_set (C : CxtS S Γ Wx X) {i : Nat} {e : E} {x : Stmt} (h : chkS Γ (.set i e) x = true) : PS X x (tS S Wx X.K Γ (.set i e)) := by
  cases x <;> first | (simp [chkS] at h; done) | skip
  rename_i ts v pos
  rcases ts with _ | ⟨t, ts⟩ <;> first | (simp [chkS] at h; done) | skip
  cases t <;> first | (simp [chkS] at h; done) | skip
  cases ts <;> first | (simp [chkS] at h; done) | skip
  rename_i y py
  simp only [chkS, Bool.and_eq_true, decide_eq_true_eq] at h
  obtain ⟨h1, h2, h3⟩ := h
  refine PS.mono (PS.un (P := PW' Γ (esc e)) (t := fun W => tAsg (tE S Wx X.K W e) (gName i)) fun W p => (asg_ps C h1 h2 h3 (py := py) (pos := pos) p).1) fun D σ H q => ?_
  obtain ⟨F, Oc, H0, s, f, r, j⟩ := q
  simp only [evS] at j
  obtain ⟨O, k1, k2, k3⟩ := r.un f (i :: esc e)
  refine ⟨dl s.1 (i :: esc e), ⟨r.subd _, ndj_dl fun _ z => List.mem_cons_of_mem _ z⟩, s.2, O, H0, k3, JS.jg f r j fun d _ jd v H' sm rv => ?_⟩
  exact jd _ _ ⟨⟨O, f.lift _ _ _ _ (Lift.same sm) k1, k2, (k3.same sm).set (fun z => (mem_dl.mp z).2 (List.mem_cons_self ..)) rv⟩, r.subd _⟩
theorem snd_setF (C : CxtS S Γ Wx X) {i : Nat} {e : E} {x : Stmt} (h : chkS Γ (.setF i e) x = true) : PS X x (tS S Wx X.K Γ (.setF i e)) := by
  cases x <;> first | (simp [chkS] at h; done) | skip
  rename_i ts v pos
  rcases ts with _ | ⟨t, ts⟩ <;> first | (simp [chkS] at h; done) | skip
  cases t <;> first | (simp [chkS] at h; done) | skip
  cases ts <;> first | (simp [chkS] at h; done) | skip
  rename_i y py
  simp only [chkS, Bool.and_eq_true, decide_eq_true_eq] at h
  obtain ⟨h1, h2, h3, h4, h5⟩ := h
  refine PS.mono (PS.un (P := PW' Γ (esc e)) (t := fun W => tAsg (tF S Wx X.K W e) (gName i)) fun W p => (asg_ps C h1 h2 h3 (py := py) (pos := pos) p).2 h4) fun D σ H q => ?_
  obtain ⟨F, Oc, H0, s, f, r, j⟩ := q
  simp only [evS] at j
  obtain ⟨O, k1, k2, k3⟩ := r.un f (i :: esc e)
  refine ⟨dl s.1 (i :: esc e), ⟨r.subd _, ndj_dl fun _ z => List.mem_cons_of_mem _ z⟩, s.2, O, H0, k3, JS.jg f r j fun d _ jd => ?_⟩
  split at jd
  · rename_i c
    simp only [Bool.and_eq_true, decide_eq_true_eq] at c
    refine ⟨c.1, fun p H' n sm o => ?_⟩
    obtain ⟨q1, q2⟩ := k3.take (fun z => (mem_dl.mp z).2 (List.mem_cons_self ..)) c.2 n sm o
    refine jd _ _ ⟨⟨_, f.lift _ _ _ _ q2 k1, fun a z => .inl (k2 a z), q1⟩, fun j hj => ?_⟩
    rcases List.mem_cons.mp hj with z | z
    · rw [z]; exact h5
    · exact r.subd _ j z
  · exact jd.elim
/-- the two of a swap -/
theorem swp2 {y z : Str} {p q pt p2 : Pos} {kt k2 : Nat} {a b : Expr} {env : PySem.Env} (hk : env.scope.kind = .function) (hy : env.scope.names.lookup y = some .local) (hz : env.scope.names.lookup z = some .local) (ne : y ≠ z) (oa : okX a = true) (ob : okX b = true)
    (l : (p.line == q.line) = true) (f1 : [a, b].all (foldedForSure 8) = false) (f2 : [a, b].all (constantsAlone 8) = false) :
    swappedStores [.Tuple [.Name y p, .Name z q] kt pt] (.Tuple [a, b] k2 p2) env = pure (some [y, z]) := by
  have hb : env.blockKind = .function := by unfold PySem.Env.blockKind; rw [hk] <;> rfl
  have h1 : (env.kindOf y == some NameKind.local) = true := by
    show (env.scope.names.lookup y == some NameKind.local) = true
    rw [hy] <;> rfl
  have h2 : (env.kindOf z == some NameKind.local) = true := by
    show (env.scope.names.lookup z == some NameKind.local) = true
    rw [hz] <;> rfl
  have hq : (q.line == p.line) = true := by
    rw [beq_iff_eq] at l ⊢
    exact l.symm
  have hst : ([a, b].any fun | .Starred .. => true | _ => false) = false := by
    cases a <;> first | (simp [okX] at oa; done) | skip
    all_goals cases b <;> first | (simp [okX] at ob; done) | rfl
  have hp : (p.line == p.line) = true := by simp
  have hd : (z == y) = false := by simpa using fun e : z = y => ne e.symm
  have e1 : ([Expr.Name y p, Expr.Name z q].filterMap fun
    | .Name id pos => if env.kindOf id == some .local && pos.line == p.line then some id else none
    | _ => none) = [y, z] := by
    simp only [List.filterMap_cons, List.filterMap_nil, h1, h2, hp, hq, Bool.and_self, if_true]
  have e2 : ([y, z].eraseDups.length != 2) = false := by
    have : [y, z].eraseDups = [y, z] := by
      simp only [List.eraseDups, List.eraseDupsBy, List.eraseDupsBy.loop, List.any_cons, List.any_nil, hd, Bool.or_false]
      rfl
    rw [this] <;> rfl
  unfold swappedStores
  refine (if_neg ?_).trans ((if_neg ?_).trans ((if_neg ?_).trans ((if_neg ?_).trans ((if_neg ?_).trans ?_))))
  · show ¬ ((!(true || false) || false || env.blockKind != .function) = true)
    rw [hb]
    decide
  · exact Bool.eq_false_iff.mp hst
  · have key : ∀ l : List Str, l = [y, z] → ¬ ((l.length != [Expr.Name y p, Expr.Name z q].length || l.eraseDups.length != l.length) = true) := fun l e => by
      rw [e]
      show ¬ ((false || [y, z].eraseDups.length != 2) = true)
      rw [e2]
      decide
    exact key _ e1
  · exact Bool.eq_false_iff.mp f1
  · exact Bool.eq_false_iff.mp f2
  · exact congrArg (fun l => (pure (some l) : Sem (Option (List Str)))) e1
def isSt : Expr → Bool
  | .Starred .. => true
  | _ => false
theorem isSt_of {e : Expr} (h : okX e = true) : isSt e = false := by cases e <;> first | rfl | (simp [okX] at h)
theorem swp3 {y z w : Str} {p q r pt p2 : Pos} {kt k2 : Nat} {a b c : Expr} {env : PySem.Env} (hk : env.scope.kind = .function) (hy : env.scope.names.lookup y = some .local) (hz : env.scope.names.lookup z = some .local) (hw : env.scope.names.lookup w = some .local) (n1 : y ≠ z) (n2 : y ≠ w) (n3 : z ≠ w) (oa : okX a = true) (ob : okX b = true) (oc : okX c = true)
    (l : (p.line == q.line) = true) (l2 : (p.line == r.line) = true) (f1 : [a, b, c].all (foldedForSure 8) = false) (f2 : [a, b, c].all (constantsAlone 8) = false) :
    swappedStores [.Tuple [.Name y p, .Name z q, .Name w r] kt pt] (.Tuple [a, b, c] k2 p2) env = pure (some [y, z, w]) := by
  have hb : env.blockKind = .function := by unfold PySem.Env.blockKind; rw [hk] <;> rfl
  have loc : ∀ {u : Str}, env.scope.names.lookup u = some .local → (env.kindOf u == some NameKind.local) = true := fun {u} e => by
    show (env.scope.names.lookup u == some NameKind.local) = true
    rw [e] <;> rfl
  have lq : (q.line == p.line) = true := by
    rw [beq_iff_eq] at l ⊢
    exact l.symm
  have lr : (r.line == p.line) = true := by
    rw [beq_iff_eq] at l2 ⊢
    exact l2.symm
  have hst : ([a, b, c].any fun | .Starred .. => true | _ => false) = false := by
    show (isSt a || (isSt b || (isSt c || false))) = false
    rw [isSt_of oa, isSt_of ob, isSt_of oc] <;> rfl
  have lp : (p.line == p.line) = true := by simp
  have d1 : (z == y) = false := by simpa using fun e : z = y => n1 e.symm
  have d2 : (w == y) = false := by simpa using fun e : w = y => n2 e.symm
  have d3 : (w == z) = false := by simpa using fun e : w = z => n3 e.symm
  have e1 : ([Expr.Name y p, Expr.Name z q, Expr.Name w r].filterMap fun
    | .Name id pos => if env.kindOf id == some .local && pos.line == p.line then some id else none
    | _ => none) = [y, z, w] := by
    simp only [List.filterMap_cons, List.filterMap_nil, loc hy, loc hz, loc hw, lp, lq, lr, Bool.and_self, if_true]
  have e2 : ([y, z, w].eraseDups.length != 3) = false := by
    have : [y, z, w].eraseDups = [y, z, w] := by
      simp only [List.eraseDups, List.eraseDupsBy, List.eraseDupsBy.loop, List.any_cons, List.any_nil, d1, d2, d3, Bool.or_false]
      rfl
    rw [this] <;> rfl
  unfold swappedStores
  refine (if_neg ?_).trans ((if_neg ?_).trans ((if_neg ?_).trans ((if_neg ?_).trans ((if_neg ?_).trans ?_))))
  · show ¬ ((!(false || true) || false || env.blockKind != .function) = true)
    rw [hb]
    decide
  · exact Bool.eq_false_iff.mp hst
  · have key : ∀ l : List Str, l = [y, z, w] → ¬ ((l.length != [Expr.Name y p, Expr.Name z q, Expr.Name w r].length || l.eraseDups.length != l.length) = true) := fun l e => by
      rw [e]
      show ¬ ((false || [y, z, w].eraseDups.length != 3) = true)
      rw [e2]
      decide
    exact key _ e1
  · exact Bool.eq_false_iff.mp f1
  · exact Bool.eq_false_iff.mp f2
  · exact congrArg (fun l => (pure (some l) : Sem (Option (List Str)))) e1
theorem snd_par3 (C : CxtS S Γ Wx X) {i j l : Nat} {es : Es} {x : Stmt} (h : chkPar3 Γ i j l es x = true) : PS X x (tS S Wx X.K Γ (.par [i, j, l] es)) := by
  unfold chkPar3 at h
  split at h
  case h_2 => cases h
  rename_i y p z q w r kt pt a b c k2 p2 pos
  simp only [Bool.and_eq_true, decide_eq_true_eq, Bool.not_eq_true'] at h
  obtain ⟨h1, h2, h3, ⟨m1, m2, m3⟩, h4, h5, h6, h7, h8, h9, h10, h11⟩ := h
  have hk := okXs_of h7
  simp only [List.all_cons, List.all_nil, Bool.and_true, Bool.and_eq_true] at hk
  have ey : X.env.scope.names.lookup y = some .local := by rw [C.c.sc]; exact h4
  have ez : X.env.scope.names.lookup z = some .local := by rw [C.c.sc]; exact h5
  have ew : X.env.scope.names.lookup w = some .local := by rw [C.c.sc]; exact h6
  have ne : ∀ {i j : Nat} {y z : Str}, Γ.N[i]? = some y → Γ.N[j]? = some z → i ≠ j → y ≠ z := fun {i j y z} a b c e => c (by
    subst e
    exact nodup_ix C.c.nd a b)
  refine PS.mono (ps_par3 C.c.calm C.hN (C.nth h1) (C.nth h2) (C.nth h3) m1 m2 m3 ey ez ew (PA.un (P := PW' Γ (escs es)) (t := fun W => tAs S Wx X.K W es) fun W p => ((allEs S es).2 Γ W Wx X (C.at p.1) _ h7).1 p.2)
    (swp3 C.kf ey ez ew (ne h1 h2 m1) (ne h1 h3 m2) (ne h2 h3 m3) hk.1 hk.2.1 hk.2.2 h8 h9 h10 h11)) fun D σ H q => ?_
  obtain ⟨F, Oc, H0, s, f, r', jj⟩ := q
  simp only [evS] at jj
  obtain ⟨O, k1, k2, k3⟩ := r'.un f ([i, j, l] ++ escs es)
  refine ⟨dl s.1 ([i, j, l] ++ escs es), ⟨r'.subd _, ndj_dl fun _ z => List.mem_append_right _ z⟩, s.2, O, H0, k3, JS.jg f r' jj fun ds e jd vs H' sm rv => ?_⟩
  have e2 := evEs_len h7 e
  rcases ds with _ | ⟨d1, _ | ⟨d2, _ | ⟨d3, _ | _⟩⟩⟩ <;> first | (simp at e2; done) | skip
  cases rv with
  | cons v1 rv =>
    cases rv with
    | cons v2 rv =>
      cases rv with
      | cons v3 rv =>
        cases rv
        refine ⟨_, _, _, rfl, jd _ _ ⟨⟨O, f.lift _ _ _ _ (Lift.same sm) k1, k2, ?_⟩, r'.subd _⟩⟩
        exact (((k3.same sm).set (fun z => (mem_dl.mp z).2 (by simp)) v1).set (fun z => (mem_dl.mp z).2 (by simp)) v2).set (fun z => (mem_dl.mp z).2 (by simp)) v3
theorem snd_par (C : CxtS S Γ Wx X) {is : List Nat} {es : Es} {x : Stmt} (h : chkS Γ (.par is es) x = true) : PS X x (tS S Wx X.K Γ (.par is es)) := by
  rcases is with _ | ⟨i, _ | ⟨j, _ | ⟨l, _ | _⟩⟩⟩ <;> first | (simp [chkS] at h; done) | skip
  case cons.cons.cons.nil => exact snd_par3 C (by simpa [chkS] using h)
  simp only [chkS] at h
  unfold chkPar at h
  split at h
  case h_2 => cases h
  rename_i y p z q kt pt a b k2 p2 pos
  simp only [Bool.and_eq_true, decide_eq_true_eq, Bool.not_eq_true'] at h
  obtain ⟨h1, h2, h3, h4, h5, h6, h7, h8, h9⟩ := h
  have hk := okXs_of h6
  simp only [List.all_cons, List.all_nil, Bool.and_true, Bool.and_eq_true] at hk
  have ey : X.env.scope.names.lookup y = some .local := by rw [C.c.sc]; exact h4
  have ez : X.env.scope.names.lookup z = some .local := by rw [C.c.sc]; exact h5
  have ne : y ≠ z := fun e => h3 (by
    subst e
    exact nodup_ix C.c.nd h1 h2)
  refine PS.mono (ps_par C.c.calm C.hN (C.nth h1) (C.nth h2) h3 ey ez (PA.un (P := PW' Γ (escs es)) (t := fun W => tAs S Wx X.K W es) fun W p => ((allEs S es).2 Γ W Wx X (C.at p.1) _ h6).1 p.2)
    (swp2 C.kf ey ez ne hk.1 hk.2 h7 h8 h9)) fun D σ H q => ?_
  obtain ⟨F, Oc, H0, s, f, r, jj⟩ := q
  simp only [evS] at jj
  obtain ⟨O, k1, k2, k3⟩ := r.un f ([i, j] ++ escs es)
  refine ⟨dl s.1 ([i, j] ++ escs es), ⟨r.subd _, ndj_dl fun _ z => List.mem_append_right _ z⟩, s.2, O, H0, k3, JS.jg f r jj fun ds e jd vs H' sm rv => ?_⟩
  have e2 := evEs_len h6 e
  rcases ds with _ | ⟨d1, _ | ⟨d2, _ | _⟩⟩ <;> first | (simp at e2; done) | skip
  cases rv with
  | cons v1 rv =>
    cases rv with
    | cons v2 rv =>
      cases rv
      refine ⟨_, _, rfl, jd _ _ ⟨⟨O, f.lift _ _ _ _ (Lift.same sm) k1, k2, ?_⟩, r.subd _⟩⟩
      refine ((k3.same sm).set (fun z => (mem_dl.mp z).2 (by simp)) v1).set (fun z => (mem_dl.mp z).2 (by simp)) v2
/-- one of two that are put away together: a new thing, or a plain one -/
def tG (S : Sig) (Wx : WX) (K : PySem.W.Frag) (W : List Nat) (g : Bool) (e : E) : TE := if g = true then tF S Wx K W e else tE S Wx K W e
def GotG (K : PySem.W.Frag) (O : Addr → Prop) (H : Hp) (g : Bool) (d : PD) (v : V) (H' : Hp) : Prop := Same H H' ∧ (g = true → ∃ p, v = .ref p ∧ H p = none ∧ Own K (fun b => O b ∨ b = p) H' p d) ∧ (g = false → RX K O H' v d)
theorem tG_run {K : PySem.W.Frag} {W : List Nat} {O : Addr → Prop} {H0 : Hp} {ρ : Env} {σ : L2.St} {H : Hp} {g : Bool} {e : E} {Q : VK} (r : Rel K W O H0 ρ σ H) (j : JG Wx K σ H (fun d => (g = true → isL d = true) ∧ ∀ v H', GotG K O H g d v H' → Q v H') (evE S e ρ)) : tG S Wx K W g e σ H Q := by
  unfold tG
  cases g with
  | true =>
    rw [if_pos rfl]
    exact ⟨ρ, O, H0, r, j.imp fun d _ p => ⟨p.1 rfl, fun q H' n s o => p.2 _ _ ⟨s, fun _ => ⟨q, rfl, n, o⟩, fun z => (nomatch z)⟩⟩⟩
  | false =>
    rw [if_neg (by decide)]
    exact ⟨ρ, O, H0, r, j.imp fun d _ p => fun v H' s rx => p.2 _ _ ⟨s, fun z => (nomatch z), fun _ => rx⟩⟩
theorem tG_pe {W : List Nat} (C : CxtS S Γ Wx X) {g : Bool} {e : E} {x : Expr} (h : chkE Γ e x = true) (hg : g = true → isF e = true) (p : ∀ i ∈ W, i ∈ Γ.W) (n : ndj W (esc e)) : PE X x (tG S Wx X.K W g e) := by
  have hn := (allE S e Γ W Wx X (C.at p) x h).1
  unfold tG
  cases g with
  | true => rw [if_pos rfl]; exact hn.nw (hg rfl) n
  | false => rw [if_neg (by decide)]; exact hn.tk n
theorem got_set {K : PySem.W.Frag} {W : List Nat} {O : Addr → Prop} {H0 : Hp} {ρ : Env} {σ : L2.St} {H H1 : Hp} {g : Bool} {i : Nat} {d : PD} {v : V} (r : Rel K W O H0 ρ σ H) (hi : i ∉ W) (il : i < ρ.length) (q : GotG K O H g d v H1) :
    ∃ O1, (∀ a, O a → O1 a) ∧ Lift O H O1 H1 ∧ Rel K (cw g i W) O1 H0 (ρ.set i (some d)) (σ.set i (some v)) H1 ∧ ∀ {W' : List Nat} {ρ' : Env} {σ' : L2.St}, Rel K W' O H0 ρ' σ' H → Rel K W' O1 H0 ρ' σ' H1 := by
  obtain ⟨sm, q1, q2⟩ := q
  cases g with
  | true =>
    obtain ⟨p, rfl, n, o⟩ := q1 rfl
    obtain ⟨z1, z2⟩ := r.take hi il n sm o
    refine ⟨_, fun a z => .inl z, z2, z1, fun {W' ρ' σ'} r' => r'.lift z2 (fun a z => .inl z) z1.dom z1.sam fun k e a hk e1 e2 => ?_⟩
    obtain ⟨b, k1, k2, k3, k4, k5⟩ := r'.own k e hk e1
    obtain ⟨u, g1, _⟩ := k4.mut
    rw [e2] at k1
    have : a = b := by simpa using k1
    rw [this, g1, sm _ _ g1]
  | false =>
    exact ⟨O, fun _ z => z, Lift.same sm, (r.same sm).set hi (q2 rfl), fun r' => r'.same sm⟩
theorem mem_cw {g : Bool} {i k : Nat} {W : List Nat} : k ∈ cw g i W → (g = true ∧ k = i) ∨ k ∈ W := by
  unfold cw
  split
  · intro h
    rcases List.mem_cons.mp h with z | z
    · exact .inl ⟨by assumption, z⟩
    · exact .inr z
  · exact .inr
theorem snd_parF (C : CxtS S Γ Wx X) {i j : Nat} {g h : Bool} {a b : E} {x : Stmt} (hc : chkS Γ (.parF i j g h a b) x = true) : PS X x (tS S Wx X.K Γ (.parF i j g h a b)) := by
  simp only [chkS, Bool.and_eq_true] at hc
  obtain ⟨hc, hg, hh⟩ := hc
  unfold chkPar at hc
  split at hc
  case h_2 => cases hc
  rename_i y p z q kt pt xa xb k2 p2 pos
  simp only [Bool.and_eq_true, decide_eq_true_eq, Bool.not_eq_true'] at hc
  obtain ⟨h1, h2, h3, h4, h5, h6, h7, h8, h9⟩ := hc
  have hk := okXs_of h6
  simp only [List.all_cons, List.all_nil, Bool.and_true, Bool.and_eq_true] at hk
  have h6' := h6
  simp only [chkEs, Bool.and_eq_true] at h6'
  have ey : X.env.scope.names.lookup y = some .local := by rw [C.c.sc]; exact h4
  have ez : X.env.scope.names.lookup z = some .local := by rw [C.c.sc]; exact h5
  have ne : y ≠ z := fun e => h3 (by
    subst e
    exact nodup_ix C.c.nd h1 h2)
  have fg : g = true → isF a = true ∧ i ∈ Γ.W := fun e => by rw [e] at hg; simpa using hg
  have fh : h = true → isF b = true ∧ j ∈ Γ.W := fun e => by rw [e] at hh; simpa using hh
  refine PS.mono (ps_par C.c.calm C.hN (C.nth h1) (C.nth h2) h3 ey ez (PA.un (P := PW' Γ (esc a ++ esc b)) (t := fun W => tCons (tG S Wx X.K W g a) (tCons (tG S Wx X.K W h b) tNil)) fun W pw => pa_cons (tG_pe C h6'.1 (fun e => (fg e).1) pw.1 pw.2.l) (pa_cons (tG_pe C h6'.2.1 (fun e => (fh e).1) pw.1 pw.2.r) pa_nil (star_of hk.2 [] X.env)) (star_of hk.1 [xb] X.env))
    (swp2 C.kf ey ez ne hk.1 hk.2 h7 h8 h9)) fun D σ H q => ?_
  obtain ⟨F, Oc, H0, s, f, r, jj⟩ := q
  simp only [evS] at jj
  obtain ⟨O, k1, k2, k3⟩ := r.un f ([i, j] ++ (esc a ++ esc b))
  refine ⟨dl s.1 ([i, j] ++ (esc a ++ esc b)), ⟨r.subd _, ndj_dl fun _ z => List.mem_append_right _ z⟩, ?_⟩
  refine tG_run k3 (JS.jg f r jj fun d e1 jd => ?_)
  split at jd
  case isFalse => exact jd.elim
  rename_i c1
  simp only [Bool.and_eq_true, decide_eq_true_eq] at c1
  refine ⟨fun e => by simpa [e] using c1.1, fun v H1 got => ?_⟩
  obtain ⟨O1, o1, L1, r1, tr1⟩ := got_set (i := i) k3 (fun z => (mem_dl.mp z).2 (by simp)) c1.2 got
  refine tG_run (tr1 k3) (JS.jg f (r.same f got.1) jd fun e e2 je => ?_)
  split at je
  case isFalse => exact je.elim
  rename_i c2
  simp only [Bool.and_eq_true, decide_eq_true_eq] at c2
  refine ⟨fun e => by simpa [e] using c2.1, fun w H2 got2 => ?_⟩
  have nj : j ∉ cw g i (dl s.1 ([i, j] ++ (esc a ++ esc b))) := fun z => by
    rcases mem_cw z with ⟨_, z⟩ | z
    · exact h3 z.symm
    · exact (mem_dl.mp z).2 (by simp)
  obtain ⟨O2, o2, L2, r2, _⟩ := got_set (i := j) r1 nj (by simpa using c2.2) got2
  refine ⟨_, _, rfl, je _ _ ⟨⟨O2, f.lift _ _ _ _ (L1.trans L2) k1, fun a z => o2 a (o1 a (k2 a z)), r2⟩, fun k hk => ?_⟩⟩
  rcases mem_cw hk with ⟨e, z⟩ | z
  · rw [z]; exact (fh e).2
  · rcases mem_cw z with ⟨e, z⟩ | z
    · rw [z]; exact (fg e).2
    · exact r.subd _ k z
theorem ifn {α : Type} {c : Prop} [Decidable c] {a b : α} (h : b = a) : (if c then a else b) = a := by split <;> first | rfl | exact h
theorem snd_unp (C : CxtS S Γ Wx X) {t : Tg} {e : E} {x : Stmt} (h : chkS Γ (.unp t e) x = true) : PS X x (tS S Wx X.K Γ (.unp t e)) := by
  cases x <;> first | (simp [chkS] at h; done) | skip
  rename_i ts v pos
  rcases ts with _ | ⟨g, ts⟩ <;> first | (simp [chkS] at h; done) | skip
  cases g <;> first | (simp [chkS] at h; done) | skip
  cases ts <;> first | (simp [chkS] at h; done) | skip
  rename_i us kt pt
  simp only [chkS, Bool.and_eq_true, Bool.not_eq_true'] at h
  obtain ⟨h1, h2, h4⟩ := h
  have hw : swappedStores [.Tuple us kt pt] v X.env = pure none := by
    cases v <;> first | rfl | skip
    rename_i vs k2 p2
    have h4 : (vs.all (foldedForSure 8) || (!(us.length == 2 || us.length == 3) || us.any (notLoc Γ.sc))) = true := h4
    rw [Bool.or_eq_true, Bool.or_eq_true] at h4
    unfold swappedStores
    rcases h4 with h4 | h4 | h4
    · exact ifn (ifn (ifn (if_pos h4)))
    · refine if_pos ?_
      rw [h4] <;> rfl
    · refine ifn (ifn (if_pos ?_))
      have lt : ∀ (f : Expr → Option Str), (∀ t ∈ us, notLoc Γ.sc t = true → f t = none) → (us.filterMap f).length < us.length := fun f hf => by
        obtain ⟨t, ht, hn⟩ := List.any_eq_true.mp h4
        have gen : ∀ l : List Expr, (l.filterMap f).length ≤ l.length := fun l => List.length_filterMap_le f l
        obtain ⟨l1, l2, rfl⟩ := List.append_of_mem ht
        rw [List.filterMap_append, List.filterMap_cons, hf t ht hn, List.length_append, List.length_append, List.length_cons]
        dsimp only
        have := gen l1
        have := gen l2
        omega
      have key : ∀ f : Expr → Option Str, (∀ t ∈ us, notLoc Γ.sc t = true → f t = none) → ((us.filterMap f).length != us.length || (us.filterMap f).eraseDups.length != (us.filterMap f).length) = true := fun f hf => by
        have := lt f hf
        have e : ((us.filterMap f).length != us.length) = true := by
          rw [bne_iff_ne]
          omega
        rw [e, Bool.true_or]
      refine key _ fun t ht hn => ?_
      cases t <;> first | rfl | skip
      rename_i y yp
      have e : (X.env.kindOf y == some NameKind.local) = false := by
        have hn : (!decide (Γ.sc.names.lookup y = some .local)) = true := hn
        show (X.env.scope.names.lookup y == some NameKind.local) = false
        rw [C.c.sc]
        simpa using hn
      show (if (X.env.kindOf y == some NameKind.local && _) = true then _ else _) = none
      rw [e, Bool.false_and]
      rfl
  have hs : swapsWith v (some (.Tuple us kt pt)) pos.line X.env = pure false := by cases v <;> rfl
  refine PS.mono (ps_asg (PE.un (P := PW' Γ (esc e)) (t := fun W => tE S Wx X.K W e) fun W p => (allE S e Γ W Wx X (C.at p.1) v h2).1.tk p.2)
    (PG.un (P := PW' Γ []) (t := fun W => gT X.K W t) fun W p => snd_tg (C.at p.1) t _ h1) hs hw) fun D σ H q => ?_
  obtain ⟨F, Oc, H0, s, f, r, j⟩ := q
  simp only [evS] at j
  obtain ⟨O, k1, k2, k3⟩ := r.un f (esc e)
  refine ⟨dl s.1 (esc e), ⟨r.subd _, ndj_dl fun _ z => z⟩, s.2, O, H0, k3, JS.jg f r j fun d _ jd v H' sm rv => ?_⟩
  split at jd
  · rename_i ρ' e1
    refine ⟨dl s.1 (esc e), ⟨r.subd _, fun _ z => nomatch z⟩, s.2, O, H0, d, ρ', k3.same sm, rv, e1, fun σ' r' _ _ => ?_⟩
    exact jd _ _ ⟨⟨O, f.lift _ _ _ _ (Lift.same sm) k1, k2, r'⟩, r.subd _⟩
  · exact jd.elim
theorem snd_setIx (C : CxtS S Γ Wx X) {i : Nat} {k e : E} {x : Stmt} (h : chkS Γ (.setIx i k e) x = true) : PS X x (tS S Wx X.K Γ (.setIx i k e)) := by
  cases x <;> first | (simp [chkS] at h; done) | skip
  rename_i ts v pos
  rcases ts with _ | ⟨g, ts⟩ <;> first | (simp [chkS] at h; done) | skip
  cases g <;> first | (simp [chkS] at h; done) | skip
  rename_i o kx gp
  cases o <;> first | (simp [chkS] at h; done) | skip
  cases ts <;> first | (simp [chkS] at h; done) | skip
  rename_i y yp
  simp only [chkS, Bool.and_eq_true, decide_eq_true_eq, Bool.not_eq_true'] at h
  obtain ⟨h1, h2, h3, h4, h5, h6⟩ := h
  obtain ⟨g4, g5⟩ := nodb_of h3
  have pv : PE X (.Name y yp) (tVar i) := pe_var (C.nth h1) (vis_of C.c.sc h2) g4 g5
  have pk' := PE.un (P := PW' Γ (pk k)) (t := fun W => tP S Wx X.K W k) fun W p => (allE S k Γ W Wx X (C.at p.1) kx h4).1.lk p.2
  have pa : ∀ v, assign (.Subscript (.Name y yp) kx gp) X.env v = (do
      let ov ← holding [v] (eval (.Name y yp) X.env)
      let iv ← holding [v, ov] (eval kx X.env)
      standAt gp
      holding [v, ov, iv] (setItem ov iv v)
      release [v, ov, iv] []) := fun v => by
    have := okX_of h4
    cases kx <;> first | (simp [okX] at this; done) | rfl
  refine PS.mono (ps_asg (PE.un (P := PW' Γ (esc e)) (t := fun W => tE S Wx X.K W e) fun W p => (allE S e Γ W Wx X (C.at p.1) v h5).1.tk p.2)
    (PG.or (pg_sub pv pk' set_list pa) (pg_sub pv pk' (set_dict (by have := C.c.un; omega)) pa))
    (show swapsWith v (some (.Subscript (.Name y yp) kx gp)) pos.line X.env = pure false from swaps_of (okX_of h5) h6 _ _ _) (by cases v <;> rfl)) fun D σ H q => ?_
  obtain ⟨F, Oc, H0, s, f, r, j⟩ := q
  simp only [evS] at j
  obtain ⟨O, k1, k2, k3⟩ := r.un f (esc e ++ pk k)
  refine ⟨dl s.1 (esc e ++ pk k), ⟨r.subd _, ndj_dl fun _ z => List.mem_append_left _ z⟩, s.2, O, H0, k3, JS.jg f r j fun d _ j1 v1 H1 sm rv => ?_⟩
  split at j1
  case h_2 => exact j1.elim
  rename_i d' e3
  split at j1
  case isFalse => exact j1.elim
  rename_i hi
  have hi := of_decide_eq_true hi
  obtain ⟨a, g1, g2, g3, g4, g5⟩ := k3.own i d' hi e3
  by_cases isd : isDc d' = true
  · refine .inr ⟨_, g1, dl s.1 (esc e ++ pk k), ⟨r.subd _, ndj_dl fun _ z => List.mem_append_right _ z⟩, s.2, O, H0, k3.same sm, JS.jg f (r.same f sm) j1 fun y e2 j2 w H2 s2 rw2 => ?_⟩
    cases d' <;> first | (simp [isDc] at isd; done) | skip
    rename_i kvs
    rcases kvs with _ | ⟨⟨k0, v0⟩, kvs⟩ <;> first | exact j2.elim | skip
    simp only [putV] at j2
    by_cases c : ((keyOf k0).isSome && ((keyOf y).isSome && decide (kvs.length + 1 < sLine))) = true
    · rw [if_pos c] at j2
      simp only [Bool.and_eq_true, decide_eq_true_eq] at c
      obtain ⟨c1, c2, c3⟩ := c
      obtain ⟨ks0, hk0⟩ := Option.isSome_iff_exists.mp c1
      obtain ⟨ky, hky⟩ := Option.isSome_iff_exists.mp c2
      have ey := keyOf_kP hky
      have e0 := keyOf_kP hk0
      subst ey
      subst e0
      obtain ⟨ps, g6, g7⟩ := g4
      rcases g6 with ⟨ks, g6, rfl⟩ | ⟨ks, g6, rfl⟩
      · have lk : ∀ {ks : List (Key × V)} {kvs : List (PD × PD)}, RXp X.K O H (ks.map fun p => (kP p.1, p.2)) kvs → ks.length = kvs.length := by
          intro ks
          induction ks with
          | nil => intro kvs r; cases r; rfl
          | cons p ks ih =>
            intro kvs r
            cases r with
            | cons r1 r2 => simp [ih r2]
        have l := lk g7
        have g6' := (sm.trans s2) _ _ g6
        have wv : w = kV ky := by
          rcases ky with i | t
          · exact rw2.int
          · exact rw2.str.1
        subst wv
        refine ⟨a, _, rfl, DPut.k g6' (by rw [l, List.length_cons, ← sLine_eq]; exact c3), ?_⟩
        have k4 := k3.same (sm.trans s2)
        have L0 : Lift O H2 O (upd H2 a (.dK (putK ks ky v1))) := Lift.upd g2 g6' True.intro
        obtain ⟨q1, q2⟩ := k4.write (o := .dK (putK ks ky v1)) (d' := .dict (putP ((kP ks0, v0) :: kvs) (kP ky) d)) hi e3 g1 ⟨_, .inl ⟨_, upd_same, rfl⟩, (put_rx (rv.same s2) (g7.same (sm.trans s2))).lift L0⟩
        exact j2 _ _ ⟨⟨O, f.lift _ _ _ _ q2 (f.lift _ _ _ _ (Lift.same (sm.trans s2)) k1), k2, q1⟩, r.subd _⟩
      · exfalso
        cases ks with
        | nil => cases g7
        | cons q ks =>
          have gen : ∀ {x : PD} {ys : List (PD × V)} {kvs : List (PD × PD)}, RXp X.K O H2 ((x, q.2) :: ys) kvs → ∃ r, kvs.head? = some (x, r) := fun {x ys kvs} h => by
            cases h
            exact ⟨_, rfl⟩
          obtain ⟨r0, e0⟩ := gen (g7.same (sm.trans s2))
          have e1 : kP ks0 = PyData.tuple (q.1.map kP) := by
            have e0 := Option.some.inj e0
            exact congrArg Prod.fst e0
          rcases ks0 with i | t <;> simp [kP] at e1
    · rw [if_neg c] at j2
      exact j2.elim
  · refine .inl ⟨_, g1, dl s.1 (esc e ++ pk k), ⟨r.subd _, ndj_dl fun _ z => List.mem_append_right _ z⟩, s.2, O, H0, k3.same sm, JS.jg f (r.same f sm) j1 fun y e2 j2 w H2 s2 rw2 => ?_⟩
    cases d' <;> first | exact j2.elim | (exfalso; exact isd rfl) | skip
    cases y <;> first | exact j2.elim | skip
    rename_i ds n
    simp only [putV] at j2
    cases e4 : ixN ds.length n with
    | none => rw [e4] at j2; exact j2.elim
    | some m =>
      rw [e4] at j2
      obtain ⟨xs, g6, g7⟩ := g4
      cases rw2.int
      have g6' := (sm.trans s2) _ _ g6
      refine ⟨a, xs, n, m, rfl, rfl, g6', by rw [g7.length]; exact e4, ?_⟩
      have k4 := k3.same (sm.trans s2)
      have L0 : Lift O H2 O (upd H2 a (.lst (xs.set m v1))) := Lift.upd g2 g6' True.intro
      obtain ⟨q1, q2⟩ := k4.write (o := .lst (xs.set m v1)) (d' := .list (ds.set m d)) hi e3 g1 ⟨_, upd_same, ((g7.same (sm.trans s2)).set (rv.same s2) m).lift L0⟩
      exact j2 _ _ ⟨⟨O, f.lift _ _ _ _ q2 (f.lift _ _ _ _ (Lift.same (sm.trans s2)) k1), k2, q1⟩, r.subd _⟩
theorem snd_app (C : CxtS S Γ Wx X) {i : Nat} {e : E} {x : Stmt} (h : chkS Γ (.app i e) x = true) : PS X x (tS S Wx X.K Γ (.app i e)) := by
  cases x <;> first | (simp [chkS] at h; done) | skip
  rename_i v pos
  cases v <;> first | (simp [chkS] at h; done) | skip
  rename_i fn as kws cp
  cases fn <;> first | (simp [chkS] at h; done) | skip
  rename_i o m ap
  cases o <;> first | (simp [chkS] at h; done) | skip
  rcases as with _ | ⟨v, _ | _⟩ <;> first | (simp [chkS] at h; done) | skip
  cases kws <;> first | (simp [chkS] at h; done) | skip
  rename_i y yp
  simp only [chkS, Bool.and_eq_true, decide_eq_true_eq] at h
  obtain ⟨rfl, h1, h2, h3, h4, h5⟩ := h
  obtain ⟨g4, g5⟩ := nodb_of h3
  have pv : PE X (.Name y yp) (tVar i) := pe_var (C.nth h1) (vis_of C.c.sc h2) g4 g5
  have ok := okX_of h4
  have pa : PA X [v] (tCons (fun σ H Q => ∃ W, PW' Γ (esc e) W ∧ tE S Wx X.K W e σ H Q) tNil) := pa1 ok (C.tk h4)
  have st := star_of ok [] X.env
  refine PS.mono (ps_expr (pe_bm PySem.F.plainAttrs_list PySem.F.slot_list_append PySem.F.type_list_append mt_append pv pa rfl (by rw [st]; rfl) h5 st rfl) rfl) fun D σ H q => ?_
  obtain ⟨F, Oc, H0, s, f, r, j⟩ := q
  simp only [evS] at j
  obtain ⟨O, k1, k2, k3⟩ := r.un f (esc e)
  split at j
  case h_2 => exact j.elim
  rename_i ds e3
  split at j
  case isFalse => exact j.elim
  rename_i hi
  have hi := of_decide_eq_true hi
  obtain ⟨a, g1, g2, g3, g4, g5⟩ := k3.own i _ hi e3
  obtain ⟨xs, g6, g7⟩ := g4
  refine ⟨_, g1, .inl ⟨rfl, xs, .inl (.inl g6)⟩, ?_⟩
  show tCons _ tNil σ H _
  refine ⟨dl s.1 (esc e), ⟨r.subd _, ndj_dl fun _ z => z⟩, s.2, O, H0, k3, JS.jg f r j fun y e2 j2 w H2 s2 rw2 => ?_⟩
  split at j2
  case isFalse => exact j2.elim
  rename_i hl
  have hl := of_decide_eq_true hl
  have g6' := s2 _ _ g6
  refine ⟨a, xs, w, rfl, rfl, g6', by rw [g7.length, ← sLine_eq]; exact hl, ?_⟩
  have k4 := k3.same s2
  have L0 : Lift O H2 O (upd H2 a (.lst (xs ++ [w]))) := Lift.upd g2 g6' True.intro
  obtain ⟨q1, q2⟩ := k4.write (o := .lst (xs ++ [w])) (d' := .list (ds ++ [y])) hi e3 g1 ⟨_, upd_same, ((g7.same s2).append (.cons rw2 .nil)).lift L0⟩
  exact j2 _ _ ⟨⟨O, f.lift _ _ _ _ q2 (f.lift _ _ _ _ (Lift.same s2) k1), k2, q1⟩, r.subd _⟩
def rExtR : V → List V → Hp → VK → Prop := fun x vs H Q => ∃ l b xs zs, x = .ref l ∧ vs = [.ref b] ∧ H l = some (.lst xs) ∧ Rd H b (.lst zs) ∧ xs.length + zs.length ≤ sizeLine ∧ Q .non (upd H l (.lst (xs ++ zs)))
theorem mt_extR : MtM X "list.extend" rExtR := by
  intro pins s σ H x vs v us Q I rx rv h
  obtain ⟨l, b, xs, zs, rfl, rfl, hH, hB, hz, q⟩ := h
  cases rx
  obtain ⟨u, rfl, ru⟩ := rv.one
  cases ru
  obtain ⟨z, its, n, r, hl, e⟩ := I.lstM hH
  obtain ⟨z2, its2, n2, r2, hl2, e2⟩ := lstR_ok hB I.hok
  have few : its.toArray.size + its2.toArray.size ≤ sizeLine := by rw [List.size_toArray, List.size_toArray]; omega
  have lng : ¬ (!its.toArray.isEmpty && Builtin.List.listTooLong (its.toArray.size + its2.toArray.size)) = true := by
    rw [notLongL few, Bool.and_false]; decide
  refine call_meets F.slot_list_extend ⟨_, e, rfl⟩ F.entry_list_extend (F.args_list_extend_2 _ _) (AutoSeq1.list_extend_list_list_0 l its.toArray n b its2.toArray n2 lng (by rw [List.size_toArray]; omega) (by omega)) ⟨e, e2, ?_⟩
  exact ⟨.non, _, I.lset (its' := its ++ its2) hH e (by simp) (r.append r2) (by rw [List.length_append]; omega), rfl, q⟩
theorem snd_ext (C : CxtS S Γ Wx X) {i : Nat} {e : E} {x : Stmt} (h : chkS Γ (.ext i e) x = true) : PS X x (tS S Wx X.K Γ (.ext i e)) := by
  cases x <;> first | (simp [chkS] at h; done) | skip
  rename_i v pos
  cases v <;> first | (simp [chkS] at h; done) | skip
  rename_i fn as kws cp
  cases fn <;> first | (simp [chkS] at h; done) | skip
  rename_i o m ap
  cases o <;> first | (simp [chkS] at h; done) | skip
  rcases as with _ | ⟨v, _ | _⟩ <;> first | (simp [chkS] at h; done) | skip
  cases kws <;> first | (simp [chkS] at h; done) | skip
  rename_i y yp
  simp only [chkS, Bool.and_eq_true, decide_eq_true_eq] at h
  obtain ⟨rfl, h1, h2, h3, h4, h5⟩ := h
  obtain ⟨g4, g5⟩ := nodb_of h3
  have pv : PE X (.Name y yp) (tVar i) := pe_var (C.nth h1) (vis_of C.c.sc h2) g4 g5
  have ok := okX_of h4
  have pa : PA X [v] (tCons (fun σ H Q => ∃ W, PW' Γ (esc e) W ∧ tE S Wx X.K W e σ H Q) tNil) := pa1 ok (C.tk h4)
  have st := star_of ok [] X.env
  refine PS.mono (ps_expr (pe_bm PySem.F.plainAttrs_list PySem.F.slot_list_extend PySem.F.type_list_extend mt_extR pv pa rfl (by rw [st]; rfl) h5 st rfl) rfl) fun D σ H q => ?_
  obtain ⟨F, Oc, H0, s, f, r, j⟩ := q
  simp only [evS] at j
  obtain ⟨O, k1, k2, k3⟩ := r.un f (esc e)
  split at j
  case h_2 => exact j.elim
  rename_i ds e3
  split at j
  case isFalse => exact j.elim
  rename_i hi
  have hi := of_decide_eq_true hi
  obtain ⟨a, g1, g2, g3, g4, g5⟩ := k3.own i _ hi e3
  obtain ⟨xs, g6, g7⟩ := g4
  refine ⟨_, g1, .inl ⟨rfl, xs, .inl (.inl g6)⟩, ?_⟩
  show tCons _ tNil σ H _
  refine ⟨dl s.1 (esc e), ⟨r.subd _, ndj_dl fun _ z => z⟩, s.2, O, H0, k3, JS.jg f r j fun y e2 j2 w H2 s2 rw2 => ?_⟩
  cases y <;> first | exact j2.elim | skip
  rename_i es
  have j2 : JS F Γ Wx X.K Oc H0 D (if decide (ds.length + es.length ≤ sLine) = true then .nx (dl s.1 (esc e), s.2.set i (some (.list (ds ++ es)))) else .bad) := j2
  split at j2
  case isFalse => exact j2.elim
  rename_i hl
  have hl := of_decide_eq_true hl
  have g6' := s2 _ _ g6
  cases rw2 with
  | lst ho hr rr =>
    rename_i b zs
    refine ⟨a, b, xs, zs, rfl, rfl, g6', hr, by rw [g7.length, rr.length, ← sLine_eq]; exact hl, ?_⟩
    have k4 := k3.same s2
    have L0 : Lift O H2 O (upd H2 a (.lst (xs ++ zs))) := Lift.upd g2 g6' True.intro
    obtain ⟨q1, q2⟩ := k4.write (o := .lst (xs ++ zs)) (d' := .list (ds ++ es)) hi e3 g1 ⟨_, upd_same, ((g7.same s2).append rr).lift L0⟩
    exact j2 _ _ ⟨⟨O, f.lift _ _ _ _ q2 (f.lift _ _ _ _ (Lift.same s2) k1), k2, q1⟩, r.subd _⟩
end
end Fe
set_option Elab.async false
set_option linter.all false
set_option maxRecDepth 100000
set_option maxHeartbeats 4000000
/-! Fe, part J: the theorem of all statements. -/
namespace Fe
open PySem PySem.Spec PyProof.Rows L2
section
variable {S : Sig} {Γ : Gam} {Wx : WX} {X : Cx}
theorem RX.lessO {K : PySem.W.Frag} {O Oc : Addr → Prop} {H : Hp} {v : V} {d : PD} (h : ∀ a, Oc a → O a) (r : RX K O H v d) : RX K Oc H v d := r.less h
theorem snd_ret (C : CxtS S Γ Wx X) {e : E} {x : Stmt} (h : chkS Γ (.ret e) x = true) : PS X x (tS S Wx X.K Γ (.ret e)) := by
  cases x <;> first | (simp [chkS] at h; done) | skip
  rename_i v pos
  cases v <;> first | (simp [chkS] at h; done) | skip
  rename_i v
  simp only [chkS] at h
  refine PS.mono (ps_ret (C.tk h)) fun D σ H q => ?_
  obtain ⟨F, Oc, H0, s, f, r, j⟩ := q
  simp only [evS] at j
  obtain ⟨O, k1, k2, k3⟩ := r.un f (esc e)
  refine ⟨dl s.1 (esc e), ⟨r.subd _, ndj_dl fun _ z => z⟩, s.2, O, H0, k3, JS.jg f r j fun y e2 j2 w H2 s2 rw2 => ?_⟩
  exact j2 w H2 (k3.sam.trans s2) (rw2.less k2)
theorem snd_retN {x : Stmt} (h : chkS Γ .retN x = true) : PS X x (tS S Wx X.K Γ .retN) := by
  cases x <;> first | (simp [chkS] at h; done) | skip
  rename_i v pos
  cases v <;> first | (simp [chkS] at h; done) | skip
  refine PS.mono ps_retN fun D σ H q => ?_
  obtain ⟨F, Oc, H0, s, f, r, j⟩ := q
  simp only [evS] at j
  obtain ⟨O, k1, k2, k3⟩ := r.ex
  exact j .non H k3.sam .non
theorem snd_retF (C : CxtS S Γ Wx X) {i : Nat} {x : Stmt} (h : chkS Γ (.retF i) x = true) : PS X x (tS S Wx X.K Γ (.retF i)) := by
  cases x <;> first | (simp [chkS] at h; done) | skip
  rename_i v pos
  cases v <;> first | (simp [chkS] at h; done) | skip
  rename_i v
  cases v <;> first | (simp [chkS] at h; done) | skip
  rename_i y p
  simp only [chkS, Bool.and_eq_true, decide_eq_true_eq] at h
  obtain ⟨h1, h2, h3⟩ := h
  obtain ⟨d1, d2⟩ := nodb_of h3
  refine PS.mono (ps_ret (pe_var (C.nth h1) (vis_of C.c.sc h2) d1 d2)) fun D σ H q => ?_
  obtain ⟨F, Oc, H0, s, f, r, j⟩ := q
  simp only [evS] at j
  split at j
  case h_2 => exact j.elim
  rename_i d e
  split at j
  case isFalse => exact j.elim
  rename_i hi
  have hi : i ∈ s.1 := by simpa using hi
  obtain ⟨O, k1, k2, k3⟩ := r.ex
  obtain ⟨a, e1, h1, h2, h3, h4⟩ := k3.own i d hi e
  exact ⟨.ref a, e1, j a H h2 k3.sam (h3.lift (Lift.less fun b z => z.elim (k2 b) fun z => z ▸ h1) rfl)⟩
theorem snd_ex (C : CxtS S Γ Wx X) {e : E} {x : Stmt} (h : chkS Γ (.ex e) x = true) : PS X x (tS S Wx X.K Γ (.ex e)) := by
  cases x <;> first | (simp [chkS] at h; done) | skip
  rename_i v pos
  have h' : chkE Γ e v = true ∧ isLC v = false := by
    cases v <;> first | (simp only [chkS, Bool.and_eq_true, Bool.not_eq_true'] at h; exact h) | skip
  obtain ⟨h1, h2⟩ := h'
  refine PS.mono (ps_expr (C.tk h1) (swaps_of (okX_of h1) h2 _ _ _)) fun D σ H q => ?_
  obtain ⟨F, Oc, H0, s, f, r, j⟩ := q
  simp only [evS] at j
  obtain ⟨O, k1, k2, k3⟩ := r.un f (esc e)
  refine ⟨dl s.1 (esc e), ⟨r.subd _, ndj_dl fun _ z => z⟩, s.2, O, H0, k3, JS.jg f r j fun y e2 j2 w H2 s2 rw2 => ?_⟩
  exact j2 _ _ ⟨⟨O, f.lift _ _ _ _ (Lift.same s2) k1, k2, k3.same s2⟩, r.subd _⟩
theorem snd_rai (C : CxtS S Γ Wx X) {c : Str} {e : E} {x : Stmt} (h : chkRai Γ c e x = true) : PS X x (tS S Wx X.K Γ (.rai c e)) := by
  unfold chkRai at h
  split at h
  case h_2 => cases h
  rename_i y yp v cp pos
  simp only [Bool.and_eq_true, decide_eq_true_eq] at h
  obtain ⟨rfl, h2, h3, h4, h5⟩ := h
  have hm := C.mke X.pn X.xe c h2 h3 h4 v _ yp cp (okX_of h5) (C.tk h5)
  refine PS.mono (L2.ps_raise C.c.calm C.c.tk hm) fun D σ H q => ?_
  obtain ⟨F, Oc, H0, s, f, r, j⟩ := q
  simp only [evS] at j
  obtain ⟨O, k1, k2, k3⟩ := r.un f (esc e)
  refine ⟨dl s.1 (esc e), ⟨r.subd _, ndj_dl fun _ z => z⟩, s.2, O, H0, k3, (JS.jg f r j fun y e2 j2 => j2).bind.imp fun y e2 j2 w H2 s2 rw2 => ?_⟩
  cases y <;> first | exact j2.elim | skip
  cases rw2
  rename_i i
  refine ⟨i, rfl, fun cls dd H3 s3 x => ?_⟩
  exact j2 σ H3 cls dd ⟨⟨O, f.lift _ _ _ _ (Lift.same (s2.trans s3)) k1, k2, k3.same (s2.trans s3)⟩, r.subd _⟩ x
theorem JS.nx {F : (Addr → Prop) → Hp → Prop} {K : PySem.W.Frag} {Oc : Addr → Prop} {H0 : Hp} {D : Ends} {a : SR} {g : Sta → SR} {N : L2.St → Hp → Prop} (j : JS F Γ Wx K Oc H0 D (match a with | .nx s' => g s' | z => z))
    (k : ∀ s', JS F Γ Wx K Oc H0 D (g s') → ∀ σ H, RelS F Γ K Oc H0 s' σ H → N σ H) : JS F Γ Wx K Oc H0 { D with nx := N } a := by
  cases a with
  | nx s' => exact k s' j
  | rt d => exact j
  | rf d => exact j
  | bk s' => exact j
  | ct s' => exact j
  | exc c i s' => exact j
  | bad => exact j
theorem snd_nil : PSs X [] (tSs S Wx X.K Γ .nil) := PSs.mono pss_nil fun D σ H q => by
  obtain ⟨F, Oc, H0, s, f, r, j⟩ := q
  simp only [evSs] at j
  exact j σ H r
theorem snd_cons {a : Sm} {r : Ss} {x : Stmt} {xs : List Stmt} (h1 : PS X x (tS S Wx X.K Γ a)) (h2 : PSs X xs (tSs S Wx X.K Γ r)) : PSs X (x :: xs) (tSs S Wx X.K Γ (.cons a r)) := PSs.mono (pss_cons h1 h2) fun D σ H q => by
  obtain ⟨F, Oc, H0, s, f, rl, j⟩ := q
  simp only [evSs] at j
  exact ⟨F, Oc, H0, s, f, rl, j.nx fun s' j' σ' H' r' => ⟨F, Oc, H0, s', f, r', j'⟩⟩
theorem snd_ifs (C : CxtS S Γ Wx X) {c : E} {a b : Ss} {x : Expr} {p q : List Stmt} {pos : Pos} (h1 : chkE Γ c x = true) (h2 : tOk c = true) (ha : PSs X p (tSs S Wx X.K Γ a)) (hb : PSs X q (tSs S Wx X.K Γ b)) : PS X (.If x p q pos) (tS S Wx X.K Γ (.ifs c a b)) := by
  refine PS.mono (ps_if (C.tt h1 h2) ha hb) fun D σ H z => ?_
  obtain ⟨F, Oc, H0, s, f, r, j⟩ := z
  simp only [evS] at j
  obtain ⟨O, k1, k2, k3⟩ := r.un f (pk c)
  refine ⟨dl s.1 (pk c), ⟨r.subd _, ndj_dl fun _ z => z⟩, s.2, O, H0, k3, (JS.jg f r j fun k e2 j2 => j2).bind.imp fun y e2 j2 => ?_⟩
  cases y <;> first | exact j2.elim | skip
  rename_i k
  refine ⟨k, rfl, fun H' sm => ?_⟩
  have r' : RelS F Γ X.K Oc H0 (dl s.1 (pk c), s.2) σ H' := ⟨⟨O, f.lift _ _ _ _ (Lift.same sm) k1, k2, k3.same sm⟩, r.subd _⟩
  cases k with
  | true => exact ⟨F, Oc, H0, _, f, r', j2⟩
  | false => exact ⟨F, Oc, H0, _, f, r', j2⟩
theorem snd_whl (C : CxtS S Γ Wx X) {n : Nat} {c : E} {b : Ss} {x : Expr} {p : List Stmt} {pos : Pos} (h1 : chkE Γ c x = true) (h2 : tOk c = true) (hb : PSs X p (tSs S Wx X.K Γ b)) : PS X (.While x p [] pos) (tS S Wx X.K Γ (.whl n c b)) := by
  refine PS.mono (ps_while C.po (C.tt h1 h2) hb) fun D σ H z => ?_
  obtain ⟨F, Oc, H0, s, f, r, j⟩ := z
  simp only [evS] at j
  refine ⟨fun m σ H => ∃ s, RelS F Γ X.K Oc H0 s σ H ∧ JS F Γ Wx X.K Oc H0 D (whGo (pk c) (fun ρ => (evE S c ρ).bind boolOf) (evSs S b) m s), ⟨n, s, r, j⟩, ?_⟩
  rintro m σ H ⟨s, r, j⟩
  cases m with
  | zero => exact j.elim
  | succ m =>
    simp only [whGo] at j
    obtain ⟨O, k1, k2, k3⟩ := r.un f (pk c)
    refine ⟨dl s.1 (pk c), ⟨r.subd _, ndj_dl fun _ z => z⟩, s.2, O, H0, k3, (JS.jg f r j fun k e2 j2 => j2).bind.imp fun y e2 j2 => ?_⟩
    cases y <;> first | exact j2.elim | skip
    rename_i k
    refine ⟨k, rfl, fun H' sm => ?_⟩
    have r' : RelS F Γ X.K Oc H0 (dl s.1 (pk c), s.2) σ H' := ⟨⟨O, f.lift _ _ _ _ (Lift.same sm) k1, k2, k3.same sm⟩, r.subd _⟩
    cases k with
    | false => exact j2 σ H' r'
    | true =>
      have j2 : JS F Γ Wx X.K Oc H0 D (match evSs S b (dl s.1 (pk c), s.2) with
        | .nx s' => whGo (pk c) (fun ρ => (evE S c ρ).bind boolOf) (evSs S b) m s'
        | .ct s' => whGo (pk c) (fun ρ => (evE S c ρ).bind boolOf) (evSs S b) m s'
        | .bk s' => .nx s'
        | r => r) := j2
      show ∃ N : L2.St → Hp → Prop, _
      refine ⟨fun σ H => ∃ s, RelS F Γ X.K Oc H0 s σ H ∧ JS F Γ Wx X.K Oc H0 D (whGo (pk c) (fun ρ => (evE S c ρ).bind boolOf) (evSs S b) m s), fun σ' H' z => ⟨m, by omega, z⟩, F, Oc, H0, _, f, r', ?_⟩
      cases e3 : evSs S b (dl s.1 (pk c), s.2) with
      | nx s' => rw [e3] at j2; exact fun σ H r => ⟨s', r, j2⟩
      | ct s' => rw [e3] at j2; exact fun σ H r => ⟨s', r, j2⟩
      | bk s' => rw [e3] at j2; exact j2
      | rt d => rw [e3] at j2; exact j2
      | rf d => rw [e3] at j2; exact j2
      | exc c i s' => rw [e3] at j2; exact j2
      | bad => rw [e3] at j2; exact j2
theorem snd_for (C : CxtS S Γ Wx X) {t : Tg} {it : It} {b : Ss} {tg x : Expr} {p : List Stmt} {pos : Pos} (h1 : chkIt Γ it tg x = true) (h2 : chkTg Γ t tg = true) (hb : PSs X p (tSs S Wx X.K Γ b)) : PS X (.For tg x p [] pos) (tS S Wx X.K Γ (.for_ t it b)) := by
  refine PS.mono (ps_for C.po C.c.calm (PI.un (P := PW' Γ (escItM true it)) (t := fun W => tI S Wx X.K W true it) fun W pw => allIt S it Γ W Wx X true (C.at pw.1) tg x h1 pw.2)
    (PG.un (P := PW' Γ []) (t := fun W => gT X.K W t) fun W p => snd_tg (C.at p.1) t _ h2) hb (folded_of (chkIt_okX h1) X.env)) fun D σ H z => ?_
  obtain ⟨F, Oc, H0, s, f, r, j⟩ := z
  simp only [evS] at j
  obtain ⟨O, k1, k2, k3⟩ := r.un f (escItM true it)
  refine ⟨dl s.1 (escItM true it), ⟨r.subd _, ndj_dl fun _ z => z⟩, s.2, O, H0, k3, JS.jg f r j fun items e2 j2 J H1 s1 sa => ?_⟩
  obtain ⟨roots, Keep, src, kp, rt⟩ := sa
  have rt := rt rfl
  subst rt
  let F' : (Addr → Prop) → Hp → Prop := fun O H => F O H ∧ Keep O H
  have f' : Frm F' Oc H0 := ⟨fun O H O' H' L z => ⟨f.lift _ _ _ _ L z.1, src.lift _ _ _ _ L (fun _ z => nomatch z) z.2⟩, f.dom⟩
  have back : ∀ {s σ H}, RelS F' Γ X.K Oc H0 s σ H → RelS F Γ X.K Oc H0 s σ H := fun z => by
    obtain ⟨⟨O, q1, q2, q3⟩, q4⟩ := z
    exact ⟨⟨O, q1.1, q2, q3⟩, q4⟩
  refine ⟨fun i m σ H => m = items.length - i ∧ i ≤ items.length ∧ ∃ s, RelS F' Γ X.K Oc H0 s σ H ∧ JS F Γ Wx X.K Oc H0 D (forGo t (evSs S b) (items.drop i) s), ⟨items.length, by simp, Nat.zero_le _, _, ⟨⟨O, ⟨f.lift _ _ _ _ (Lift.same s1) k1, kp⟩, k2, k3.same s1⟩, r.subd _⟩, by simpa using j2⟩, ?_⟩
  rintro i m σ H ⟨rfl, hi, s, r, j⟩
  obtain ⟨O, ⟨q1, q2⟩, q3, q4⟩ := r.ex
  by_cases c : i < items.length
  · refine .inr ⟨src.go _ i H q2 c, fun σ H => ∃ s, RelS F' Γ X.K Oc H0 s σ H ∧ JS F Γ Wx X.K Oc H0 D (forGo t (evSs S b) (items.drop (i + 1)) s), fun σ' H' z => ⟨items.length - (i + 1), by omega, rfl, c, z⟩, fun y H2 hy => ?_⟩
    obtain ⟨d, e3, s3, ry⟩ := src.yld _ i H y H2 q2 c hy
    have ed : items.drop i = d :: items.drop (i + 1) := by
      rw [List.drop_eq_getElem_cons c]
      have : items[i]? = some items[i] := by simp [c]
      rw [this] at e3
      rw [Option.some.inj e3]
    rw [ed] at j
    simp only [forGo] at j
    split at j
    · exact j.elim
    · rename_i ρ1 e4
      refine ⟨s.1, ⟨r.sub, fun _ z => nomatch z⟩, s.2, O, H0, d, ρ1, q4.same s3, ry, e4, fun σ' r' _ _ => ?_⟩
      refine ⟨F', Oc, H0, (s.1, ρ1), f', ⟨⟨O, ⟨f.lift _ _ _ _ (Lift.same s3) q1, src.lift _ _ _ _ (Lift.same s3) (fun _ z => nomatch z) q2⟩, q3, r'⟩, r.sub⟩, ?_⟩
      cases e5 : evSs S b (s.1, ρ1) with
      | nx s' => rw [e5] at j; exact fun σ H r => ⟨s', r, j⟩
      | ct s' => rw [e5] at j; exact fun σ H r => ⟨s', r, j⟩
      | bk s' => rw [e5] at j; exact fun σ H r => j σ H (back r)
      | rt d => rw [e5] at j; exact j
      | rf d => rw [e5] at j; exact j
      | exc c i s' => rw [e5] at j; exact fun σ H cls dd r => j σ H cls dd (back r)
      | bad => rw [e5] at j; exact j
  · have ei : i = items.length := by omega
    subst ei
    rw [List.drop_length] at j
    exact .inl ⟨src.stop _ _ H q2 (Nat.le_refl _), j σ H (back r)⟩
end
end Fe
set_option Elab.async false
set_option linter.all false
set_option maxRecDepth 100000
set_option maxHeartbeats 4000000
/-! Fe, part K: super().__init__(x) over ValueError. -/
namespace PySem
namespace Vsx
abbrev veT : List Value := [.type "ValueError", .type "Exception", .type "BaseException", .type "object"]
abbrev mwr (x : Addr) : Obj := { cls := .type "method-wrapper", dict := none, data := .fields #[.builtin "ValueError.__init__", .ref x], slots := #[] }
theorem type_vi : typeOf (.builtin "ValueError.__init__") = pure (.type "wrapper_descriptor") := by
  show builtinType _ = _
  rw [builtinType_eq_fast]
  kernel_rfl
theorem nac_vi : (kfb_private% "nameAndClass") (Value.builtin "ValueError.__init__") = (pure (("__init__" : Str), Value.type "ValueError") : Sem (Str × Value)) := by kernel_rfl
theorem along_vi (K : W.Frag) : W.alongIn K "__init__" veT = some (some (.builtin "ValueError.__init__")) := by kernel_rfl
section
open PySem.W
variable {prog : Program} {w : World} {M : Model} {A : Around} {E : Value → Shared → Prop} {hp : Heap} {gs : Array GenState} {dn : Drawn} {tk : Nat} {os : OsState}
theorem get_vi {x C : Addr} {P : Fin → Shared → Prop} (isE : W.Looks M hp (isInstance (.ref x) (.type "ValueError")) true) (k : P (.done (.ret (.ref hp.objs.size))) ⟨hp.push (mwr x), gs, dn, tk, os⟩) :
    wpAny M A (Builtin.«wrapper_descriptor.__get__» ⟨[.builtin "ValueError.__init__", .ref x, .ref C], []⟩) P E ⟨hp, gs, dn, tk, os⟩ := by
  unfold Builtin.«wrapper_descriptor.__get__»
  refine wpAny_bind (wpAny_of_eq (a := (.builtin "ValueError.__init__", some (.ref x), some (.ref C))) (by first | rfl | kernel_rfl) ?_)
  show wpAny M A ((kfb_private% "checkInstance") (.builtin "ValueError.__init__") (.ref x) >>= fun _ => newFields "method-wrapper" [.builtin "ValueError.__init__", .ref x] >>= fun r => ret r) P E _
  refine wpAny_bind ?_
  show wpAny M A ((kfb_private% "nameAndClass") (.builtin "ValueError.__init__") >>= _) _ E _
  refine wpAny_bind (wpAny_of_eq nac_vi ?_)
  show wpAny M A (isInstance (.ref x) (.type "ValueError") >>= _) _ E _
  refine wpAny_bind (isE.at (KFB.if_not rfl (wpAny_pure (wpAny_bind (wpAny_newObj_type (wpAny_pure k))))))
theorem sup_vi {so D x C : Addr} {l₀ l : List Value} {K : Frag} {name : Str} {tok : Tok} {Q : Fin → Shared → Prop}
    (isS : hp.get? so = some { cls := .type "super", dict := none, data := .fields #[.ref D, .ref x, .ref C], slots := #[] }) (opq : W.Looks (model prog w) hp (opaqueClassAbove (.ref C)) none)
    (mro : W.Looks (model prog w) hp (mroOf (.ref C)) l₀) (cut : (l₀.dropWhile (· != .ref D)).drop 1 = l) (X : K.In hp)
    (fnd : alongIn K name l = some (some (.builtin "ValueError.__init__"))) (xC : x ≠ C) (nm : (name == ("__class__" : Str)) = false) (isE : W.Looks (model prog w) hp (isInstance (.ref x) (.type "ValueError")) true)
    (k : Q (.done (.ret (.ref hp.objs.size))) ⟨hp.push (mwr x), gs, dn, tk, os⟩) :
    wpAny (model prog w) A (Builtin.«super.__getattribute__» ⟨[.ref so, .str name tok], []⟩) Q E ⟨hp, gs, dn, tk, os⟩ := by
  have lk := ESX.slot_wd.lookup
  have ne : (Value.ref x == Value.ref C) = false := by simp [xC]
  have t1 := type_vi
  have t2 : Shared.TypeIs ⟨hp, gs, dn, tk, os⟩ (.builtin "ValueError.__init__") "wrapper_descriptor" := type_vi
  have ed : ({ cls := .type "super", dict := none, data := .fields #[.ref D, .ref x, .ref C], slots := #[] } : Obj).data = .fields #[.ref D, .ref x, .ref C] := rfl
  have p0 : (#[.ref D, .ref x, .ref C] : Array Value)[0]? = some (.ref D) := rfl
  have p1 : (#[.ref D, .ref x, .ref C] : Array Value)[1]? = some (.ref x) := rfl
  have p2 : (#[.ref D, .ref x, .ref C] : Array Value)[2]? = some (.ref C) := rfl
  unfold Builtin.«super.__getattribute__»
  repeat (first
    | (with_reducible refine wpAny_field isS ed p0 ?_) | (with_reducible refine wpAny_field isS ed p1 ?_) | (with_reducible refine wpAny_field isS ed p2 ?_)
    | (with_reducible refine ks_wpAny_notOpaque opq ?_)
    | (with_reducible refine Looks.at mro ?_; rw [cut])
    | (refine ks_forIn_along X (fun _ _ => rfl) rfl ?_ fnd)
    | (with_reducible refine wpAny_call_entry ESX.slot_wd t2 ESX.entry_wd ?_ (ESX.args_wd _ _ _))
    | (with_reducible refine get_vi isE ?_)
    | (with_reducible refine ⟨_, rfl, ?_⟩)
    | (simp only [nm, ne, Bool.or_false, Bool.false_eq_true, if_false])
    | wp_step
    | dsimp only)
  all_goals exact k
theorem meth_vi {so D x C : Addr} {l₀ l : List Value} {K : Frag} {name : Str} {pl : Sem Bool} {Q : Value × List Value → Shared → Prop}
    (isS : hp.get? so = some { cls := .type "super", dict := none, data := .fields #[.ref D, .ref x, .ref C], slots := #[] }) (opq : W.Looks (model prog w) hp (opaqueClassAbove (.ref C)) none)
    (mro : W.Looks (model prog w) hp (mroOf (.ref C)) l₀) (cut : (l₀.dropWhile (· != .ref D)).drop 1 = l) (X : K.In hp)
    (fnd : alongIn K name l = some (some (.builtin "ValueError.__init__"))) (xC : x ≠ C) (nm : (name == ("__class__" : Str)) = false) (isE : W.Looks (model prog w) hp (isInstance (.ref x) (.type "ValueError")) true)
    (k : Q (.ref hp.objs.size, []) ⟨hp.push (mwr x), gs, dn, tk + 1, os⟩) :
    wpAny (model prog w) A (getMethod (.ref so) name pl) Q E ⟨hp, gs, dn, tk, os⟩ := by
  have lk := F.ks_slot_super_ga.lookup
  have can := F.ks_canon_super_ga
  have ty : ∀ t', (⟨hp, gs, dn, t', os⟩ : Shared).TypeIs (.ref so) "super" := fun _ => ⟨_, isS, rfl⟩
  unfold getMethod
  refine wpAny_bind (wpAny_specialOf (ty _) lk ?_)
  show wpAny _ _ (if (Manifest.canonical "super.__getattribute__" != "object.__getattribute__") = true then _ else _) _ _ _
  rw [if_pos can]
  unfold getAttr getAttrBy
  refine wpAny_bind (wpAny_bind (wpAny_mkText (wpAny_holding (wpAny_bind (wpAny_typeOf (ty _) (wpAny_bind (wpAny_of_eq lk ?_)))))))
  show wpAny _ _ (getAttrByItsOwn (.ref so) (.str name tk) (.type "super") (.builtin "super.__getattribute__") true false) _ _ _
  unfold getAttrByItsOwn hookBefore callGetattribute boundAndCalled
  refine wpAny_bind (wpAny_of_eq (show (if onTheHeap (.type "super") then typeLookup (.type "super") "__getattr__" else pure none) = pure none from rfl) ?_)
  refine wpAny_bind (wpAny_attempt (wpAny_holding ?_))
  show wpAny _ _ (bindSpecial (.builtin "super.__getattribute__") (.ref so) >>= _) _ _ _
  refine wpAny_bind (wpAny_of_eq (F.ks_slot_super_ga.bind _) ?_)
  refine wpAny_mono (Q := fun v s' => v = .ref hp.objs.size ∧ s' = ⟨hp.push (mwr x), gs, dn, tk + 1, os⟩) (E := fun _ _ => False)
    (wpAny_call_entry F.ks_slot_super_ga (ty _) F.ks_entry_super_ga (sup_vi isS opq mro cut X fnd xC nm isE ⟨_, rfl, rfl, rfl⟩) (F.ks_gaArgs_super _ _)) (fun v s' e => ?_) fun _ _ z => z.elim
  obtain ⟨e1, e2⟩ := e
  subst e1
  subst e2
  exact wpAny_pure (wpAny_pure k)
end
section
open PySem.W PySem.Calls PyProof.Rows
variable {prog : Program} {w : World} {M : Model} {A : Around} {E : Value → Shared → Prop} {s : Shared}
theorem cw_mwr {pos : Pos} {u x : Addr} {first : List Value} {args : List (Bool × Sem Value)} {Q : Value → Shared → Prop} (pl : args.any (·.1) = false)
    (h : wpAny M A (evalArgs (.ref u) true args []) (fun a s₁ => s₁.heap.get? u = some (mwr x) ∧ wpAny M A (call (.ref u) (first ++ a.pos) a.kw) Q E s₁) E s) : wpAny M A (callWith pos (.ref u) first args []) Q E s := by
  unfold callWith
  refine wpAny_bind (wpAny_holding (wpAny_mono h (fun a s₁ q => wpAny_bind (wpAny_standAt ?_)) fun _ _ z => z))
  obtain ⟨at_, cl⟩ := q
  simp only [pl, List.any_nil, Bool.or_false]
  refine wpAny_bind (m := keeperOf (.ref u)) ?_
  unfold keeperOf
  refine wpAny_bind (wpAny_load at_ ?_)
  simp only [mwr, show (Value.type "method-wrapper" != Value.type "method") = true by decide, show (Value.type "method-wrapper" == Value.type "builtin_function_or_method" || Value.type "method-wrapper" == Value.type "method-wrapper") = true by decide, if_true]
  exact wpAny_pure (wpAny_bind (wpAny_mono cl (fun r s₂ z => wpAny_bind (wpAny_holding (wpAny_point (wpAny_pure z)))) fun _ _ z => z))
theorem cw_bound {pos : Pos} {u x : Addr} {first : List Value} {env : Env} {e : Expr} {rest : List Expr} {Q : Value → Shared → Prop}
    (h : wpAny M A (spliced (backTo pos (starEach (e :: rest) env))) (fun vs s₁ => s₁.heap.get? u = some (mwr x) ∧ wpAny M A (call (.ref u) (first ++ vs)) Q E s₁) E s)
    (he : starEach (e :: rest) env = (false, eval e env) :: starEach rest env := by rfl) (pl : (backTo pos (starEach rest env)).any (·.1) = false := by rfl) :
    wpAny M A (callWith pos (.ref u) first (backTo pos (starEach (e :: rest) env)) []) Q E s := by
  rw [he] at h ⊢
  exact cw_mwr (x := x) (by show (false || (backTo pos (starEach rest env)).any (·.1)) = false; rw [pl]; rfl) (evalArgs_plain h)
end
section
variable {prog : Program} {w : World} {A : Around} {E : Value → Shared → Prop} {hp : Heap} {gs : Array GenState} {dn : Drawn} {tk : Nat} {os : OsState}
variable {nm q : Str} {C N : Addr} {bs bm : List Value} {hdct : Bool} {sn : List Str} {sub : List Value} {ab : Bool} {col : Option Bool} {dd : Option Addr} {k0 k1 k2 k3 k5 : Option Value}
theorem call_mwr {u e t0 : Addr} {rest : List Value} {Q : Value → Shared → Prop}
    (hC : hp.get? C = some (excClassObj nm q C N bs bm hdct sn sub ab col dd k0 k1 k2 k3 k5 "ValueError.__new__")) (he : hp.get? e = some (HandSPX.excO C t0)) (hu : hp.get? u = some (mwr e)) (few : rest.length ≤ sizeLine)
    (k : ∀ h' t1, (∀ b o, b ≠ e → hp.get? b = some o → h'.get? b = some o) → h'.get? e = some (HandSPX.excO C t1) → Q .none ⟨h', gs, dn, tk, os⟩) :
    wpAny (model prog w) A (call (.ref u) rest) Q E ⟨hp, gs, dn, tk, os⟩ := by
  refine wpAny_call (codeAny_of_tree ?_)
  show wpAny _ A.in1 (callAny (.ref u) ⟨rest, []⟩) _ _ _
  simp only [callAny]
  refine wpAny_bind (wpAny_load hu ?_)
  simp only [mwr, show (Value.type "method-wrapper" == Value.type "method" || Value.type "method-wrapper" == Value.type "builtin_function_or_method" || Value.type "method-wrapper" == Value.type "method-wrapper") = true by decide, if_true]
  refine W.KFB.if_so (by decide) ?_
  refine wpAny_bind (ESX.check_bound F.excBase_ValueError hC he rfl ?_)
  refine wpAny_bind (wpAny_pure (wpAny_pure ?_))
  refine ⟨Code.quiet_builtin _ (by decide +kernel), codeAny_builtin F.excBase_ValueError.initEntry ?_⟩
  rw [Around.under_plainId F.excBase_ValueError.init.plain _]
  wp_walk
  refine k _ hp.objs.size (fun b o ne ho => ?_) ?_
  · exact (Heap.get?_update_other _ _ (Ne.symm ne)).trans (Heap.get?_push_of_some _ ho)
  · refine (Heap.get?_update_self _ (Heap.get?_push_of_some _ he) rfl).trans ?_
    rfl
end
end Vsx
end PySem
set_option Elab.async false
set_option linter.all false
set_option maxRecDepth 100000
set_option maxHeartbeats 4000000
/-! Fe, part L: the own errors' __init__; raising and catching. -/
namespace Fe
open PySem PySem.Spec PyProof.Rows L2
/-- what must be seen of the class D whose __init__ is f, with its cell cc and its code at ca -/
structure IniF (P : Program) (K : PySem.W.Frag) (mg : Str → Option Value) (D f cc ca : Addr) (name qual : Str) (params : Arguments) (scope : Scope) (body : List Stmt) : Prop where
  lk : ∃ oc od osl kV doc pm an ct, K.lookup f = some ⟨oc, od, .func (PySem.W.ksFn name qual params body scope .none kV doc pm an (.ref ca) ct cc), osl⟩
  hcd : PySem.W.codeIn K (.ref ca) qual = true
  code : ∃ ccl cdd vs ccs file tf, K.lookup ca = some ⟨ccl, cdd, .fields vs, ccs⟩ ∧ vs[2]? = some (.str file tf) ∧ ((P.main.file : Str) == file) = true
  cell : ∃ cl cld csl, K.lookup cc = some ⟨cl, cld, .cell (some (.ref D)), csl⟩
  cls : ∃ cd, PySem.W.clsIn K D = some cd
  top : (P.main.scope.names.lookup ("super" : Str)).isSome = false
  sup : mg "super" = none
  par : ∃ ar, (params.posonlyargs ++ params.args).head? = some ar ∧ ar.arg = ("self" : Str)
  scp : NdefX.NScope [("self" : Str), "at", "__class__"] [("self" : Str), "at"] [("__class__" : Str)] scope
  ks : scope.names.lookup ("super" : Str) = some .globalImplicit
  bod : ∃ p0 p1 p2 p3 p4 p5 p6 p7 p8 p9, body = [.Expr (.Call (.Attribute (.Call (.Name "super" p0) [] [] p1) "__init__" p2) [.Name "at" p3] [] p4) p5, .Assign [.Attribute (.Name "self" p6) "at" p7] (.Name "at" p8) p9] ∧
    ∃ pl : PySem.Env → Sem Bool, ∀ env : PySem.Env, eval (.Call (.Attribute (.Call (.Name "super" p0) [] [] p1) "__init__" p2) [.Name "at" p3] [] p4) env = (do
      let ov ← attributeBase (.Call (.Name "super" p0) [] [] p1) "__init__" env (eval (.Call (.Name "super" p0) [] [] p1) env)
      standAt p2.atName
      let (f, first) ← holding [ov] (getMethod ov "__init__" (pl env))
      callWith p4 f first (backTo p4 (starEach [.Name "at" p3] env)) [])
  opq : PySem.W.nsIn K cStatics "thirdparty.any" = some none
/-- .. of a class C below it -/
structure SubF (K : PySem.W.Frag) (D C : Addr) : Prop where
  ex : OexC K C
  sub : PySem.W.mroIn K C (.ref D) = some true
  ve : PySem.W.mroIn K C (.type "ValueError") = some true
  cut : ∃ cd, PySem.W.clsIn K C = some cd ∧ (cd.mro.dropWhile (· != .ref D)).drop 1 = PySem.Vsx.veT
  at_ : PySem.W.findIn K (.ref C) "at" = some none
def spI (K : PySem.W.Frag) (D : Addr) : Sp := fun vs H Q _ => ∃ (a C : Addr) (i : Int), vs = [.ref a, .int i] ∧ SubF K D C ∧ H a = some (exo a C none) ∧
  ∀ d, H d = none → d ≠ a → Q .non (upd (upd H d (exd d [("at", .int i)])) a (exo a C (some d)))
theorem ini_ok {CX : CXT} {P : Program} {w : World} {K : PySem.W.Frag} {mg : Str → Option Value} {base : Heap} {k : Nat} {D f cc ca : Addr} {name qual : Str} {params : Arguments} {scope : Scope} {body : List Stmt}
    (F : IniF P K mg D f cc ca name qual params scope body) : ∃ fd, FnOk P w K mg base CX (k + 1) f fd [("self" : Str), "at"] (spI K D) ∧ fd.params = params ∧ (∃ o, K.lookup f = some o ∧ o.data = .func fd) := by
  obtain ⟨oc, od, osl, kV, doc, pm, an, ct, lk⟩ := F.lk
  refine ⟨_, ⟨fun vs H Q E q => ?_, fun A outer s H args us vs Q E hr e0 hb r hsp => ?_⟩, rfl, _, lk, rfl⟩
  · obtain ⟨a, C, i, rfl, _⟩ := q
    rfl
  obtain ⟨a, C, i, rfl, T, ea, q⟩ := hsp
  have KX : K.In s.heap := e0.mod.kin.keeps fun b o e => (e0.bs b o e).1
  have lim : s.heap.NoLimit := e0.mod.nolimit.keeps fun b o e => (e0.bs b o e).1
  obtain ⟨cl, cld, csl, hcell⟩ := F.cell
  have S := F.scp
  refine PySem.ks_codeAny_call_defAt (fd := PySem.W.ksFn name qual params body scope .none kV doc pm an (.ref ca) ct cc) (body := body) hr.depth (KX _ _ lk) rfl lim (PySem.W.codeRec_of KX F.hcd) rfl hb S.nocell (fun ⟨n, v⟩ hy => S.par n (List.of_mem_zip hy).1) (fun h₁ hns kp => ?_) S.co S.gen S.kind
  obtain ⟨p0, p1, p2, p3, p4, p5, p6, p7, p8, p9, ebd, plm, hpl⟩ := F.bod
  let NFn : NdefX.NF := ⟨name, qual, params, body, scope, [("__class__", cc)], ca⟩
  have cl1 : ∀ {y : Str} {c : Addr}, NFn.cl.lookup y = some c → y = ("__class__" : Str) ∧ c = cc := fun {y c} e => by
    have e : List.lookup y [(("__class__" : Str), cc)] = some c := e
    cases h : (y == ("__class__" : Str)) with
    | true =>
      simp only [List.lookup, h] at e
      exact ⟨by simpa using h, (Option.some.inj e).symm⟩
    | false =>
      simp only [List.lookup, h] at e
      cases e
  have hcc : ∃ v, s.heap.IsCell cc v := ⟨_, _, KX _ _ hcell, rfl⟩
  have ncc : H cc = none := (e0.bs _ _ (e0.mod.kin _ _ hcell)).2
  have C0 : NdefX.CellsAt NFn.cl [("__class__" : Str)] [some (.ref D)] s.heap H := by
    refine ⟨rfl, fun y c e => ?_, fun x y c e1 e2 => (cl1 e1).1.trans (cl1 e2).1.symm, fun i y e => ?_⟩
    · rw [(cl1 e).2]; exact ⟨ncc, hcc⟩
    · cases i with
      | zero =>
        have e : some ("__class__" : Str) = some y := e
        cases e
        refine ⟨cc, rfl, fun v ev => ?_⟩
        have ev : some (some (V.ref D)) = some (some v) := ev
        cases ev
        exact ⟨.ref D, rfl, ⟨_, KX _ _ hcell, rfl⟩⟩
      | succ i => simp at e
  have I : Inv (NdefX.ncx CX P w K mg base [("self" : Str), "at", "__class__"] NFn f A outer s H E) [] (NdefX.startF [("self" : Str), "at", "__class__"] [.ref a, .int i] [some (.ref D)]) H { s with heap := h₁, toks := s.toks + ([("self" : Str), "at"].zip us).length } :=
    NdefX.inv_startN S hr.hd e0 rfl r C0 hns kp
  have kse : scope.names.lookup ("self" : Str) = some .local := S.par _ (by simp)
  have kat : scope.names.lookup ("at" : Str) = some .local := S.par _ (by simp)
  have kcl : scope.names.lookup ("__class__" : Str) = some .free := S.frk _ (by simp)
  obtain ⟨ccl, cdd, cvs, ccs, file, tf, hcode, hvs, hfile⟩ := F.code
  obtain ⟨ar, hp, har⟩ := F.par
  obtain ⟨mb, b1, b2⟩ := I.mod.blt
  obtain ⟨cd, hD⟩ := F.cls
  obtain ⟨oD, hD1, hD2⟩ : ∃ oD, h₁.get? D = some oD ∧ oD.data = .cls cd := by
    unfold PySem.W.clsIn at hD
    split at hD
    · rename_i ho
      cases hD
      exact ⟨_, I.kIn _ _ ho, rfl⟩
    · cases hD
  obtain ⟨t0, hoa⟩ := exo_at I.hok ea
  obtain ⟨m, hm1, hm2⟩ := I.loc
  obtain ⟨u0, ru0, l0⟩ := hm2 0 ("self" : Str) (.ref a) rfl rfl (.inl kse)
  obtain rfl : u0 = Value.ref a := ru0
  have l0 : m ("self" : Str) = some (.ref a) := by
    rcases l0 with ⟨_, z⟩ | ⟨z, _⟩
    · exact z
    · have z : scope.names.lookup ("self" : Str) = some .cell ∨ scope.names.lookup ("self" : Str) = some .free := z
      rw [kse] at z
      rcases z with z | z <;> cases z
  obtain ⟨cdC, hcC, cut⟩ := T.cut
  show PySem.wpAt (model P w) (A.deeper (NdefX.envF NFn f s.heap.objs.size)) (.func body (NdefX.envF NFn f s.heap.objs.size)) (execs body (NdefX.envF NFn f s.heap.objs.size)) _ _ _
  rw [ebd]
  refine PySem.ks_wpAt_execs_cons (PySem.ks_wpAt_Expr_any (PySem.ks_wpAt_MethodCall (PySem.ks_wpAt_super_base F.ks kcl (by decide) rfl (I.kIn _ _ lk) rfl hp rfl (I.kIn _ _ hcode) rfl hvs hfile F.top ?_) (hpl _)) I.quiet)
  refine PySem.W.ks_loadName_global S.kind F.ks (Calls.loadGlobal_builtin (I.mod.glob.keeps I.bk) F.sup (b1.keeps I.bk) ((b2 ("super" : Str) (by decide)).trans PyProof.Rows.Boot.«super») ⟨rfl, ?_⟩)
  refine wpAny_loadName_free S.kind kcl rfl ⟨_, I.kIn _ _ hcell, rfl⟩ ?_
  rw [har]
  refine wpAny_loadName_local S.kind kse hm1 l0 ?_
  refine PySem.ks_wpAny_isType_cls hD1 hD2 ⟨rfl, ?_⟩
  have KX1 : K.In h₁ := I.kIn
  refine PySem.ks_wpAny_call_super hD1 hD2 hoa rfl (fun c => by intro z; cases z) (PySem.W.looks_mroIn KX1 T.sub) (fun h' eS kp' => ?_)
  have eS' := eS
  have hoa' := kp' _ _ hoa
  have KX2 : K.In h' := KX1.keeps kp'
  have I1 : Inv (NdefX.ncx CX P w K mg base [("self" : Str), "at", "__class__"] NFn f A outer s H E) [] (NdefX.startF [("self" : Str), "at", "__class__"] [.ref a, .int i] [some (.ref D)]) H { s with heap := h', toks := s.toks + ([("self" : Str), "at"].zip us).length } := I.kept kp'
  have aC : a ≠ C := PySem.W.ks_ne KX2 (ox := _) (odx := none) ⟨hoa', rfl, rfl, trivial⟩ hcC
  have J : PySem.W.InstAt h' a _ C none := ⟨hoa', rfl, rfl, trivial⟩
  have isE : PySem.W.Looks (model P w) h' (isInstance (.ref a) (.type "ValueError")) true := J.type.andThen (PySem.W.looks_mroIn KX2 T.ve)
  refine PySem.Vsx.meth_vi eS (PySem.W.looks_opaque KX2 F.opq) (l₀ := cdC.mro) ((PySem.W.looks_clsIn KX2 hcC).andThen .now) cut KX2 (PySem.Vsx.along_vi K) aC rfl isE ?_
  refine PySem.Vsx.cw_bound (x := a) ?_
  let X := NdefX.ncx CX P w K mg base [("self" : Str), "at", "__class__"] NFn f A outer s H E
  have I2 : Inv X [] (NdefX.startF [("self" : Str), "at", "__class__"] [.ref a, .int i] [some (.ref D)]) H ⟨h'.push (PySem.Vsx.mwr a), s.gens, s.drawn, s.toks + ([("self" : Str), "at"].zip us).length + 1, s.os⟩ :=
    (I1.kept (t' := s.toks + ([("self" : Str), "at"].zip us).length + 1) fun b o e => Heap.get?_push_of_some _ e)
  have hu2 : (h'.push (PySem.Vsx.mwr a)).get? h'.objs.size = some (PySem.Vsx.mwr a) := Heap.get?_push_at rfl rfl
  have I3 : Inv X [(h'.objs.size, PySem.Vsx.mwr a)] (NdefX.startF [("self" : Str), "at", "__class__"] [.ref a, .int i] [some (.ref D)]) H ⟨h'.push (PySem.Vsx.mwr a), s.gens, s.drawn, s.toks + ([("self" : Str), "at"].zip us).length + 1, s.os⟩ := I2.pins_of fun p hp => by
    have hp : p = (h'.objs.size, PySem.Vsx.mwr a) := by simpa using hp
    subst hp
    exact ⟨hu2, I1.hok.fresh (Nat.le_refl _), Nat.ne_of_gt I1.lt, I1.nofs (Nat.le_refl _), fun v z => by cases z⟩
  have pat : PE X (.Name "at" p3) (tVar 1) := pe_var (X := X) (i := 1) rfl (.inl kat)
  refine thn ((pa1 (X := X) (x := .Name "at" p3) rfl pat).run p4 _ _ _ H (fun vs H' => vs = [.int i] ∧ H' = H) I3 ⟨_, rfl, rfl, rfl⟩) fun us4 s4 ⟨vs4, H4, I4, r4, e4, e5⟩ => ?_
  subst e4
  subst e5
  obtain ⟨g1, _⟩ := I4.pin (h'.objs.size, PySem.Vsx.mwr a) (List.mem_append_right _ (List.mem_cons_self ..))
  refine ⟨g1, ?_⟩
  obtain ⟨nm, qq, N, bs, bm, sn, sub, ab, col, dd, k0, k1, k2, k3, k5, hC, hbm⟩ := T.ex.cls
  obtain ⟨t4, ho4⟩ := exo_at I4.hok ea
  obtain ⟨hp4, gs4, dn4, tk4, os4⟩ := s4
  have few : us4.length ≤ sizeLine := by
    rw [← Paired.length r4, sizeLine_eq]
    simp
  refine PySem.Vsx.call_mwr (I4.kIn _ _ hC) ho4 g1 few fun h5 t5 k5' hx5 => ?_
  have I5 := I4.write (t' := tk4) (x := a) (e := a) (o := exo a C none) (by rw [ea]; exact True.intro) (.inl rfl) k5' ⟨_, hx5⟩ (exo_ok hx5)
  have eu : upd H4 a (exo a C none) = H4 := by
    funext b
    by_cases z : b = a
    · rw [z, upd_same, ea]
    · exact upd_ne z
  rw [eu] at I5
  have I6 : Inv X [] (NdefX.startF [("self" : Str), "at", "__class__"] [.ref a, .int i] [some (.ref D)]) H4 ⟨h5, gs4, dn4, tk4, os4⟩ := I5.pins_of fun p z => nomatch z
  have pse : PE X (.Name "self" p6) (tVar 0) := pe_var (X := X) (i := 0) rfl (.inl kse)
  have pa8 : PE X (.Name "at" p8) (tVar 1) := pe_var (X := X) (i := 1) rfl (.inl kat)
  have pso : PSs X [.Assign [.Attribute (.Name "self" p6) "at" p7] (.Name "at" p8) p9] (tOst X.K "at" (tVar 0) (tVar 1)) := pss_one (ps_ost pse pa8)
  have run := pso.run [] _ _ _ { nx := fun _ H' => Q .non H', rt := Q } I6 ⟨_, rfl, _, rfl, a, C, rfl, T.ex, T.at_, .inl ⟨ea, fun d n ne => q d n ne⟩⟩
  refine wpAt_of_wpAny (wpAny_mono run (fun fl s' hs => ?_) fun e s' hs => hs)
  have fin : ∀ {σ' : L2.St} {H' : Hp} {v : V} {u : Value}, Inv X [] σ' H' s' → RelV v u → Q v H' → CE outer P w H4 s Q u s' := fun {σ' H' v u} J rv q => ⟨v, H', J.os, J.bare, J.base, J.hok, rv, q⟩
  cases fl with
  | ret u =>
    obtain ⟨v, σ', H', J, rv, q⟩ := hs
    exact fin J rv q
  | next =>
    obtain ⟨σ', H', J, q⟩ := hs
    exact fin (v := V.non) (u := Value.none) J rfl q
  | brk =>
    obtain ⟨_, _, _, z⟩ := hs
    exact z.elim
  | cont =>
    obtain ⟨_, _, _, z⟩ := hs
    exact z.elim
end Fe
set_option Elab.async false
set_option linter.all false
set_option maxRecDepth 100000
set_option maxHeartbeats 4000000
/-! Fe, part M: raise and try. -/
namespace Fe
open PySem PySem.Spec PyProof.Rows L2

/-! ### raise -/
/-- a reading, closed upwards -/
def clT (t : TE) : TE := fun σ H Q => ∃ Q0 : VK, t σ H Q0 ∧ ∀ v H', Q0 v H' → Q v H'
theorem PE.cl {X : Cx} {e : Expr} {t : TE} (h : PE X e t) : PE X e (clT t) := ⟨fun pins s σ H Q I ⟨Q0, z, k⟩ => thn (h.run pins s σ H Q0 I z) fun _ _ ⟨v, H', I', r, q⟩ => ⟨v, H', I', r, k v H' q⟩⟩
theorem mk_ok {CX : CXT} {X : Cx} {c : Str} {k : Nat} {D fI : Addr} {fd : FuncData} {x : Expr} {t : TE} {p pos : Pos} (T : SubF X.K D (He.ga X.K c)) (iC : PySem.W.findIn X.K (.ref (He.ga X.K c)) "__init__" = some (some (.ref fI))) (tI : PySem.W.typeIn X.K (.ref fI) = some (.type "function"))
    (F1 : FnOk X.prog X.w X.K X.mg X.base CX k fI fd [("self" : Str), "at"] (spI X.K D)) (hr : Room (k + 1) X.A) (hb : Binds X.K fd [("self" : Str), "at"] []) (hx : Passes CX X (fun _ _ _ => False)) (hg : Gl X c) (hm : X.mg c = some (.ref (He.ga X.K c))) (hd : (c == ("__debug__" : Str)) = false)
    (ok : okX x = true) (h : PE X x t) : PMk X (.Call (.Name c p) [x] [] pos) (tMk X.K c t) := by
  have q := pmk_oex (p := p) (pos := pos) T.ex iC tI F1 hr hb (.nil : Vals [] []) hx hg hm (pa1 ok (PE.cl h)) hd (star_of ok [] X.env)
  intro pins s σ H Q I z
  refine q pins s σ H Q I ⟨_, z, fun v H1 ⟨i, e, z⟩ => ⟨by simp, fun a na => ⟨a, _, i, by rw [e]; rfl, T, upd_same, fun d nd ne => ⟨rfl, d, _, upd_same, (upd_ne ne).trans upd_same, ?_, ?_⟩⟩⟩⟩
  · rw [upd_ne ne] at nd
    exact nd
  · have nd : H1 d = none := by rw [upd_ne ne] at nd; exact nd
    refine z _ _ _ (fun b u hb => ?_) ⟨d, rfl, rfl, upd_same⟩
    have b1 : b ≠ d := ne_of_none hb nd
    have b2 : b ≠ a := ne_of_none hb na
    rw [upd_ne b1, del_ne b2, upd_ne b2, upd_ne b1, upd_ne b2]
    exact hb

/-! ### try, with several clauses that name the error -/
abbrev TCl := Addr → Value → Option Addr → TS
def outE (i : Nat) (D : Ends) : Ends := { nx := fun σ H => D.nx (σ.set i none) H, rt := D.rt, bk := fun σ H => D.bk (σ.set i none) H, ct := fun σ H => D.ct (σ.set i none) H }
/-- what the clauses wish of an error, one after the other -/
def wAll (K : PySem.W.Frag) (i : Nat) (Wo : WX) (D : Ends) : List (Value × TCl) → WX
  | [] => Wo
  | (c, t) :: r => fun cls d σ H => ∃ b, PySem.W.exmOne K cls c = some b ∧ (b = true → ∀ a, H a = none → t a cls d (outE i D) (σ.set i (some (.ref a))) H) ∧ (b = false → wAll K i Wo D r cls d σ H)
inductive HdAs (X : Cx) (n : Str) : List ExceptHandler → List (Value × TCl) → Prop
  | nil : HdAs X n [] []
  | cons {x : Str} {c : Value} {t : TCl} {st : Stmt} {sts : List Stmt} {p q : Pos} {hs : List ExceptHandler} {l : List (Value × TCl)} (nm : Names X x c)
      (su : ∀ (a : Addr) (oe : Obj) (cls : Value) (d : Option Addr) (pn : List (Addr × Obj)), Zc cls d oe → (∃ vs, oe.data = .fields vs) → PSs (X.suite a ((a, oe) :: pn)) (st :: sts) (t a cls d)) (r : HdAs X n hs l) :
      HdAs X n (.ExceptHandler (some (.Name x p)) (some n) (st :: sts) q :: hs) ((c, t) :: l)
theorem ps_tries {X : Cx} {n : Str} {i : Nat} {body : List Stmt} {h₀ : ExceptHandler} {hds : List ExceptHandler} {l : List (Value × TCl)} {pos : Pos} {tb : WX → TS} {Wo : WX}
    (hs : X.stack = X.env :: X.outer) (hf : X.env.frame = some X.env.locals) (hN : X.N.Nodup) (hi : X.N[i]? = some n) (hl : X.env.kindOf n = some .local) (tk : Takes X Wo)
    (hb : ∀ (W : WX) (pn : List (Addr × Obj)) (xe : Value → Shared → Prop), Takes (X.tr pn xe) W → PassesOwn (model X.prog X.w) X.A X.env xe → PSs (X.tr pn xe) body (tb W))
    (hh : HdAs X n (h₀ :: hds) l) : PS X (.Try body (h₀ :: hds) [] [] pos) (fun D σ H => tb (wAll X.K i Wo D l) D σ H) := by
  refine ⟨fun pins s σ H D I h => ?_⟩
  have okX := I.ok
  have fr : X.A.frames = some (X.env :: X.outer) := by rw [okX.frames, hs]
  have loc : Loc X.env.scope n := .inl hl
  refine wpAny_Try_except (wpAny_mono ((hb (wAll X.K i Wo D l) (X.pn ++ pins) (fun e s1 => wpAny (model X.prog X.w) X.A (noteFrame e X.env) (fun _ s2 => wpAny (model X.prog X.w) X.A (setFlight e none) (fun _ s3 =>
    wpAny (model X.prog X.w) X.A (handleBy e X.env (h₀ :: hds)) (SP X pins D) X.xe s3) X.xe s2) X.xe s1) (fun u s' xx => ?_) PassesOwn.looking).run [] s σ H D (I.toTry _) h) (fun f s1 sp => ?_) (fun e s1 he => he))
  · obtain ⟨a, B, sJ, pins1, τ, G, cls, d, rfl, J1, nb, up, sky, na, os, ag, want⟩ := xx
    have J : Inv X pins τ G sJ := J1.ofTry okX
    have sky1 : Sky B (X.env :: X.outer) a (Zc cls d) X.env.locals s'.heap := by rw [← hs]; exact sky
    show wpAny (model X.prog X.w) X.A (noteFrame (.ref a) X.env) _ _ _
    refine Sky.land Zc.steady fr hf sky1 fun k3 land upk => ?_
    have J3 : Inv X pins τ G { s' with heap := k3 } := J.landed nb land.1 (up.trans upk) os ag
    obtain ⟨ob3, fv3, g3, z3, f3⟩ := land.there
    have nofr : a ∉ frs (X.env :: X.outer) := fun mm => by
      obtain ⟨_, o2, e2, nd⟩ := land.2.2.1.mem mm
      rw [g3] at e2
      cases e2
      exact nd _ f3
    have aL : a ≠ X.env.locals := fun z => nofr (List.mem_filterMap.mpr ⟨X.env, List.mem_cons_self, by rw [hf, z]⟩)
    have aF : a ∉ X.fs := fun mm => by
      obtain ⟨e2, m2, q2⟩ := List.mem_filterMap.mp mm
      exact nofr (List.mem_filterMap.mpr ⟨e2, List.mem_cons_of_mem _ m2, q2⟩)
    have S3 := J3.suite g3 f3 na aL aF
    have go : ∀ {hs1 : List ExceptHandler} {l1 : List (Value × TCl)}, HdAs X n hs1 l1 → wAll X.K i Wo D l1 cls d τ G → wpAny (model X.prog X.w) X.A (handleBy (.ref a) X.env hs1) (SP X pins D) X.xe { s' with heap := k3 } := by
      intro hs1 l1 hk
      induction hk with
      | nil =>
        intro want
        refine wpAny_handleBy_nil ?_
        obtain ⟨_, _, _, oe, vs, T, oT, _, ge, _, de, v1, _⟩ := id land
        unfold PySem.passOn
        refine wpAny_bind (wpAny_field ge de v1 ?_)
        have nn : ¬ ((Value.ref T == Value.none) = true) := by simp
        rw [if_neg nn]
        have last : wpAny (model X.prog X.w) X.A (setFlight (.ref a) X.env.frame) (fun _ s4 => wpAny (model X.prog X.w) X.A (throw (.ref a) : Sem Flow) (SP X pins D) X.xe s4) X.xe { s' with heap := k3 } := by
          rw [hf]
          exact HandSPX.setFlight_upZ land fun k4 fly up4 => wpAny_throw (tk _ _ ⟨a, B, sJ, pins, τ, G, cls, d, rfl, J, nb, (up.trans upk).trans up4, .inr (.inr (by rw [hs]; exact fly)), na, os, ag, want⟩)
        first
          | exact wpAny_bind (wpAny_pure (wpAny_bind last))
          | exact wpAny_bind last
      | @cons x c t st sts p q hs2 l2 nm su r ih =>
        intro want
        obtain ⟨b, eb, yes, no⟩ := want
        refine wpAny_handleBy_cons (codeAny_handlers_test ?_) (by intro z; cases z)
        have ty : PySem.W.Looks (model X.prog X.w) k3 (typeOf (.ref a)) cls := fun A Q E s k z => wpAny_typeOf_ref (k _ _ g3) (by rw [z3.1]; exact z)
        have isX := PySem.W.exm_one (M := model X.prog X.w) (J3.kIn) ty eb
        have name : ∀ {Q : Value → Shared → Prop} {E : Value → Shared → Prop}, Q c { s' with heap := k3 } → wpAny (model X.prog X.w) (X.A.mark (some (.ref a))) (eval (.Name x p) X.env) Q E { s' with heap := k3 } := fun {Q E} z => by
          obtain ⟨e1, e2, e3 | ⟨e3, e4, e5⟩⟩ := nm
          · exact ld_glob (X := X.suite a ((a, ob3) :: (X.pn ++ pins))) S3 e1 e3 z e2
          · exact ld_blt (X := X.suite a ((a, ob3) :: (X.pn ++ pins))) S3 e1 e3 e4 z e5 e2
        refine name (isX.here ?_)
        cases b with
        | false =>
          show wpAny _ X.A (handleBy (.ref a) X.env hs2) _ _ _
          exact ih (no rfl)
        | true =>
          refine codeAny_handlers_suite_as (HandSPX.lands_againZ land fun k4 land4 up4 => ?_)
          have J4 : Inv X pins τ G { s' with heap := k4 } := J.landed nb land4.1 ((up.trans upk).trans up4) os ag
          obtain ⟨ob4, fv4, g4, z4, f4⟩ := land4.there
          refine store_ok (X := X.suite a ((a, ob4) :: (X.pn ++ pins))) (v := .ref a) (J4.suite g4 f4 na aL aF) hN hi loc rfl (fun s5 S5 => ?_) (.inr hl)
          refine wpAny_mono ((su a ob4 cls d (X.pn ++ pins) z4 ⟨_, f4⟩).run [] s5 _ G _ S5 (yes rfl a na)) (fun f s6 sp => ?_) (fun _ _ z => z.elim)
          have stop : ∀ {σ6 : L2.St} {H6 : Hp} {Q : Shared → Prop}, Inv (X.suite a ((a, ob4) :: (X.pn ++ pins))) [] σ6 H6 s6 → (∀ s7, Inv X pins (σ6.set i none) H6 s7 → Q s7) →
              wpAny (model X.prog X.w) X.A (do bindName X.env n .none; unbindBehindTheSuite X.env n q) (fun _ s7 => Q s7) X.xe s6 := fun {σ6 H6 Q} S6 k => gone_ok (S6.unsuite okX) hN hi hl k
          cases f with
          | next => obtain ⟨σ6, H6, S6, q6⟩ := sp; exact stop S6 fun s7 J7 => ⟨_, _, J7, q6⟩
          | brk => obtain ⟨σ6, H6, S6, q6⟩ := sp; exact stop S6 fun s7 J7 => ⟨_, _, J7, q6⟩
          | cont => obtain ⟨σ6, H6, S6, q6⟩ := sp; exact stop S6 fun s7 J7 => ⟨_, _, J7, q6⟩
          | ret u => obtain ⟨v6, σ6, H6, S6, r6, q6⟩ := sp; exact stop S6 fun s7 J7 => ⟨_, _, _, J7, r6, q6⟩
    exact go hh want
  · cases f with
    | next => obtain ⟨τ, G, J, q⟩ := sp; exact wpAny_execs_nil ⟨τ, G, J.ofTry okX, q⟩
    | brk => obtain ⟨τ, G, J, q⟩ := sp; exact ⟨τ, G, J.ofTry okX, q⟩
    | cont => obtain ⟨τ, G, J, q⟩ := sp; exact ⟨τ, G, J.ofTry okX, q⟩
    | ret u => obtain ⟨v, τ, G, J, r, q⟩ := sp; exact ⟨v, τ, G, J.ofTry okX, r, q⟩
end Fe
set_option Elab.async false
set_option linter.all false
set_option maxRecDepth 100000
set_option maxHeartbeats 4000000
/-! Fe, part N: try; the theorem of all statements. -/
namespace Fe
open PySem PySem.Spec PyProof.Rows L2
section
variable {S : Sig} {Γ : Gam} {Wx : WX} {X : Cx}
/-- e.at in a clause's suite -/
def tAt (S : Sig) (K : PySem.W.Frag) (x : Str) (i : Nat) (a : Addr) (cls : Value) (d : Option Addr) : TE := fun σ H Q => ∃ c, S.X c x ≠ none ∧ tXf a cls d (He.ga K c) "at" (tVar i) σ H Q
def tHr (S : Sig) (K : PySem.W.Frag) (x : Str) (i : Nat) : Hr → TCl
  | .at => fun a cls d => tRet (tAt S K x i a cls d)
  | .pair z => fun a cls d => tRet (tTup (tCons (tC (.str z)) (tCons (tAt S K x i a cls d) tNil)))
theorem at_pe (C : CxtS S Γ Wx X) {x n : Str} {i : Nat} (hx : x ∈ Γ.C) (hn : Γ.N[i]? = some n) (hl : Γ.sc.names.lookup n = some .local) (hd : nodb n = true) {a : Addr} {oe : Obj} {cls : Value} {d : Option Addr} {pn : List (Addr × Obj)} (hz : Zc cls d oe) (hf : ∃ vs, oe.data = .fields vs) {p q : Pos} :
    PE (X.suite a ((a, oe) :: pn)) (.Attribute (.Name n p) "at" q) (tAt S X.K x i a cls d) := by
  obtain ⟨d1, d2⟩ := nodb_of hd
  have pv : PE (X.suite a ((a, oe) :: pn)) (.Name n p) (tVar i) := pe_var (X := X.suite a ((a, oe) :: pn)) (C.nth hn) (.inl (by show X.env.scope.names.lookup n = _; rw [C.c.sc]; exact hl)) d1 d2
  refine ⟨fun pins s σ H Q I ⟨c, hc, z⟩ => ?_⟩
  cases e : S.X c x with
  | none => exact absurd e hc
  | some b =>
    obtain ⟨_, f1, f2⟩ := C.exm c x b e hx
    exact (pe_xf f1 f2 hz hf pv).run pins s σ H Q I z
theorem hd_as (C : CxtS S Γ Wx X) {i : Nat} {n : Str} (hn : Γ.N[i]? = some n) : ∀ {hs : List (Str × Hr)} {hds : List ExceptHandler}, chkHds Γ i hs hds = true → HdAs X n hds (hs.map fun p => (Value.ref (He.ga X.K p.1), tHr S X.K p.1 i p.2))
  | [], [], _ => .nil
  | [], _ :: _, h => by simp [chkHds] at h
  | _ :: _, [], h => by simp [chkHds] at h
  | (x, h) :: r, e :: es, k => by
    simp only [chkHds, Bool.and_eq_true] at k
    obtain ⟨k1, k2⟩ := k
    unfold chkHd at k1
    split at k1
    case h_2 => cases k1
    rename_i y yp m ex rp q
    simp only [Bool.and_eq_true, decide_eq_true_eq] at k1
    obtain ⟨rfl, k3, k4, k5, k6, k7, k8, k9, k10⟩ := k1
    obtain rfl : n = m := by
      rw [hn] at k6
      exact Option.some.inj k6
    obtain ⟨d1, d2⟩ := nodb_of k5
    refine .cons ⟨glb_of C.c.sc k4, d1, .inl (C.cmg y k3)⟩ (fun a oe cls d pn hz hf => ?_) (hd_as C hn k2)
    have pa : ∀ {p q : Pos}, PE (X.suite a ((a, oe) :: pn)) (.Attribute (.Name n p) "at" q) (tAt S X.K y i a cls d) := at_pe C k3 hn k7 k8 hz hf
    cases h with
    | «at» =>
      unfold chkHr at k10
      split at k10
      · simp only [Bool.and_eq_true, decide_eq_true_eq] at k10
        obtain ⟨rfl, rfl⟩ := k10
        exact pss_one (ps_ret pa)
      · rename_i z; cases z
      · cases k10
    | pair z =>
      unfold chkHr at k10
      split at k10
      · rename_i z; cases z
      · rename_i z' _ _ _ _ _ _ _ _ hz'
        cases hz'
        simp only [Bool.and_eq_true, decide_eq_true_eq] at k10
        obtain ⟨rfl, _, rfl, rfl⟩ := k10
        exact pss_one (ps_ret (pe_tup (pa_cons pe_str (pa_cons pa pa_nil rfl) rfl)))
      · cases k10
theorem CxtS.tr (C : CxtS S Γ Wx X) {W : WX} {pn : List (Addr × Obj)} {xe : Value → Shared → Prop} (tk : Takes (X.tr pn xe) W) (po : PassesOwn (model X.prog X.w) X.A X.env xe) : CxtS S Γ W (X.tr pn xe) where
  c := ⟨C.c.sub, C.c.calm, C.c.sc, C.c.N, C.c.nd, tk, C.c.un, C.c.sto, C.c.fn, C.c.fnF, C.c.con, C.c.bui, C.c.rng, C.c.zip, C.c.enu⟩
  po := po
  kf := C.kf
  stk := C.stk
  frm := C.frm
  cmg := C.cmg
  exm := C.exm
  mke := C.mke
theorem hds_nm {i : Nat} {hs : List (Str × Hr)} {e : ExceptHandler} {es : List ExceptHandler} (h : chkHds Γ i hs (e :: es) = true) : ∃ n, Γ.N[i]? = some n ∧ Γ.sc.names.lookup n = some .local ∧ i ∉ Γ.W := by
  cases hs with
  | nil => simp [chkHds] at h
  | cons a r =>
    obtain ⟨x, k⟩ := a
    simp only [chkHds, Bool.and_eq_true] at h
    obtain ⟨h, _⟩ := h
    unfold chkHd at h
    split at h
    · simp only [Bool.and_eq_true, decide_eq_true_eq] at h
      obtain ⟨_, _, _, _, h1, h2, _, h3, _⟩ := h
      exact ⟨_, h1, h2, h3⟩
    · cases h
theorem tri_want (C : CxtS S Γ Wx X) {F : (Addr → Prop) → Hp → Prop} {Oc : Addr → Prop} {H0 : Hp} {D : Ends} {i : Nat} (hi : i ∉ Γ.W) {c : Str} {k : Int} {s : Sta} (il : i < s.2.length) : ∀ {hs : List (Str × Hr)} {hds : List ExceptHandler}, chkHds Γ i hs hds = true → JS F Γ Wx X.K Oc H0 D (triGo S.X c k s hs) →
    ∀ σ H cls dd, RelS F Γ X.K Oc H0 s σ H → XRep X.K H cls dd c k → wAll X.K i Wx D (hs.map fun p => (Value.ref (He.ga X.K p.1), tHr S X.K p.1 i p.2)) cls dd σ H
  | [], _, _, j => fun σ H cls dd r x => j σ H cls dd r x
  | _ :: _, [], h, _ => by simp [chkHds] at h
  | (x, h) :: r, e :: es, hk, j => fun σ H cls dd rl xr => by
    simp only [chkHds, Bool.and_eq_true] at hk
    obtain ⟨k1, k2⟩ := hk
    have hx : x ∈ Γ.C ∧ (∀ z, h = .pair z → PyData.strOk z = true) := by
      unfold chkHd at k1
      split at k1
      · simp only [Bool.and_eq_true, decide_eq_true_eq] at k1
        obtain ⟨_, h1, _, _, _, _, _, _, h2⟩ := k1
        refine ⟨h1, fun z e => ?_⟩
        subst e
        unfold chkHr at h2
        split at h2
        · rename_i z; cases z
        · rename_i hz'
          cases hz'
          simp only [Bool.and_eq_true, decide_eq_true_eq] at h2
          exact h2.2.1
        · cases h2
      · cases k1
    simp only [triGo] at j
    cases e1 : S.X c x with
    | none => rw [e1] at j; exact j.elim
    | some b =>
      rw [e1] at j
      obtain ⟨g1, g2, g3⟩ := C.exm c x b e1 hx.1
      obtain ⟨dx, rfl, rfl, x3⟩ := xr
      refine ⟨b, g1, fun eb a na => ?_, fun eb => ?_⟩
      · subst eb
        obtain ⟨O, q1, q2, q3⟩ := rl.ex
        have il' : i < σ.length := by rw [q3.len]; exact il
        have hs : (σ.set i (some (V.ref a)))[i]? = some (some (.ref a)) := by rw [get_set, if_pos rfl, if_pos il']
        have base : ∀ {Q : VK}, Q (.int k) H → tAt S X.K x i a (.ref (He.ga X.K c)) (some dx) (σ.set i (some (.ref a))) H Q := fun {Q} q => ⟨c, by rw [e1]; simp, _, hs, rfl, rfl, dx, _, .int k, rfl, x3, by simp [List.lookup], q⟩
        cases h with
        | «at» => exact base (j (.int k) H q3.sam (.int k))
        | pair z =>
          refine base ⟨by rw [sizeLine_eq]; simp, fun p np => ?_⟩
          exact j _ _ (q3.sam.trans (same_new np)) (.tup (.inl (.inl upd_same)) (.cons (.str z (hx.2 z rfl)) (.cons (.int k) .nil)))
      · subst eb
        exact tri_want C hi il k2 j σ H _ _ rl ⟨dx, rfl, rfl, x3⟩
theorem snd_tri (C : CxtS S Γ Wx X) {b : Ss} {i : Nat} {hs : List (Str × Hr)} {p : List Stmt} {hds : List ExceptHandler} {pos : Pos} (h1 : chkHds Γ i hs hds = true) (h2 : hds.isEmpty = false) (hb : ∀ (W : WX) (X' : Cx), CxtS S Γ W X' → PSs X' p (tSs S W X'.K Γ b)) :
    PS X (.Try p hds [] [] pos) (tS S Wx X.K Γ (.tri b i hs)) := by
  cases hds with
  | nil => cases h2
  | cons e es =>
    obtain ⟨n, n1, n2, n3⟩ := hds_nm h1
    refine PS.mono (ps_tries (tb := fun W => tSs S W X.K Γ b) C.stk C.frm C.hN (C.nth n1) (by show X.env.scope.names.lookup n = _; rw [C.c.sc]; exact n2) C.c.tk (fun W pn xe tk po => hb W (X.tr pn xe) (C.tr tk po)) (hd_as C n1 h1)) fun D σ H q => ?_
    obtain ⟨F, Oc, H0, s, f, r, j⟩ := q
    refine ⟨F, Oc, H0, s, f, r, ?_⟩
    simp only [evS] at j
    cases e1 : evSs S b s with
    | nx s' => rw [e1] at j; exact j
    | rt d => rw [e1] at j; exact j
    | rf d => rw [e1] at j; exact j
    | bk s' => rw [e1] at j; exact j
    | ct s' => rw [e1] at j; exact j
    | bad => rw [e1] at j; exact j
    | exc c k s' =>
      rw [e1] at j
      have j : JS F Γ Wx X.K Oc H0 D (if decide (i < s'.2.length) = true then triGo S.X c k s' hs else .bad) := j
      split at j
      · rename_i il
        exact tri_want C n3 (of_decide_eq_true il) h1 j
      · exact j.elim
end
/-! ### all of them -/
mutual
theorem allS (S : Sig) : ∀ (a : Sm) (Γ : Gam) (Wx : WX) (X : Cx), CxtS S Γ Wx X → ∀ x, chkS Γ a x = true → PS X x (tS S Wx X.K Γ a)
  | .set i e, Γ, Wx, X, C, x, h => snd_set C h
  | .setF i e, Γ, Wx, X, C, x, h => snd_setF C h
  | .par is es, Γ, Wx, X, C, x, h => snd_par C h
  | .parF i j g k a b, Γ, Wx, X, C, x, h => snd_parF C h
  | .unp t e, Γ, Wx, X, C, x, h => snd_unp C h
  | .setIx i k e, Γ, Wx, X, C, x, h => snd_setIx C h
  | .app i e, Γ, Wx, X, C, x, h => snd_app C h
  | .ext i e, Γ, Wx, X, C, x, h => snd_ext C h
  | .ret e, Γ, Wx, X, C, x, h => snd_ret C h
  | .retN, Γ, Wx, X, C, x, h => snd_retN h
  | .retF i, Γ, Wx, X, C, x, h => snd_retF C h
  | .ex e, Γ, Wx, X, C, x, h => snd_ex C h
  | .rai c e, Γ, Wx, X, C, x, h => snd_rai C (by simpa [chkS] using h)
  | .ifs c a b, Γ, Wx, X, C, x, h => by
    cases x <;> first | (simp [chkS] at h; done) | skip
    simp only [chkS, Bool.and_eq_true] at h
    exact snd_ifs C h.1 h.2.1 (allSs S a Γ Wx X C _ h.2.2.1) (allSs S b Γ Wx X C _ h.2.2.2)
  | .for_ t it b, Γ, Wx, X, C, x, h => by
    cases x <;> first | (simp [chkS] at h; done) | skip
    rename_i tg y p q pos
    cases q <;> first | (simp [chkS] at h; done) | skip
    simp only [chkS, Bool.and_eq_true] at h
    exact snd_for C h.1 h.2.1 (allSs S b Γ Wx X C _ h.2.2)
  | .whl n c b, Γ, Wx, X, C, x, h => by
    cases x <;> first | (simp [chkS] at h; done) | skip
    rename_i y p q pos
    cases q <;> first | (simp [chkS] at h; done) | skip
    simp only [chkS, Bool.and_eq_true] at h
    exact snd_whl C h.1 h.2.1 (allSs S b Γ Wx X C _ h.2.2)
  | .tri b i hs, Γ, Wx, X, C, x, h => by
    cases x <;> first | (simp [chkS] at h; done) | skip
    rename_i p hds q r pos
    cases q <;> first | (simp [chkS] at h; done) | skip
    cases r <;> first | (simp [chkS] at h; done) | skip
    simp only [chkS, Bool.and_eq_true, Bool.not_eq_true'] at h
    exact snd_tri C h.1 h.2.1 fun W X' C' => allSs S b Γ W X' C' _ h.2.2
  | .pass, Γ, Wx, X, C, x, h => by
    cases x <;> first | (simp [chkS] at h; done) | skip
    refine PS.mono ps_pass fun D σ H q => ?_
    obtain ⟨F, Oc, H0, s, f, r, j⟩ := q
    simp only [evS] at j
    exact j σ H r
  | .brk, Γ, Wx, X, C, x, h => by
    cases x <;> first | (simp [chkS] at h; done) | skip
    refine PS.mono ps_break fun D σ H q => ?_
    obtain ⟨F, Oc, H0, s, f, r, j⟩ := q
    simp only [evS] at j
    exact j σ H r
  | .cont, Γ, Wx, X, C, x, h => by
    cases x <;> first | (simp [chkS] at h; done) | skip
    refine PS.mono ps_continue fun D σ H q => ?_
    obtain ⟨F, Oc, H0, s, f, r, j⟩ := q
    simp only [evS] at j
    exact j σ H r
theorem allSs (S : Sig) : ∀ (a : Ss) (Γ : Gam) (Wx : WX) (X : Cx), CxtS S Γ Wx X → ∀ xs, chkSs Γ a xs = true → PSs X xs (tSs S Wx X.K Γ a)
  | .nil, Γ, Wx, X, C, xs, h => by
    cases xs <;> first | (simp [chkSs] at h; done) | skip
    exact snd_nil
  | .cons a r, Γ, Wx, X, C, xs, h => by
    cases xs <;> first | (simp [chkSs] at h; done) | skip
    simp only [chkSs, Bool.and_eq_true] at h
    exact snd_cons (allS S a Γ Wx X C _ h.1) (allSs S r Γ Wx X C _ h.2)
end
end Fe
set_option Elab.async false
set_option linter.all false
set_option maxRecDepth 100000
set_option maxHeartbeats 4000000
/-! Fe, part O: defs. -/
namespace Fe
open PySem PySem.Spec PyProof.Rows L2

/-! ### plain parameters -/
def plainA (a : Arguments) : Bool := a.posonlyargs.isEmpty && (a.vararg.isNone && (a.kwonlyargs.isEmpty && (a.kwarg.isNone && decide (a.args.map (·.arg)).Nodup)))
theorem zip_lookup : ∀ {ps : List Str} {us : List Value}, ps.Nodup → us.length = ps.length → (ps.filterMap fun n => ((ps.zip us).lookup n).map (n, ·)) = ps.zip us := by
  have gen : ∀ (ps : List Str) (us : List Value) (l : List (Str × Value)), ps.Nodup → us.length = ps.length → (∀ n ∈ ps, l.lookup n = none) → (ps.filterMap fun n => ((l ++ ps.zip us).lookup n).map (n, ·)) = ps.zip us := by
    intro ps
    induction ps with
    | nil => intro us l _ _ _; rfl
    | cons p ps ih =>
      intro us l nd hl hn
      cases us with
      | nil => simp at hl
      | cons u us =>
        have nd' := List.nodup_cons.mp nd
        have e1 : (l ++ (p, u) :: ps.zip us).lookup p = some u := by
          have h0 := hn p (List.mem_cons_self ..)
          have : ∀ l : List (Str × Value), l.lookup p = none → (l ++ (p, u) :: ps.zip us).lookup p = some u := by
            intro l
            induction l with
            | nil => intro _; simp [List.lookup]
            | cons q l ih2 =>
              intro h
              obtain ⟨a, b⟩ := q
              simp only [List.lookup, List.cons_append] at h ⊢
              split at h
              · cases h
              · exact ih2 h
          exact this l h0
        have e2 : ∀ n, n ≠ p → (l ++ (p, u) :: ps.zip us).lookup n = ((l ++ [(p, u)]) ++ ps.zip us).lookup n := fun n _ => by simp
        rw [List.zip_cons_cons, List.filterMap_cons, e1]
        have e3 := ih us (l ++ [(p, u)]) nd'.2 (by simpa using hl) fun n hm => by
          have ne : n ≠ p := fun e => nd'.1 (e ▸ hm)
          have h0 := hn n (List.mem_cons_of_mem _ hm)
          have : ∀ l : List (Str × Value), l.lookup n = none → (l ++ [(p, u)]).lookup n = none := by
            intro l
            induction l with
            | nil =>
              intro _
              have : (n == p) = false := by simpa using ne
              simp [List.lookup, this]
            | cons q l ih2 =>
              intro h
              obtain ⟨a, b⟩ := q
              simp only [List.lookup, List.cons_append] at h ⊢
              split at h
              · cases h
              · exact ih2 h
          exact this l h0
        simp only [Option.map_some]
        rw [List.append_assoc] at e3
        simp only [List.cons_append, List.nil_append] at e3
        rw [e3]
  intro ps us nd hl
  exact gen ps us [] nd hl fun _ _ => rfl
theorem zip_some {n : Str} : ∀ {ps : List Str} {us : List Value}, us.length = ps.length → n ∈ ps → ((ps.zip us).lookup n).isNone = false
  | [], _, _, h => by cases h
  | p :: ps, [], hl, _ => by simp at hl
  | p :: ps, u :: us, hl, h => by
    rw [List.zip_cons_cons]
    simp only [List.lookup]
    split
    · rfl
    · rename_i e
      rcases List.mem_cons.mp h with z | z
      · rw [z] at e; simp at e
      · exact zip_some (by simpa using hl) z
theorem bind_plain {x qual : Str} {a : Arguments} {body : List Stmt} {scope : Scope} {kV doc pm : Value} {an : Option Addr} {cdv ct : Value} {cl : List (Str × Addr)} (h : plainA a = true) (us : List Value) (hl : us.length = (a.args.map (·.arg)).length) :
    bindArgs (PySem.W.fnX x qual a body scope cl .none kV doc pm an cdv ct) ⟨us, []⟩ = pure ((a.args.map (·.arg)).zip us) := by
  obtain ⟨po, as, va, ko, kd, kw, df⟩ := a
  simp only [plainA, Bool.and_eq_true, decide_eq_true_eq] at h
  obtain ⟨h1, h2, h3, h4, h5⟩ := h
  cases po <;> first | cases h1 | skip
  cases va <;> first | cases h2 | skip
  cases ko <;> first | cases h3 | skip
  cases kw <;> first | cases h4 | skip
  have hl : us.length = (as.map (·.arg)).length := hl
  have h5 : (as.map (·.arg)).Nodup := h5
  have e1 : ((as.map (·.arg)).filter fun n => (((as.map (·.arg)).zip us).lookup n).isNone) = [] := by
    rw [List.filter_eq_nil_iff]
    intro n hn
    rw [zip_some hl hn]
    decide
  have e0 : seqItems? Value.none = pure none := rfl
  unfold bindArgs
  have e2 : (as.map (·.arg)).length - ([] : List Value).length = (as.map (·.arg)).length := rfl
  have e3 : decide (us.length > (as.map (·.arg)).length) = false := decide_eq_false (by omega)
  simp only [List.map_nil, List.nil_append, List.append_nil, e0, pure_bind, List.forIn_nil, e3, Bool.false_and, Bool.false_eq_true, if_false, Option.getD_none, List.drop_nil, List.length_nil, Nat.sub_zero, List.take_length, e1, List.isEmpty_nil, Bool.not_true, List.drop_length, List.zip_nil_right, zip_lookup h5 hl]
/-- two plain parameters, the last one with a default -/
theorem bind_dfl {x qual : Str} {a : Arguments} {body : List Stmt} {scope : Scope} {kV doc pm : Value} {an : Option Addr} {cdv ct : Value} {T : Addr} {n0 n1 : Str} (h : plainA a = true) (e : a.args.map (·.arg) = [n0, n1]) (us its : List Value) (hu : us.length = 1 ∨ us.length = 2) (hi : its.length = 1) :
    ∃ k, bindArgs (PySem.W.fnOf x qual a body scope (.ref T) kV doc pm an cdv ct) ⟨us, []⟩ = seqItems? (.ref T) >>= k ∧ k (some its.toArray) = pure ([n0, n1].zip (us ++ its.drop (us.length - 1))) := by
  obtain ⟨po, as, va, ko, kd, kw, df⟩ := a
  simp only [plainA, Bool.and_eq_true, decide_eq_true_eq] at h
  obtain ⟨h1, h2, h3, h4, h5⟩ := h
  cases po <;> first | cases h1 | skip
  cases va <;> first | cases h2 | skip
  cases ko <;> first | cases h3 | skip
  cases kw <;> first | cases h4 | skip
  have e : as.map (·.arg) = [n0, n1] := e
  have h5 : (as.map (·.arg)).Nodup := h5
  rw [e] at h5
  have ne : n0 ≠ n1 := by
    intro z
    rw [z] at h5
    simp at h5
  have ne1 : (n1 == n0) = false := by simpa using fun z : n1 = n0 => ne z.symm
  obtain ⟨d, rfl⟩ : ∃ d, its = [d] := by
    rcases its with _ | ⟨d, _ | _⟩ <;> first | (simp at hi; done) | exact ⟨d, rfl⟩
  have e0 : seqItems? (PySem.W.fnOf x qual ⟨[], as, none, [], kd, none, df⟩ body scope (.ref T) kV doc pm an cdv ct).defaults = seqItems? (.ref T) := rfl
  have e3 : (PySem.W.fnOf x qual ⟨[], as, none, [], kd, none, df⟩ body scope (.ref T) kV doc pm an cdv ct).params = ⟨[], as, none, [], kd, none, df⟩ := rfl
  rcases hu with hu | hu
  · obtain ⟨u, rfl⟩ : ∃ u, us = [u] := by
      rcases us with _ | ⟨u, _ | _⟩ <;> first | (simp at hu; done) | exact ⟨u, rfl⟩
    refine Exists.intro ?k (And.intro ?a ?b)
    case a =>
      unfold bindArgs
      simp only [e0, e3, e, List.map_nil, List.nil_append, List.forIn_nil, pure_bind]
      rfl
    case b => simp [List.lookup, ne1]
  · obtain ⟨u, v, rfl⟩ : ∃ u v, us = [u, v] := by
      rcases us with _ | ⟨u, _ | ⟨v, _ | _⟩⟩ <;> first | (simp at hu; done) | exact ⟨u, v, rfl⟩
    refine Exists.intro ?k2 (And.intro ?a2 ?b2)
    case a2 =>
      unfold bindArgs
      simp only [e0, e3, e, List.map_nil, List.nil_append, List.forIn_nil, pure_bind]
      rfl
    case b2 => simp [List.lookup, ne1]
/-! ### a program -/
structure Df where
  x : Str
  np : Nat
  N : List Str
  W : List Nat
  b : Ss
  da : List Int
  dv : List Int
structure Pg where
  T : List Df
  G : List (Str × PD)
  X : Str → Str → Option Bool
def env0 (d : Df) (ds : List PD) : Env := ds.map some ++ List.replicate (d.N.length - ds.length) none
def fin : SR → R PD
  | .nx _ => .ok .none
  | .rt v => .ok v
  | .rf v => .ok v
  | .exc c i _ => .exc c i
  | _ => .bad
/-- only a new list or dict, or an exception -/
def finF : SR → R PD
  | .rf v => .ok v
  | .exc c i _ => .exc c i
  | _ => .bad
/-- the body of the i-th def at depth n -/
def evB (p : Pg) : Nat → Nat → List PD → SR
  | 0, _, _ => .bad
  | n + 1, i, ds => match p.T[i]? with
    | some d => if decide (ds.length = d.np) then evSs ⟨fun j e => fin (evB p n j e), p.G, p.X, fun j e => finF (evB p n j e)⟩ d.b ([], env0 d (ds ++ d.dv.map PyData.int)) else .bad
    | none => .bad
/-- the i-th def at depth n -/
def evF (p : Pg) (n i : Nat) (ds : List PD) : R PD := fin (evB p n i ds)
/-- ..., wanted as a new list or dict -/
def evFf (p : Pg) (n i : Nat) (ds : List PD) : R PD := finF (evB p n i ds)
abbrev sgOf (p : Pg) (n : Nat) : Sig := ⟨evF p n, p.G, p.X, evFf p n⟩
theorem evB_succ {p : Pg} {n i : Nat} {ds : List PD} {d : Df} (e : p.T[i]? = some d) : evB p (n + 1) i ds = if decide (ds.length = d.np) then evSs (sgOf p n) d.b ([], env0 d (ds ++ d.dv.map PyData.int)) else .bad := by
  simp only [evB, e]
  rfl
abbrev gamOf (p : Pg) (C : List Str) (d : Df) (sc : Scope) : Gam := ⟨d.N, sc, sc, d.W, p.T.map (·.x), C⟩
def Df.k (d : Df) : Nat := d.np + d.dv.length
def chkDf (p : Pg) (C : List Str) (d : Df) (st : Stmt) : Bool := plainA (defArgs st) && (decide (d.N.take d.k = (defArgs st).args.map (·.arg)) && (decide (d.k ≤ d.N.length) && (C8.scC d.N (d.N.take d.k) (defScope st) && (chkSs (gamOf p C d (defScope st)) d.b (defBody st) &&
  (decide (d.dv = d.da.drop (d.da.length - d.dv.length)) && (decide (d.da = []) || (decide (d.da.length = 1) && decide ((defArgs st).args.length = 2))))))))
def blNs : List Str := ["len", "abs", "min", "max", "int", "tuple", "list", "sum", "any", "all", "sorted", "range", "zip", "enumerate"]
theorem biNm_in (b : Bi) : biNm b ∈ blNs := by cases b <;> decide
/-- what is seen of the module behind its top -/
structure Facts (P : Program) (K : PySem.W.Frag) (mg : Str → Option Value) (p : Pg) (C : List Str) (sts : List Stmt) : Prop where
  df : ∀ (i : Nat) (d : Df), p.T[i]? = some d → ∃ (st : Stmt) (fd : FuncData), sts[i]? = some st ∧ chkDf p C d st = true ∧ FunD K d.x d.x (defArgs st) (defBody st) (defScope st) (d.da.map V.int) [] (He.ga K d.x) fd
  mgf : ∀ d ∈ p.T, mg d.x = some (.ref (He.ga K d.x))
  con : ∀ x d, p.G.lookup x = some d → ∃ u v, mg x = some u ∧ RelV v u ∧ ∀ O H, RX K O H v d
  fre : ∀ x ∈ blNs, mg x = none
  cmg : ∀ x ∈ C, mg x = some (.ref (He.ga K x))
  exm : ∀ c x b, p.X c x = some b → x ∈ C → PySem.W.exmOne K (.ref (He.ga K c)) (.ref (He.ga K x)) = some b ∧ XfC K (He.ga K c) ∧ PySem.W.findIn K (.ref (He.ga K c)) "at" = some none
  ini : ∀ c ∈ C, ∃ D fI cc ca name qual params scope body, IniF P K mg D fI cc ca name qual params scope body ∧ plainA params = true ∧ params.args.map (·.arg) = [("self" : Str), "at"] ∧ SubF K D (He.ga K c) ∧
    PySem.W.findIn K (.ref (He.ga K c)) "__init__" = some (some (.ref fI)) ∧ PySem.W.typeIn K (.ref fI) = some (.type "function")
theorem start_rel {K : PySem.W.Frag} {O : Addr → Prop} {H : Hp} {N : List Str} {vs : List V} {ds : List PD} (dom : Dom O H) (r : RXs K O H vs ds) : Rel K [] O H (ds.map some ++ List.replicate (N.length - ds.length) none) (L2.start N vs) H := by
  have hl := r.length
  refine ⟨by simp [L2.start, hl], fun i d _ e => ?_, fun i d h => (nomatch h), dom, Same.refl H⟩
  unfold L2.start
  by_cases c : i < ds.length
  · rw [List.getElem?_append_left (by simpa using c), List.getElem?_map] at e
    rw [List.getElem?_append_left (by simpa [hl] using c), List.getElem?_map]
    cases e1 : ds[i]? with
    | none => rw [e1] at e; cases e
    | some d' =>
      rw [e1] at e
      have : d' = d := by simpa using e
      subst this
      obtain ⟨v, e2, rv⟩ := r.get e1
      exact ⟨v, by rw [e2] <;> rfl, rv⟩
  · rw [List.getElem?_append_right (by simpa using c), List.getElem?_replicate] at e
    split at e <;> cases e
theorem ini_all {P : Program} {w : World} {K : PySem.W.Frag} {mg : Str → Option Value} {base : Heap} {CX : CXT} {D fI cc ca : Addr} {name qual : Str} {params : Arguments} {scope : Scope} {body : List Stmt} (F : IniF P K mg D fI cc ca name qual params scope body) (h1 : plainA params = true) (h2 : params.args.map (·.arg) = [("self" : Str), "at"]) :
    ∃ fd, FnOk P w K mg base CX 1 fI fd [("self" : Str), "at"] (spI K D) ∧ Binds K fd [("self" : Str), "at"] [] := by
  obtain ⟨fd, f1, _, o, f2, f3⟩ := ini_ok (P := P) (w := w) (base := base) (CX := CX) (k := 0) F
  obtain ⟨oc, od, osl, kV, doc, pm, an, ct, lk⟩ := F.lk
  rw [lk] at f2
  cases f2
  cases f3
  refine ⟨_, f1, .all fun us hl => ?_⟩
  rw [← h2] at hl ⊢
  exact bind_plain h1 us hl
theorem rxs_ints {K : PySem.W.Frag} {O : Addr → Prop} {H : Hp} : ∀ ns : List Int, RXs K O H (ns.map V.int) (ns.map PyData.int)
  | [] => .nil
  | n :: ns => .cons (.int n) (rxs_ints ns)
theorem binds_of {p : Pg} {C : List Str} {K : PySem.W.Frag} {d : Df} {st : Stmt} {f : Addr} {fd : FuncData} (c : chkDf p C d st = true) (F : FunD K d.x d.x (defArgs st) (defBody st) (defScope st) (d.da.map V.int) [] f fd) :
    ∃ ds, Vals (d.dv.map V.int) ds ∧ Binds K fd (d.N.take d.k) ds := by
  simp only [chkDf, Bool.and_eq_true, decide_eq_true_eq, Bool.or_eq_true] at c
  obtain ⟨c1, c2, c3, c4, c5, c6, c7⟩ := c
  rcases c7 with c7 | ⟨c7, c8⟩
  · rw [c7] at F c6
    have e : d.dv = [] := by rw [c6, List.drop_nil]
    rw [e]
    refine ⟨[], .nil, FunD.bindsN F fun kV doc pm an cdv ct us hl => ?_⟩
    rw [c2] at hl ⊢
    exact bind_plain c1 us hl
  · have hv : d.dv.length ≤ 1 := by
      have := congrArg List.length c6
      rw [List.length_drop] at this
      omega
    have hd : d.da.map V.int ≠ [] := by
      intro z
      have := congrArg List.length z
      simp at this
      rw [this] at c7
      simp at c7
    have hps : (d.N.take d.k).length = 2 := by rw [c2, List.length_map, c8]
    obtain ⟨n0, n1, hn⟩ : ∃ n0 n1, (defArgs st).args.map (·.arg) = [n0, n1] := by
      have : ((defArgs st).args.map (·.arg)).length = 2 := by rw [List.length_map, c8]
      generalize (defArgs st).args.map (·.arg) = l at this ⊢
      rcases l with _ | ⟨a, _ | ⟨b, _ | _⟩⟩ <;> first | (simp at this; done) | exact ⟨a, b, rfl⟩
    have hl : (d.da.map V.int).length = 1 := by rw [List.length_map, c7]
    obtain ⟨ds, v1, v2⟩ := FunD.binds1 (ps := d.N.take d.k) F (2 - d.dv.length) (1 - d.dv.length) hd (by rw [hl, hps]; omega) fun T kV doc pm an cdv ct us its hu hi => by
      obtain ⟨k, k1, k2⟩ := bind_dfl (x := d.x) (qual := d.x) (body := defBody st) (scope := defScope st) (kV := kV) (doc := doc) (pm := pm) (an := an) (cdv := cdv) (ct := ct) (T := T) c1 hn us its (by omega) (by rw [hi, hl])
      refine ⟨k, k1, ?_⟩
      rw [k2, c2, hn]
      congr 4
      omega
    refine ⟨ds, ?_, v2⟩
    have e : (d.da.map V.int).drop (1 - d.dv.length) = d.dv.map V.int := by
      rw [← List.map_drop]
      congr 1
      rw [c7] at c6
      exact c6.symm
    rw [← e]
    exact v1
theorem fns_ok {P : Program} {w : World} {K : PySem.W.Frag} {mg : Str → Option Value} {base : Heap} {p : Pg} {C : List Str} {sts : List Stmt} (Fa : Facts P K mg p C sts) :
    ∀ (n i : Nat) (d : Df) (st : Stmt) (fd : FuncData), p.T[i]? = some d → chkDf p C d st = true → FunD K d.x d.x (defArgs st) (defBody st) (defScope st) (d.da.map V.int) [] (He.ga K d.x) fd →
      FnOk P w K mg base (L2.CX P w) (n + 2) (He.ga K d.x) fd (d.N.take d.k) (spD K (d.dv.map V.int) (evF p n i)) ∧ FnOk P w K mg base (L2.CX P w) (n + 2) (He.ga K d.x) fd (d.N.take d.k) (spDG K (d.dv.map V.int) (evFf p n i)) ∧ (∃ ds, Vals (d.dv.map V.int) ds ∧ Binds K fd (d.N.take d.k) ds) ∧ PySem.W.keepIn K (.ref (He.ga K d.x)) = true
  | 0, i, d, st, fd, e, c, F => by
    have bd := binds_of c F
    simp only [chkDf, Bool.and_eq_true, decide_eq_true_eq] at c
    have no : ∀ {vs H Q E}, ¬ spD K (d.dv.map V.int) (evF p 0 i) vs H Q E := fun ⟨vs0, _, ds, O, _, _, h⟩ => h
    have no2 : ∀ {vs H Q E}, ¬ spDG K (d.dv.map V.int) (evFf p 0 i) vs H Q E := fun ⟨vs0, _, ds, O, _, _, h⟩ => h
    exact ⟨⟨fun vs H Q E h => absurd h no, fun A outer s H args us vs Q E _ _ _ _ h => absurd h no⟩, ⟨fun vs H Q E h => absurd h no2, fun A outer s H args us vs Q E _ _ _ _ h => absurd h no2⟩, bd, F.kp⟩
  | n + 1, i, d, st, fd, e, c, F => by
    have bd := binds_of c F
    simp only [chkDf, Bool.and_eq_true, decide_eq_true_eq] at c
    obtain ⟨c1, c2, c3, c4, c5, c6, c7⟩ := c
    have S := C8.fnScope_by c4
    have lenps : (d.N.take d.k).length = d.k := by simp [c3]
    have IH := fns_ok Fa n (w := w) (base := base)
    have lenok : ∀ {vs0 : List V} {ds : List PD} {O : Addr → Prop} {H : Hp}, RXs K O H vs0 ds → evB p (n + 1) i ds ≠ .bad → (vs0 ++ d.dv.map V.int).length = (d.N.take d.k).length := fun {vs0 ds O H} r h => by
      rw [evB_succ e] at h
      have hz : ds.length = d.np := by
        by_cases z : ds.length = d.np
        · exact z
        · rw [if_neg (by simpa using z)] at h; exact absurd rfl h
      rw [List.length_append, r.length, lenps, hz, List.length_map]
      rfl
    refine ⟨?_, ?_, bd, F.kp⟩
    · refine F.ok S (fun vs H Q E h => ?_) (fun cdv A outer s H vs Q E hr h => ?_)
      · obtain ⟨vs0, rfl, ds, O, dom, r, h⟩ := h
        exact lenok r fun z => by simp only [evF, z] at h; exact h
      · obtain ⟨vs0, rfl, ds, O, dom, r, h⟩ := h
        simp only [evF, evB_succ e] at h
        have hz : ds.length = d.np := by
          by_cases z : ds.length = d.np
          · exact z
          · rw [if_neg (by simpa using z)] at h; exact h.elim
        rw [if_pos (by simpa using hz)] at h
        have r' := r.append (rxs_ints (K := K) (O := O) (H := H) d.dv)
        let X := cxOf (L2.CX P w) P w K mg base d.N d.x (defScope st) (He.ga K d.x) cdv A outer s H E
        have tk : Takes X (fun cls dd _ H => E cls dd H) := takes_of rfl rfl rfl rfl
        have Cc : CxtS (sgOf p n) (gamOf p C d (defScope st)) (fun cls dd _ H => E cls dd H) X := by
          refine ⟨⟨fun _ z => (nomatch z), rfl, rfl, rfl, S.nd, tk, (by have h := hr.un; show (A.deeper (envOfC d.x (defScope st) s.heap.objs.size (He.ga K d.x) cdv)).units + 100 < cLine; omega), fun x hx => ?_, fun g x hx => ?_, fun g x hx => ?_, Fa.con, fun b => Fa.fre _ (biNm_in b), Fa.fre _ (by decide), Fa.fre _ (by decide), Fa.fre _ (by decide)⟩, passes_of rfl, S.kind, rfl, rfl, Fa.cmg, Fa.exm, fun pn xe c hc hg hd x t q pos ok h => ?_⟩
          · unfold stOk at hx
            split at hx
            · exact ⟨.inl (by assumption), .inl rfl⟩
            · exact ⟨.inr (by assumption), .inl rfl⟩
            · cases hx
          · simp only [List.getElem?_map] at hx
            cases e5 : p.T[g]? with
            | none => rw [e5] at hx; cases hx
            | some dg =>
              rw [e5] at hx
              have hx : dg.x = x := by simpa using hx
              subst hx
              obtain ⟨stg, fdg, _, cg, Fg⟩ := Fa.df g dg e5
              obtain ⟨o1, _, ⟨dsV, v1, v2⟩, o3⟩ := IH g dg stg fdg e5 cg Fg
              exact ⟨_, fdg, _, n + 2, _, dsV, o1, hr, Fa.mgf dg (List.mem_of_getElem? e5), o3, v2, v1⟩
          · simp only [List.getElem?_map] at hx
            cases e5 : p.T[g]? with
            | none => rw [e5] at hx; cases hx
            | some dg =>
              rw [e5] at hx
              have hx : dg.x = x := by simpa using hx
              subst hx
              obtain ⟨stg, fdg, _, cg, Fg⟩ := Fa.df g dg e5
              obtain ⟨_, o1, ⟨dsV, v1, v2⟩, o3⟩ := IH g dg stg fdg e5 cg Fg
              exact ⟨_, fdg, _, n + 2, _, dsV, o1, hr, Fa.mgf dg (List.mem_of_getElem? e5), o3, v2, v1⟩
          · obtain ⟨D, fI, cc, ca, name, qual, params, scope, body, i1, i2, i3, i4, i5, i6⟩ := Fa.ini c hc
            obtain ⟨fdI, j1, j2⟩ := ini_all (w := w) (base := base) (CX := L2.CX P w) i1 i2 i3
            exact mk_ok (X := X.tr pn xe) i4 i5 i6 j1 (hr.mono (by omega)) j2 (passes_call (X := X.tr pn xe) (W := W0) takes0 fun _ _ _ _ z => z) (glb_of (X := X.tr pn xe) (sc := (gamOf p C d (defScope st)).sc) rfl hg) (Fa.cmg c hc) (nodb_of hd).1 ok h
        refine ⟨_, allSs (sgOf p n) d.b (gamOf p C d (defScope st)) _ X Cc _ c5, fun _ _ => True, O, H, ([], env0 d (ds ++ d.dv.map PyData.int)), ⟨fun _ _ _ _ _ z => z, dom⟩, ⟨⟨O, trivial, fun _ z => z, start_rel dom r'⟩, fun _ z => (nomatch z)⟩, ?_⟩
        cases e6 : evSs (sgOf p n) d.b ([], env0 d (ds ++ d.dv.map PyData.int)) with
        | nx s' =>
          rw [e6] at h
          intro σ' H' rl
          obtain ⟨O', _, _, q3⟩ := rl.ex
          exact h .non H' q3.sam .non
        | rt v =>
          rw [e6] at h
          exact fun u H' sm rv => h u H' sm rv
        | rf v =>
          rw [e6] at h
          have h : PostX K O H Q v := h
          exact fun u H' hn sm ow => h.toF dom u H' hn sm ow
        | exc c' i' s' =>
          rw [e6] at h
          intro σ' H' cls dd rl xr
          obtain ⟨O', _, _, q3⟩ := rl.ex
          exact h cls dd H' q3.sam xr
        | bk s' => rw [e6] at h; exact h.elim
        | ct s' => rw [e6] at h; exact h.elim
        | bad => rw [e6] at h; exact h.elim
    · refine F.ok S (fun vs H Q E h => ?_) (fun cdv A outer s H vs Q E hr h => ?_)
      · obtain ⟨vs0, rfl, ds, O, dom, r, h⟩ := h
        exact lenok r fun z => by simp only [evFf, z] at h; exact h
      · obtain ⟨vs0, rfl, ds, O, dom, r, h⟩ := h
        simp only [evFf, evB_succ e] at h
        have hz : ds.length = d.np := by
          by_cases z : ds.length = d.np
          · exact z
          · rw [if_neg (by simpa using z)] at h; exact h.elim
        rw [if_pos (by simpa using hz)] at h
        have r' := r.append (rxs_ints (K := K) (O := O) (H := H) d.dv)
        let X := cxOf (L2.CX P w) P w K mg base d.N d.x (defScope st) (He.ga K d.x) cdv A outer s H E
        have tk : Takes X (fun cls dd _ H => E cls dd H) := takes_of rfl rfl rfl rfl
        have Cc : CxtS (sgOf p n) (gamOf p C d (defScope st)) (fun cls dd _ H => E cls dd H) X := by
          refine ⟨⟨fun _ z => (nomatch z), rfl, rfl, rfl, S.nd, tk, (by have h := hr.un; show (A.deeper (envOfC d.x (defScope st) s.heap.objs.size (He.ga K d.x) cdv)).units + 100 < cLine; omega), fun x hx => ?_, fun g x hx => ?_, fun g x hx => ?_, Fa.con, fun b => Fa.fre _ (biNm_in b), Fa.fre _ (by decide), Fa.fre _ (by decide), Fa.fre _ (by decide)⟩, passes_of rfl, S.kind, rfl, rfl, Fa.cmg, Fa.exm, fun pn xe c hc hg hd x t q pos ok h => ?_⟩
          · unfold stOk at hx
            split at hx
            · exact ⟨.inl (by assumption), .inl rfl⟩
            · exact ⟨.inr (by assumption), .inl rfl⟩
            · cases hx
          · simp only [List.getElem?_map] at hx
            cases e5 : p.T[g]? with
            | none => rw [e5] at hx; cases hx
            | some dg =>
              rw [e5] at hx
              have hx : dg.x = x := by simpa using hx
              subst hx
              obtain ⟨stg, fdg, _, cg, Fg⟩ := Fa.df g dg e5
              obtain ⟨o1, _, ⟨dsV, v1, v2⟩, o3⟩ := IH g dg stg fdg e5 cg Fg
              exact ⟨_, fdg, _, n + 2, _, dsV, o1, hr, Fa.mgf dg (List.mem_of_getElem? e5), o3, v2, v1⟩
          · simp only [List.getElem?_map] at hx
            cases e5 : p.T[g]? with
            | none => rw [e5] at hx; cases hx
            | some dg =>
              rw [e5] at hx
              have hx : dg.x = x := by simpa using hx
              subst hx
              obtain ⟨stg, fdg, _, cg, Fg⟩ := Fa.df g dg e5
              obtain ⟨_, o1, ⟨dsV, v1, v2⟩, o3⟩ := IH g dg stg fdg e5 cg Fg
              exact ⟨_, fdg, _, n + 2, _, dsV, o1, hr, Fa.mgf dg (List.mem_of_getElem? e5), o3, v2, v1⟩
          · obtain ⟨D, fI, cc, ca, name, qual, params, scope, body, i1, i2, i3, i4, i5, i6⟩ := Fa.ini c hc
            obtain ⟨fdI, j1, j2⟩ := ini_all (w := w) (base := base) (CX := L2.CX P w) i1 i2 i3
            exact mk_ok (X := X.tr pn xe) i4 i5 i6 j1 (hr.mono (by omega)) j2 (passes_call (X := X.tr pn xe) (W := W0) takes0 fun _ _ _ _ z => z) (glb_of (X := X.tr pn xe) (sc := (gamOf p C d (defScope st)).sc) rfl hg) (Fa.cmg c hc) (nodb_of hd).1 ok h
        refine ⟨_, allSs (sgOf p n) d.b (gamOf p C d (defScope st)) _ X Cc _ c5, fun _ _ => True, O, H, ([], env0 d (ds ++ d.dv.map PyData.int)), ⟨fun _ _ _ _ _ z => z, dom⟩, ⟨⟨O, trivial, fun _ z => z, start_rel dom r'⟩, fun _ z => (nomatch z)⟩, ?_⟩
        cases e6 : evSs (sgOf p n) d.b ([], env0 d (ds ++ d.dv.map PyData.int)) with
        | nx s' => rw [e6] at h; exact h.elim
        | rt v => rw [e6] at h; exact h.elim
        | rf v =>
          rw [e6] at h
          exact fun u H' hn sm ow => h u H' hn sm ow
        | exc c' i' s' =>
          rw [e6] at h
          intro σ' H' cls dd rl xr
          obtain ⟨O', _, _, q3⟩ := rl.ex
          exact h cls dd H' q3.sam xr
        | bk s' => rw [e6] at h; exact h.elim
        | ct s' => rw [e6] at h; exact h.elim
        | bad => rw [e6] at h; exact h.elim
end Fe
set_option Elab.async false
set_option linter.all false
set_option maxRecDepth 100000
set_option maxHeartbeats 4000000
/-! Fe, part P: what is seen of the heap behind the top. -/
namespace Fe
open PySem PySem.Spec PyProof.Rows L2
/-! ### classes -/
/-- who is caught by which clause: each own error with its bases -/
def subX (tab : List (Str × List Str)) (c x : Str) : Option Bool := match tab.lookup c with
  | some l => if decide (x ∈ tab.map (·.1)) then some (l.contains x) else none
  | none => none
def oexB (K : PySem.W.Frag) (C : Addr) : Bool := (match K.lookup C with
  | some ⟨.type t, _, .cls cd, sl⟩ => t == "type" && (cd.hasDict && (!cd.hasDel && ((match cd.mro with
      | .ref c :: bm => decide (c = C) && PySem.HandSPX.refsVE bm
      | _ => false) && (match sl.toList with
      | [_, _, _, _, some (.builtin b), _] => b == "ValueError.__new__"
      | _ => false))))
  | _ => false) && (He.eqO (PySem.W.findIn K (.ref C) "__setattr__") (some (some (.builtin "object.__setattr__"))) && (decide (PySem.W.subIn K (.ref C) (.type "BaseException") = some true) &&
  (decide (PySem.W.typeIn K (.ref C) = some (.type "type")) && PySem.W.keepIn K (.ref C))))
theorem oexB_ok {K : PySem.W.Frag} {C : Addr} (h : oexB K C = true) : OexC K C := by
  unfold oexB at h
  simp only [Bool.and_eq_true, decide_eq_true_eq] at h
  obtain ⟨h1, h2, h3, h4, h5⟩ := h
  refine ⟨?_, He.eqO_ok h2, h3, h4, h5⟩
  split at h1
  case h_2 => cases h1
  rename_i t dd cd sl lk
  simp only [Bool.and_eq_true, Bool.not_eq_true', beq_iff_eq] at h1
  obtain ⟨rfl, g2, g3, g4, g5⟩ := h1
  obtain ⟨nm, bs, mro, ns, qn, hd, sn, sb, ab, col, del⟩ := cd
  dsimp only at g2 g3 g4
  subst g2
  subst g3
  split at g4
  case h_2 => cases g4
  rename_i c bm
  simp only [Bool.and_eq_true, decide_eq_true_eq] at g4
  obtain ⟨rfl, g4⟩ := g4
  split at g5
  case h_2 => cases g5
  rename_i k0 k1 k2 k3 b k5 e
  have g5 := beq_iff_eq.mp g5
  subst g5
  have e : sl = #[k0, k1, k2, k3, some (.builtin "ValueError.__new__"), k5] := by
    rw [← e] <;> simp
  subst e
  exact ⟨nm, qn, ns, bs, bm, sn, sb, ab, col, dd, k0, k1, k2, k3, k5, lk, g4⟩
def subB (K : PySem.W.Frag) (D C : Addr) : Bool := oexB K C && (decide (PySem.W.mroIn K C (.ref D) = some true) && (decide (PySem.W.mroIn K C (.type "ValueError") = some true) && ((match PySem.W.clsIn K C with
  | some cd => decide ((cd.mro.dropWhile (· != .ref D)).drop 1 = PySem.Vsx.veT)
  | none => false) && He.eqO (PySem.W.findIn K (.ref C) "at") (some none))))
theorem subB_ok {K : PySem.W.Frag} {D C : Addr} (h : subB K D C = true) : SubF K D C := by
  unfold subB at h
  simp only [Bool.and_eq_true, decide_eq_true_eq] at h
  obtain ⟨h1, h2, h3, h4, h5⟩ := h
  refine ⟨oexB_ok h1, h2, h3, ?_, He.eqO_ok h5⟩
  split at h4
  · exact ⟨_, by assumption, of_decide_eq_true h4⟩
  · cases h4
/-! ### the errors' __init__ -/
def iniAt (K : PySem.W.Frag) (D : Str) : Addr := He.ma K (He.ga K D) "__init__"
def celAt (K : PySem.W.Frag) (D : Str) : Addr := match K.lookup (iniAt K D) with
  | some ⟨_, _, .func fd, _⟩ => (match fd.closure with
    | [(_, c)] => c
    | _ => 0)
  | _ => 0
def codAt (K : PySem.W.Frag) (D : Str) : Addr := match K.lookup (iniAt K D) with
  | some ⟨_, _, .func fd, _⟩ => (match fd.code with
    | .ref c => c
    | _ => 0)
  | _ => 0
abbrev FnI : Type := Option (Str × Str × Arguments × FuncBody × Scope × Addr × List Str × Addr)
def fnI (K : PySem.W.Frag) (D : Str) : FnI := match K.lookup (iniAt K D) with
  | some ⟨_, _, .func fd, _⟩ => some (fd.name, fd.qualname, fd.params, fd.body, fd.scope, fd.globals, fd.closure.map (·.1), fd.builtins)
  | _ => none
def valI (qual : Str) (st : Stmt) : FnI := some ("__init__", qual, defArgs st, .stmts (defBody st), defScope st, mainGlobals, ["__class__"], builtinsNs)
def iniB (file : Str) (K : PySem.W.Frag) (D qual : Str) : Bool := (match K.lookup (iniAt K D) with
  | some ⟨_, _, .func fd, _⟩ => (match fd.code, fd.defaults with
    | .ref _, .none => true
    | _, _ => false)
  | _ => false) && (PySem.W.codeIn K (.ref (codAt K D)) qual && ((match K.lookup (codAt K D) with
  | some ⟨_, _, .fields vs, _⟩ => (match (vs[2]? : Option Value) with
    | some (.str z _) => file == z
    | _ => false)
  | _ => false) && ((match K.lookup (celAt K D) with
  | some ⟨_, _, .cell (some (.ref c)), _⟩ => decide (c = He.ga K D)
  | _ => false) && ((PySem.W.clsIn K (He.ga K D)).isSome && (He.eqO (PySem.W.nsIn K mainGlobals "super") (some none) && (He.eqO (PySem.W.nsIn K cStatics "thirdparty.any") (some none) && decide (PySem.W.typeIn K (.ref (iniAt K D)) = some (.type "function"))))))))
/-- of the text alone -/
structure IniS (P : Program) (st : Stmt) : Prop where
  top : (P.main.scope.names.lookup ("super" : Str)).isSome = false
  par : ∃ ar, ((defArgs st).posonlyargs ++ (defArgs st).args).head? = some ar ∧ ar.arg = ("self" : Str)
  scp : NdefX.NScope [("self" : Str), "at", "__class__"] [("self" : Str), "at"] [("__class__" : Str)] (defScope st)
  ks : (defScope st).names.lookup ("super" : Str) = some .globalImplicit
  bod : ∃ p0 p1 p2 p3 p4 p5 p6 p7 p8 p9, defBody st = [.Expr (.Call (.Attribute (.Call (.Name "super" p0) [] [] p1) "__init__" p2) [.Name "at" p3] [] p4) p5, .Assign [.Attribute (.Name "self" p6) "at" p7] (.Name "at" p8) p9] ∧
    ∃ pl : PySem.Env → Sem Bool, ∀ env : PySem.Env, eval (.Call (.Attribute (.Call (.Name "super" p0) [] [] p1) "__init__" p2) [.Name "at" p3] [] p4) env = (do
      let ov ← attributeBase (.Call (.Name "super" p0) [] [] p1) "__init__" env (eval (.Call (.Name "super" p0) [] [] p1) env)
      standAt p2.atName
      let (f, first) ← holding [ov] (getMethod ov "__init__" (pl env))
      callWith p4 f first (backTo p4 (starEach [.Name "at" p3] env)) [])
  pla : plainA (defArgs st) = true
  arg : (defArgs st).args.map (·.arg) = [("self" : Str), "at"]
theorem iniF_of {P : Program} {K : PySem.W.Frag} {h : Heap} {mg : Str → Option Value} {D qual : Str} {st : Stmt} (X : K.In h) (G : h.Ns mainGlobals mg) (S : IniS P st) (e : fnI K D = valI qual st) (b : iniB P.main.file K D qual = true) :
    IniF P K mg (He.ga K D) (iniAt K D) (celAt K D) (codAt K D) "__init__" qual (defArgs st) (defScope st) (defBody st) := by
  unfold iniB at b
  simp only [Bool.and_eq_true, decide_eq_true_eq] at b
  obtain ⟨b0, b1, b2, b3, b4, b5, b6, b7⟩ := b
  refine ⟨?_, b1, ?_, ?_, ?_, S.top, He.free_ok X G (x := "super") b5, S.par, S.scp, S.ks, S.bod, He.eqO_ok b6⟩
  · unfold fnI valI at e
    split at e
    case h_2 => cases e
    rename_i oc od fd osl lk
    rw [lk] at b0
    dsimp only at b0
    split at b0
    case h_2 => cases b0
    rename_i c hc hd
    have hce : celAt K D = (match fd.closure with | [(_, c)] => c | _ => 0) := by
      unfold celAt
      rw [lk] <;> rfl
    have hco : codAt K D = c := by
      unfold codAt
      rw [lk]
      dsimp only
      rw [hc] <;> rfl
    obtain ⟨nm, ql, pr, bd, sc, gl, cl, df, kd, dc, pm, an, cd, ct, bt⟩ := fd
    dsimp only at hc hd hce e
    subst hc
    subst hd
    simp only [Option.some.injEq, Prod.mk.injEq] at e
    obtain ⟨rfl, rfl, rfl, rfl, rfl, rfl, e7, rfl⟩ := e
    rcases cl with _ | ⟨⟨y, c2⟩, _ | _⟩ <;> first | (simp at e7; done) | skip
    have e7 : y = "__class__" := by simpa using e7
    subst e7
    rw [hce, hco]
    exact ⟨oc, od, osl, kd, dc, pm, an, ct, lk⟩
  · split at b2
    case h_2 => cases b2
    rename_i lk
    split at b2
    case h_2 => cases b2
    rename_i e2
    exact ⟨_, _, _, _, _, _, lk, e2, b2⟩
  · split at b3
    case h_2 => cases b3
    rename_i lk
    have b3 := of_decide_eq_true b3
    subst b3
    exact ⟨_, _, _, lk⟩
  · exact Option.isSome_iff_exists.mp b4
end Fe
namespace Fe
open PySem PySem.Spec PyProof.Rows L2
/-! ### constants -/
mutual
def valB (K : PySem.W.Frag) : Value → PD → Bool
  | u, .none => (match u with | .none => true | _ => false)
  | u, .bool b => (match u with | .bool c => b == c | _ => false)
  | u, .int i => (match u with | .int j _ => decide (i = j) | _ => false)
  | u, .str x => (match u with | .str y _ => decide (x = y) && PyData.strOk x | _ => false)
  | u, .tuple ds => (match u with
    | .ref a => (match K.lookup a with
      | some ⟨.type c, _, .seq its _, _⟩ => c == "tuple" && (decide (its.size ≤ sizeLine) && valBs K its.toList ds)
      | _ => false)
    | _ => false)
  | _, _ => false
def valBs (K : PySem.W.Frag) : List Value → List PD → Bool
  | us, [] => us.isEmpty
  | us, d :: ds => (match us with
    | u :: r => valB K u d && valBs K r ds
    | [] => false)
end
mutual
theorem valB_ok {K : PySem.W.Frag} : ∀ (d : PD) (u : Value), valB K u d = true → ∃ v, RelV v u ∧ ∀ O H, RX K O H v d
  | .none, u, h => by
    cases u <;> first | (simp [valB] at h; done) | exact ⟨.non, rfl, fun _ _ => .non⟩
  | .bool b, u, h => by
    cases u <;> first | (simp [valB] at h; done) | skip
    simp only [valB, beq_iff_eq] at h
    subst h
    exact ⟨.bl b, rfl, fun _ _ => .bl b⟩
  | .int i, u, h => by
    cases u <;> first | (simp [valB] at h; done) | skip
    simp only [valB, decide_eq_true_eq] at h
    subst h
    exact ⟨.int i, ⟨_, rfl⟩, fun _ _ => .int i⟩
  | .str x, u, h => by
    cases u <;> first | (simp [valB] at h; done) | skip
    simp only [valB, Bool.and_eq_true, decide_eq_true_eq] at h
    obtain ⟨rfl, h⟩ := h
    exact ⟨.str x, ⟨_, rfl⟩, fun _ _ => .str x h⟩
  | .tuple ds, u, h => by
    cases u <;> first | (simp [valB] at h; done) | skip
    rename_i a
    simp only [valB] at h
    split at h
    case h_2 => cases h
    rename_i c od its n sl lk
    simp only [Bool.and_eq_true, decide_eq_true_eq, beq_iff_eq] at h
    obtain ⟨rfl, h1, h2⟩ := h
    obtain ⟨vs, g1, g2⟩ := valBs_ok ds its.toList h2
    exact ⟨.ref a, rfl, fun O H => .tup (.inr ⟨_, its, n, lk, rfl, rfl, h1, g1⟩) (g2 O H)⟩
  | .list ds, u, h => by simp [valB] at h
  | .dict ds, u, h => by simp [valB] at h
theorem valBs_ok {K : PySem.W.Frag} : ∀ (ds : List PD) (us : List Value), valBs K us ds = true → ∃ vs, Vals vs us ∧ ∀ O H, RXs K O H vs ds
  | [], us, h => by
    cases us with
    | nil => exact ⟨[], .nil, fun _ _ => .nil⟩
    | cons _ _ => simp [valBs] at h
  | d :: ds, us, h => by
    cases us with
    | nil => simp [valBs] at h
    | cons u us =>
      simp only [valBs, Bool.and_eq_true] at h
      obtain ⟨v, g1, g2⟩ := valB_ok d u h.1
      obtain ⟨vs, g3, g4⟩ := valBs_ok ds us h.2
      exact ⟨v :: vs, .cons g1 g3, fun O H => .cons (g2 O H) (g4 O H)⟩
end
def conB (K : PySem.W.Frag) (c : Str × PD) : Bool := match PySem.W.nsIn K mainGlobals c.1 with
  | some (some u) => valB K u c.2
  | _ => false
/-! ### all of it -/
structure Hd where
  p : Pg
  tab : List (Str × List Str)
  D : Str
  qual : Str
  file : Str
  ini : Stmt
  sts : List Stmt
def Hd.C (h : Hd) : List Str := h.tab.map (·.1)
def dfOf (d : Df) (st : Stmt) : He.DefD := ⟨(d.x, none), d.x, d.x, defArgs st, defBody st, defScope st, d.da.map He.Dv.int, []⟩
def Hd.dds (h : Hd) : List He.DefD := (h.p.T.zip h.sts).map fun z => dfOf z.1 z.2
def Hd.ok (h : Hd) (K : PySem.W.Frag) : Bool := h.p.T.all (fun d => (He.Fa.glo d.x).ok K) && (h.p.G.all (conB K) && (blNs.all (fun x => (He.Fa.free x).ok K) && (h.C.all (fun c => (He.Fa.glo c).ok K && (subB K (He.ga K h.D) (He.ga K c) && (xfB K (He.ga K c) &&
  (He.eqO (PySem.W.findIn K (.ref (He.ga K c)) "__init__") (some (some (.ref (iniAt K h.D)))) && h.C.all fun x => decide (PySem.W.exmOne K (.ref (He.ga K c)) (.ref (He.ga K x)) = subX h.tab c x))))) && (iniB h.file K h.D h.qual && h.dds.all fun d => d.ok K))))
abbrev AlF : Type := Bool × List He.FnW × FnI
def Hd.obs (h : Hd) (K : PySem.W.Frag) : AlF := (h.ok K, h.dds.map fun d => He.fnW K d.at_, fnI K h.D)
def Hd.val (h : Hd) : AlF := (true, h.dds.map He.DefD.val, valI h.qual h.ini)
/-- no lists -/
def isLst (o : Obj) : Bool := match o.cls with
  | .type c => c == "list"
  | _ => false
def NoL (K : PySem.W.Frag) : Prop := ∀ a o, K.lookup a = some o → isLst o = false
def frF (n : Nat) (g : Addr → Option Obj) : PySem.W.Frag := He.frG g ((He.asD g n ++ [cStatics]).filter fun a => match g a with
  | some o => !isLst o
  | none => false)
theorem frF_nol (n : Nat) (g : Addr → Option Obj) : NoL (frF n g) := by
  have key : ∀ (as : List Addr) (a : Addr) (o : Obj), (He.frG g as).lookup a = some o → a ∈ as := by
    intro as
    induction as with
    | nil => intro a o h; cases h
    | cons b as ih =>
      intro a o h
      unfold He.frG at h ih
      rw [List.filterMap_cons] at h
      cases e : g b with
      | none =>
        rw [e] at h
        exact List.mem_cons_of_mem _ (ih a o h)
      | some ob =>
        rw [e] at h
        simp only [Option.map_some, List.lookup] at h
        split at h
        · rename_i z
          have : a = b := by simpa using z
          rw [this]
          exact List.mem_cons_self ..
        · exact List.mem_cons_of_mem _ (ih a o h)
  intro a o h
  have m := key _ a o h
  have e := He.frG_at _ h
  have f := (List.mem_filter.mp m).2
  rw [e] at f
  simpa using f
def Hd.obsG (h : Hd) (n : Nat) (g : Addr → Option Obj) : AlF := h.obs (frF n g)
def Hd.Says (h : Hd) (K : PySem.W.Frag) : Prop := NoL K ∧ h.obs K = h.val
theorem frF_in {n : Nat} {h : Heap} : (frF n h.get?).In h := He.frG_in
def Hd.hook (h : Hd) (n : Nat) : PySem.W.Hook where
  α := AlF
  obs := fun s => h.obsG n s.heap.get?
  val := fun _ => h.val
  says := fun _ hp => ∃ K : PySem.W.Frag, K.In hp ∧ h.Says K
  of := fun _ _ e => ⟨_, frF_in, frF_nol _ _, e⟩
  keeps := fun _ _ _ ⟨K, hK, c⟩ k => ⟨K, PySem.W.Frag.In.keeps hK k, c⟩
theorem Hd.obsG_eq {h : Hd} {n : Nat} {g : Addr → Option Obj} {s : Shared} (e : ∀ a, g a = s.heap.get? a) : h.obsG n g = (h.hook n).obs s := by
  have : g = s.heap.get? := funext e
  rw [this]
  rfl
/-- of the text alone -/
structure Hd.Stat (h : Hd) (P : Program) : Prop where
  len : h.sts.length = h.p.T.length
  chk : ((h.p.T.zip h.sts).all fun z => chkDf h.p h.C z.1 z.2) = true
  sub : h.p.X = subX h.tab
  ini : IniS P h.ini
  file : h.file = P.main.file
theorem Hd.facts {h : Hd} {P : Program} {K : PySem.W.Frag} {hp : Heap} {mg : Str → Option Value} (X : K.In hp) (G : hp.Ns mainGlobals mg) (S : h.Stat P) (c : h.Says K) : Facts P K mg h.p h.C h.sts := by
  obtain ⟨_, c⟩ := c
  unfold Hd.obs Hd.val at c
  simp only [Prod.mk.injEq] at c
  obtain ⟨c1, c2, c3⟩ := c
  unfold Hd.ok at c1
  simp only [Bool.and_eq_true, List.all_eq_true] at c1
  obtain ⟨k1, k2, k3, k4, k5, k6⟩ := c1
  have iF : IniF P K mg (He.ga K h.D) (iniAt K h.D) (celAt K h.D) (codAt K h.D) "__init__" h.qual (defArgs h.ini) (defScope h.ini) (defBody h.ini) := iniF_of X G S.ini c3 (by rw [← S.file]; exact k5)
  refine ⟨fun i d e => ?_, fun d hd => He.glo_ok X G (k1 d hd), fun x d e => ?_, fun x hx => He.free_ok X G (k3 x hx), fun x hx => He.glo_ok X G (k4 x hx).1, fun c x b e hx => ?_, fun c hc => ?_⟩
  · have il : i < h.p.T.length := by
      by_cases z : i < h.p.T.length
      · exact z
      · rw [List.getElem?_eq_none (by omega)] at e; cases e
    obtain ⟨st, e2⟩ : ∃ st, h.sts[i]? = some st := ⟨h.sts[i]'(by rw [S.len]; exact il), by simp [S.len, il]⟩
    have ez : (h.p.T.zip h.sts)[i]? = some (d, st) := by rw [List.getElem?_zip_eq_some]; exact ⟨e, e2⟩
    have ed : h.dds[i]? = some (dfOf d st) := by
      unfold Hd.dds
      rw [List.getElem?_map, ez] <;> rfl
    have e3 : He.fnW K (dfOf d st).at_ = (dfOf d st).val := by
      have := congrArg (fun l => l[i]?) c2
      simp only [List.getElem?_map, ed, Option.map_some, Option.some.injEq] at this
      exact this
    obtain ⟨fd, F⟩ := He.DefD.funD e3 (k6 _ (List.mem_of_getElem? ed))
    have ev : (dfOf d st).dvs K = d.da.map V.int := by
      show (d.da.map He.Dv.int).map (He.Dv.v K) = _
      rw [List.map_map]
      rfl
    rw [ev] at F
    exact ⟨st, fd, e2, List.all_eq_true.mp S.chk _ (List.mem_of_getElem? ez), F⟩
  · have m : (x, d) ∈ h.p.G := PySem.mem_of_lookup e
    have q := k2 _ m
    unfold conB at q
    split at q
    · rename_i u e2
      obtain ⟨v, g1, g2⟩ := valB_ok d u q
      exact ⟨u, v, PySem.W.mg_of X G e2, g1, g2⟩
    · cases q
  · rw [S.sub] at e
    have hc : c ∈ h.C := by
      unfold subX at e
      split at e
      · rename_i l el
        exact List.mem_map.mpr ⟨_, PySem.mem_of_lookup el, rfl⟩
      · cases e
    obtain ⟨_, q1, q2, q3, q4⟩ := k4 c hc
    exact ⟨(of_decide_eq_true (q4 x hx)).trans e, xfB_ok q2, (subB_ok q1).at_⟩
  · obtain ⟨_, q1, q2, q3, q4⟩ := k4 c hc
    have ti : PySem.W.typeIn K (.ref (iniAt K h.D)) = some (.type "function") := by
      have k5 := k5
      unfold iniB at k5
      simp only [Bool.and_eq_true, decide_eq_true_eq] at k5
      exact k5.2.2.2.2.2.2.2
    exact ⟨_, _, _, _, _, _, _, _, _, iF, S.ini.pla, S.ini.arg, subB_ok q1, He.eqO_ok q3, ti⟩

/-! ### the law's def -/
theorem noE {P : Program} {w : World} {K : PySem.W.Frag} {mg : Str → Option Value} {base : Heap} {k : Nat} {f : Addr} {fd : FuncData} {ps : List Str} {sp : Sp} (F : FnOk P w K mg base (L2.CX P w) k f fd ps sp) :
    FnOk P w K mg base L2.CX0 k f fd ps (fun vs H Q _ => sp vs H Q fun _ _ _ => False) where
  len := fun vs H Q E h => F.len _ _ _ _ h
  run := fun A outer s H args us vs Q E hr e0 hb r h => codeAny_mono (F.run A outer s H args us vs Q _ hr e0 hb r h) fun r s' z => by
    cases r with
    | error e =>
      obtain ⟨_, _, _, _, _, _, _, _, _, _, _, _, z⟩ := z
      exact z.elim
    | ok fl =>
      cases fl <;> exact z
theorem law_sp {K : PySem.W.Frag} (nl : NoL K) {F : List PD → R PD} {H : Hp} {a : Addr} {ns : List Int} (hS : SqL K H a (ns.map V.int)) (h : F [.list (ns.map PyData.int)] = .ok (.bool true)) :
    spF K F [.ref a] H (fun v _ => v = .bl true) fun _ _ _ => False := by
  refine ⟨[.list (ns.map PyData.int)], fun _ => False, fun _ z => z.elim, .cons ?_ .nil, ?_⟩
  · rcases hS with hS | ⟨o, its, n, lk, hc, _⟩
    · exact .lst (fun z => z) hS (rxs_ints ns)
    · have := nl a o lk
      unfold isLst at this
      rw [hc] at this
      simp at this
  · rw [h]
    intro v H' _ r
    cases r
    rfl
/-- the law's def, at the depth n, the i-th: where it answers True -/
theorem law_fn {h : Hd} {P : Program} {w : World} {K : PySem.W.Frag} {hp : Heap} {mg : Str → Option Value} {f : Addr} {n i : Nat} {d : Df} (X : K.In hp) (G : hp.Ns mainGlobals mg) (S : h.Stat P) (c : h.Says K) (e : h.p.T[i]? = some d) (hf : mg d.x = some (.ref f)) (hn : d.N.take d.np = [("script" : Str)]) (hda : d.da = [] ∧ d.dv = [])
    (law : ∀ ns : List Int, ns.length ≤ 63 → evF h.p n i [.list (ns.map PyData.int)] = .ok (.bool true)) :
    ∃ (fd : FuncData) (sp : Sp), (∀ (s : Shared) (u : Value), BindsTo s fd ⟨[u], []⟩ [(("script" : Str), u)]) ∧ (∀ (H : Hp) (a : Addr) (ns : List Int), ns.length ≤ 63 → Only H → SqL K H a (ns.map V.int) → sp [.ref a] H (fun v _ => v = .bl true) fun _ _ _ => False) ∧
      ∀ base : Heap, K.In base → base.Ns mainGlobals mg → FnOk P w K mg base L2.CX0 (n + 2) f fd ["script"] sp := by
  have Fa := Hd.facts X G S c
  obtain ⟨st, fd, _, c1, F⟩ := Fa.df i d e
  have e2 := hf.symm.trans (Fa.mgf d (List.mem_of_getElem? e))
  cases e2
  have c2 := c1
  simp only [chkDf, Bool.and_eq_true, decide_eq_true_eq] at c2
  have hk : d.k = d.np := by unfold Df.k; rw [hda.2]; rfl
  rw [← hk] at hn
  refine ⟨fd, fun vs H Q _ => spF K (evF h.p n i) vs H Q fun _ _ _ => False, fun s u => ?_, fun H a ns hl _ hS => law_sp c.1 hS (law ns hl), fun base _ _ => ?_⟩
  · have F2 := F
    rw [hda.1] at F2
    have b := FunD.bindsA (ps := ["script"]) F2 (fun kV doc pm an cdv ct us hl => by
      have q := c2.2.1
      rw [hn] at q
      rw [q] at hl ⊢
      exact bind_plain c2.1 us hl)
    exact b s [u] rfl
  · have q := (fns_ok Fa (w := w) (base := base) n i d st fd e c1 F).1
    rw [hn, hda.2] at q
    refine noE ⟨fun vs H Q E h => q.len vs H Q E ⟨vs, (List.append_nil _).symm, h⟩, fun A outer s H args us vs Q E hr e0 hb r h => q.run A outer s H args us vs Q E hr e0 hb r ⟨vs, (List.append_nil _).symm, h⟩⟩
end Fe
set_option Elab.async false
set_option linter.all false
set_option maxRecDepth 100000
set_option maxHeartbeats 4000000
namespace Fe
open PySem PySem.Spec PyProof.Rows L2
section
variable {α β : Type}
theorem bok (a : α) (f : α → R β) : (R.ok a).bind f = f a := rfl
theorem bexc (c : Str) (i : Int) (f : α → R β) : (R.exc c i : R α).bind f = .exc c i := rfl
theorem bbad (f : α → R β) : (R.bad : R α).bind f = .bad := rfl
theorem sok (a : α) (s : Sta) (f : α → SR) : (R.ok a).s s f = f a := rfl
theorem sexc (c : Str) (i : Int) (s : Sta) (f : α → SR) : (R.exc c i : R α).s s f = .exc c i s := rfl
theorem sbad (s : Sta) (f : α → SR) : (R.bad : R α).s s f = .bad := rfl
end
theorem fnx (s : Sta) : fin (.nx s) = .ok .none := rfl
theorem frt (d : PD) : fin (.rt d) = .ok d := rfl
theorem frf (d : PD) : fin (.rf d) = .ok d := rfl
theorem fFf (d : PD) : finF (.rf d) = .ok d := rfl
theorem fFx (c : Str) (i : Int) (s : Sta) : finF (.exc c i s) = .exc c i := rfl
theorem fexc (c : Str) (i : Int) (s : Sta) : fin (.exc c i s) = .exc c i := rfl
theorem iO (i : Int) : intOf (.int i) = .ok i := rfl
theorem bO (b : Bool) : boolOf (.bool b) = .ok b := rfl
theorem vadd (i j : Int) : binV .add (.int i) (.int j) = .ok (.int (i + j)) := rfl
theorem vsub (i j : Int) : binV .sub (.int i) (.int j) = .ok (.int (i - j)) := rfl
theorem vmul (i j : Int) (h : i.natAbs.log2 + j.natAbs.log2 < 1000000) : binV .mul (.int i) (.int j) = .ok (.int (i * j)) := by
  show (if decide (i.natAbs.log2 + j.natAbs.log2 < 1000000) = true then _ else _) = _
  rw [if_pos (by simpa using h)]
theorem vfdiv (i j : Int) (h : j ≠ 0) (h2 : j.natAbs.log2 < 9000) : binV .fdiv (.int i) (.int j) = .ok (.int (i.fdiv j)) := by
  show (if decide (j ≠ 0 ∧ j.natAbs.log2 < 9000) = true then _ else _) = _
  rw [if_pos (by simpa using ⟨h, h2⟩)]
theorem vmod (i j : Int) (h : j ≠ 0) : binV .mod (.int i) (.int j) = .ok (.int (i.fmod j)) := by
  show (if decide (j ≠ 0) = true then _ else _) = _
  rw [if_pos (by simpa using h)]
theorem clt (i j : Int) : cmpV .lt (.int i) (.int j) = .ok (.bool (decide (i < j))) := rfl
theorem cle (i j : Int) : cmpV .le (.int i) (.int j) = .ok (.bool (decide (i ≤ j))) := rfl
theorem cgt (i j : Int) : cmpV .gt (.int i) (.int j) = .ok (.bool (decide (j < i))) := rfl
theorem cge (i j : Int) : cmpV .ge (.int i) (.int j) = .ok (.bool (decide (j ≤ i))) := rfl
theorem ceqi (i j : Int) : cmpV .eq (.int i) (.int j) = .ok (.bool (decide (i = j))) := by
  show (if eqOk (.int i) (.int j) = true then R.ok (PyData.bool (PyData.eqv (.int i) (.int j))) else .bad) = _
  have : eqOk (.int i) (.int j) = true := rfl
  rw [if_pos this]
  have e : PyData.eqv (.int i) (.int j) = decide (i = j) := by
    show (i == j) = _
    rw [Bool.eq_iff_iff]; simp
  rw [e]
theorem cnei (i j : Int) : cmpV .ne (.int i) (.int j) = .ok (.bool (!decide (i = j))) := by
  show (if eqOk (.int i) (.int j) = true then R.ok (PyData.bool (!PyData.eqv (.int i) (.int j))) else .bad) = _
  have : eqOk (.int i) (.int j) = true := rfl
  rw [if_pos this]
  have e : PyData.eqv (.int i) (.int j) = decide (i = j) := by
    show (i == j) = _
    rw [Bool.eq_iff_iff]; simp
  rw [e]
theorem babs (i : Int) : biV .abs [.int i] = .ok (.int i.natAbs) := rfl
theorem bint (i : Int) : biV .int [.int i] = .ok (.int i) := rfl
theorem bintt : biV .int [.bool true] = .ok (.int 1) := rfl
theorem bintf : biV .int [.bool false] = .ok (.int 0) := rfl
theorem cintt : biV .int [.bool (decide True)] = .ok (.int 1) := rfl
theorem blen (l : List PD) : biV .len [.list l] = .ok (.int l.length) := rfl
abbrev P (n d : Int) : PD := .tuple [.int n, .int d]
theorem ix0 (n d : Int) : ixV (P n d) (.int 0) = .ok (.int n) := rfl
theorem ix1 (n d : Int) : ixV (P n d) (.int 1) = .ok (.int d) := rfl

/-! ### defs that all laws have -/
def lwDraws1 : Ss := .cons (.ifs (.cmp .gt (.var 3) (.int 0)) (.cons (.app 1 (.bin .mod (.bi .int (.cons (.var 3) (.nil))) (.int 65536))) (.cons (.set 3 (.bin .fdiv (.var 3) (.int 65536))) (.nil))) (.nil)) (.nil)
def lwDraws2 : Ss := .cons (.set 3 (.bi .abs (.cons (.ix (.var 0) (.var 2)) (.nil)))) (.cons (.ifs (.cmp .ge (.var 3) (.bin .pow (.int 10) (.int 18))) (.cons (.for_ (.nm 4) (.r1 (.int 60)) (lwDraws1)) (.nil)) (.cons (.set 5 (.bin .mod (.bi .int (.cons (.bin .add (.bin .mul (.var 3) (.int 48271)) (.bin .mul (.bin .add (.var 2) (.int 1)) (.int 69621))) (.nil))) (.int 2147483647))) (.cons (.set 5 (.bin .mod (.bi .int (.cons (.bin .add (.bin .add (.bin .mul (.var 5) (.int 16807)) (.bin .mul (.int 11) (.var 2))) (.int 5)) (.nil))) (.int 2147483629))) (.cons (.app 1 (.bin .mod (.bi .int (.cons (.var 5) (.nil))) (.int 65536))) (.cons (.app 1 (.bin .mod (.bi .int (.cons (.bin .fdiv (.var 5) (.int 65536)) (.nil))) (.int 32768))) (.nil)))))) (.nil))
def lwDraws : Ss := .cons (.setF 1 (.lst (.nil))) (.cons (.for_ (.nm 2) (.r1 (.bi .min2 (.cons (.int 63) (.cons (.bi .len (.cons (.var 0) (.nil))) (.nil))))) (lwDraws2)) (.cons (.ret (.var 1)) (.nil)))
def dDraws : Df := ⟨"_law_draws", 1, ["script", "draws", "k", "rest", "turn", "stirred"], [1], lwDraws, [], []⟩
def lwMix : Ss := .cons (.set 3 (.int 0)) (.cons (.ifs (.cmp .gt (.bi .len (.cons (.var 0) (.nil))) (.int 0)) (.cons (.set 3 (.ix (.var 0) (.bin .mod (.bi .int (.cons (.var 1) (.nil))) (.bi .len (.cons (.var 0) (.nil)))))) (.nil)) (.nil)) (.cons (.ifs (.cmp .lt (.var 1) (.bi .len (.cons (.var 0) (.nil)))) (.cons (.ret (.bin .mod (.bi .int (.cons (.var 3) (.nil))) (.var 2))) (.nil)) (.nil)) (.cons (.ret (.bin .mod (.bi .int (.cons (.bin .fdiv (.bi .int (.cons (.bin .add (.bin .mul (.var 3) (.int 7919)) (.bin .mul (.var 1) (.int 104729))) (.nil))) (.int 3)) (.nil))) (.var 2))) (.nil))))
def dMix : Df := ⟨"_law_mix", 3, ["draws", "k", "many", "cell"], [], lwMix, [], []⟩
def lwCommon1 : Ss := .cons (.ifs (.cmp .gt (.var 3) (.int 0)) (.cons (.par [2, 3] (.cons (.var 3) (.cons (.bin .mod (.bi .int (.cons (.var 2) (.nil))) (.var 3)) (.nil)))) (.nil)) (.nil)) (.nil)
def lwCommon : Ss := .cons (.par [2, 3] (.cons (.bi .abs (.cons (.var 0) (.nil))) (.cons (.bi .abs (.cons (.var 1) (.nil))) (.nil)))) (.cons (.for_ (.nm 4) (.r1 (.int 400)) (lwCommon1)) (.cons (.ret (.bi .max2 (.cons (.int 1) (.cons (.var 2) (.nil))))) (.nil)))
def dCommon : Df := ⟨"_law_common", 2, ["a", "b", "one", "two", "turn"], [], lwCommon, [], []⟩
def lwLow (j : Nat) : Ss := .cons (.set 2 (.bin .mul (.call j (.cons (.var 0) (.cons (.var 1) (.nil)))) (.ix (.lst (.cons (.int 1) (.cons (.neg (.int 1)) (.nil)))) (.bi .int (.cons (.cmp .lt (.var 1) (.int 0)) (.nil)))))) (.cons (.ret (.tup (.cons (.bin .fdiv (.var 0) (.var 2)) (.cons (.bin .fdiv (.var 1) (.var 2)) (.nil))))) (.nil))
def dLow (j : Nat) : Df := ⟨"_law_low", 2, ["n", "d", "common"], [], lwLow j, [], []⟩
/-! ### common -/
theorem fmodN (a b : Nat) : Int.fmod (a : Int) (b : Int) = ((a % b : Nat) : Int) := by
  rw [Int.fmod_eq_emod_of_nonneg _ (by omega)]
  rfl
theorem half {a b m : Nat} (h : b < 2 ^ (m + 1)) (hb : 0 < b) (hr : 0 < a % b) : b % (a % b) < 2 ^ m := by
  have h1 : a % b < b := Nat.mod_lt _ hb
  by_cases c : a % b ≤ 2 ^ m
  · exact Nat.lt_of_lt_of_le (Nat.mod_lt _ hr) c
  · have e := Nat.mod_add_div b (a % b)
    have q : 1 ≤ b / (a % b) := (Nat.one_le_div_iff hr).mpr (Nat.le_of_lt h1)
    have : a % b * 1 ≤ a % b * (b / (a % b)) := Nat.mul_le_mul_left _ q
    have : (2:Nat) ^ (m + 1) = 2 * 2 ^ m := by rw [Nat.pow_succ]; omega
    omega
/-- Euclid's turns -/
def eu : Nat → Nat → Nat → Nat × Nat
  | 0, a, b => (a, b)
  | n + 1, a, b => if b = 0 then (a, b) else eu n b (a % b)
theorem eu_done : ∀ (m n a b : Nat), b < 2 ^ m → 2 * m ≤ n → eu n a b = (Nat.gcd a b, 0)
  | 0, n, a, b, h, _ => by
    have : b = 0 := by simpa using h
    subst this
    cases n <;> simp [eu]
  | m + 1, n, a, b, h, hn => by
    obtain ⟨n, rfl⟩ : ∃ k, n = k + 2 := ⟨n - 2, by omega⟩
    by_cases c : b = 0
    · subst c; simp [eu]
    · have hb : 0 < b := Nat.pos_of_ne_zero c
      rw [eu, if_neg c, eu]
      by_cases c2 : a % b = 0
      · rw [if_pos c2, c2]
        have : Nat.gcd a b = b := Nat.gcd_eq_right (Nat.dvd_of_mod_eq_zero c2)
        rw [this]
      · rw [if_neg c2, eu_done m n (a % b) (b % (a % b)) (half h hb (Nat.pos_of_ne_zero c2)) (by omega)]
        have e1 : Nat.gcd a b = Nat.gcd (a % b) (b % (a % b)) := by
          rw [Nat.gcd_comm a b, Nat.gcd_rec b a, Nat.gcd_rec (a % b) b, Nat.gcd_comm]
        rw [e1]
theorem dl0 (l : List Nat) : Fe.dl [] l = [] := rfl
/-- while b > 0: a, b = b, a % b -/
theorem whEu {x y : Option PD} {c : Fe.Env → R Bool} {f : Sta → SR} (hc : ∀ A B : Nat, c [x, y, some (.int A), some (.int B)] = .ok (decide (0 < B)))
    (hf : ∀ A B : Nat, 0 < B → f ([], [x, y, some (.int A), some (.int B)]) = .nx ([], [x, y, some (.int B), some (.int ((A % B : Nat) : Int))])) :
    ∀ (n m a b : Nat), b < 2 ^ m → 2 * m + 1 ≤ n → whGo [] c f n ([], [x, y, some (.int a), some (.int b)]) = .nx ([], [x, y, some (.int (Nat.gcd a b)), some (.int (0 : Nat))]) := by
  have key : ∀ (n a b : Nat), whGo [] c f (n + 1) ([], [x, y, some (.int a), some (.int b)]) = if b = 0 then .nx ([], [x, y, some (.int a), some (.int b)]) else whGo [] c f n ([], [x, y, some (.int b), some (.int ((a % b : Nat) : Int))]) := by
    intro n a b
    rw [whGo]
    simp only [hc, sok, dl0]
    by_cases h : b = 0
    · subst h
      rfl
    · have h2 : 0 < b := Nat.pos_of_ne_zero h
      have e : decide (0 < b) = true := by simpa using h2
      rw [e, if_neg h, hf a b h2]
      rfl
  have run : ∀ (n a b : Nat), (eu n a b).2 = 0 → whGo [] c f (n + 1) ([], [x, y, some (.int a), some (.int b)]) = .nx ([], [x, y, some (.int ((eu n a b).1 : Int)), some (.int (0 : Nat))]) := by
    intro n
    induction n with
    | zero =>
      intro a b h
      have h : b = 0 := h
      subst h
      rw [key, if_pos rfl] <;> rfl
    | succ n ih =>
      intro a b h
      rw [key]
      rw [eu] at h ⊢
      by_cases c : b = 0
      · rw [if_pos c, if_pos c, c]
      · rw [if_neg c] at h
        rw [if_neg c, if_neg c]
        exact ih _ _ h
  intro n m a b h hn
  obtain ⟨n, rfl⟩ : ∃ k, n = k + 1 := ⟨n - 1, by omega⟩
  have e := eu_done m n a b h (by omega)
  rw [run n a b (by rw [e]), e]
theorem forEu {x y : Option PD} {f : Sta → SR} (h0 : ∀ (A : Nat) (d : PD), f ([], [x, y, some (.int A), some (.int (0 : Nat)), some d]) = .nx ([], [x, y, some (.int A), some (.int (0 : Nat)), some d]))
    (h1 : ∀ (A B : Nat) (d : PD), 0 < B → f ([], [x, y, some (.int A), some (.int B), some d]) = .nx ([], [x, y, some (.int B), some (.int ((A % B : Nat) : Int)), some d])) :
    ∀ (L : List PD) (a b : Nat) (z : Option PD), ∃ z', forGo (.nm 4) f L ([], [x, y, some (.int a), some (.int b), z]) = .nx ([], [x, y, some (.int (eu L.length a b).1), some (.int (eu L.length a b).2), z'])
  | [], a, b, z => ⟨z, rfl⟩
  | d :: L, a, b, z => by
    rw [forGo]
    have e : tgSet (.nm 4) d [x, y, some (.int a), some (.int b), z] = some [x, y, some (.int a), some (.int b), some d] := rfl
    dsimp only
    rw [e]
    dsimp only
    by_cases c : b = 0
    · subst c
      rw [h0]
      obtain ⟨z', q⟩ := forEu h0 h1 L a 0 (some d)
      refine ⟨z', q.trans ?_⟩
      cases L <;> simp [eu]
    · rw [h1 a b d (Nat.pos_of_ne_zero c)]
      obtain ⟨z', q⟩ := forEu h0 h1 L b (a % b) (some d)
      refine ⟨z', q.trans ?_⟩
      simp only [List.length_cons, eu, if_neg c]
theorem vmax2 (i j : Int) : biV .max2 [.int i, .int j] = .ok (.int (if i < j then j else i)) := rfl
theorem ev_lcommonB {p : Pg} {i : Nat} (n : Nat) (a b : Int) (hb : b.natAbs < 2 ^ 200) (e : evF p (n + 1) i [.int a, .int b] = fin (evSs (sgOf p n) lwCommon ([], [some (.int a), some (.int b), none, none, none]))) : evF p (n + 1) i [.int a, .int b] = .ok (.int (if (1 : Int) < Nat.gcd a.natAbs b.natAbs then Nat.gcd a.natAbs b.natAbs else 1)) := by
  rw [e]
  unfold lwCommon lwCommon1
  rw [evSs]
  have e1 : evS (sgOf p n) (.par [2, 3] (.cons (.bi .abs (.cons (.var 0) (.nil))) (.cons (.bi .abs (.cons (.var 1) (.nil))) (.nil)))) ([], [some (.int a), some (.int b), none, none, none]) = .nx ([], [some (.int a), some (.int b), some (.int a.natAbs), some (.int b.natAbs), none]) := rfl
  rw [e1]
  dsimp only
  rw [evSs, evS]
  have e2 : evIt (sgOf p n) (.r1 (.int 400)) [some (.int a), some (.int b), some (.int a.natAbs), some (.int b.natAbs), none] = .ok (rngV 0 400) := rfl
  rw [e2, sok]
  have el : escItM true (.r1 (.int 400)) = [] := rfl
  rw [el, dl0]
  obtain ⟨z', q⟩ := forEu (x := some (.int a)) (y := some (.int b)) (f := evSs (sgOf p n) (.cons (.ifs (.cmp .gt (.var 3) (.int 0)) (.cons (.par [2, 3] (.cons (.var 3) (.cons (.bin .mod (.bi .int (.cons (.var 2) (.nil))) (.var 3)) (.nil)))) (.nil)) (.nil)) (.nil)))
    (fun A d => rfl) (fun A B d hB => by
      have h2 : (B : Int) ≠ 0 := by omega
      have h3 : (0 : Int) < B := by omega
      simp only [evSs, evS, evEs, evE, List.getElem?_cons_succ, List.getElem?_cons_zero, bok, sok, cgt, bO, bint, vmod _ _ h2, fmodN, dl0, setL, List.set_cons_succ, List.set_cons_zero, h3, decide_true, if_true]) (rngV 0 400) a.natAbs b.natAbs none
  rw [q]
  have hl : (rngV 0 400).length = 400 := by simp [rngV]
  rw [hl, eu_done 200 400 _ _ hb (by decide)]
  dsimp only
  rfl
/-! ### lowest terms -/
def gg (a b : Int) : Int := (Nat.gcd a.natAbs b.natAbs : Nat)
def kk (a b : Int) : Int := if b < 0 then -gg a b else gg a b
def lo (a b : Int) : PD := P (a.fdiv (kk a b)) (b.fdiv (kk a b))
theorem gg_pos {a b : Int} (h : b ≠ 0) : 0 < gg a b := by
  unfold gg
  have : 0 < Nat.gcd a.natAbs b.natAbs := Nat.gcd_pos_of_pos_right _ (by omega)
  omega
theorem gg_le {a b : Int} (h : b ≠ 0) : (gg a b).natAbs ≤ b.natAbs := by
  unfold gg
  have : Nat.gcd a.natAbs b.natAbs ≤ b.natAbs := Nat.gcd_le_right _ (by omega)
  omega
theorem log_lt {i : Int} {m : Nat} (h : i.natAbs < 2 ^ m) (hm : 0 < m) : i.natAbs.log2 < m := by
  by_cases c : i.natAbs = 0
  · rw [c]; simpa using hm
  · exact (Nat.log2_lt c).mpr h
theorem kk_ok {a b : Int} (h : b ≠ 0) (hb : b.natAbs < 2 ^ 1000) : kk a b ≠ 0 ∧ (kk a b).natAbs.log2 < 9000 := by
  have h1 := gg_pos (a := a) h
  have h2 := gg_le (a := a) h
  have h3 : (kk a b).natAbs = (gg a b).natAbs := by unfold kk; split <;> omega
  refine ⟨by unfold kk; split <;> omega, ?_⟩
  rw [h3]
  exact Nat.lt_trans (log_lt (Nat.lt_of_le_of_lt h2 hb) (by decide)) (by decide)
theorem lm1 : (-1 : Int).natAbs.log2 = 0 := by decide
theorem lp1 : (1 : Int).natAbs.log2 = 0 := by decide
theorem ev_lowB {p : Pg} {i j : Nat} (n : Nat) (a b : Int) (h : b ≠ 0) (hb : b.natAbs < 2 ^ 200) (ec : evF p (n + 1) j [.int a, .int b] = .ok (.int (if (1 : Int) < Nat.gcd a.natAbs b.natAbs then Nat.gcd a.natAbs b.natAbs else 1))) (e : evF p (n + 2) i [.int a, .int b] = fin (evSs (sgOf p (n + 1)) (lwLow j) ([], [some (.int a), some (.int b), none]))) : evF p (n + 2) i [.int a, .int b] = .ok (Fe.lo a b) := by
  rw [e]
  unfold lwLow
  obtain ⟨k1, k2⟩ := kk_ok (a := a) h (Nat.lt_trans hb (Nat.pow_lt_pow_right (by decide) (by decide)))
  have g1 := gg_pos (a := a) h
  have eg : (if (1 : Int) < Nat.gcd a.natAbs b.natAbs then (Nat.gcd a.natAbs b.natAbs : Int) else 1) = gg a b := by
    unfold gg at g1 ⊢
    split <;> omega
  rw [eg] at ec
  have lg : (gg a b).natAbs.log2 < 200 := log_lt (Nat.lt_of_le_of_lt (gg_le h) hb) (by decide)
  by_cases c : b < 0
  · have ek : kk a b = gg a b * -1 := by unfold kk; rw [if_pos c]; omega
    rw [ek] at k1 k2
    have em : binV .mul (.int (gg a b)) (.int (-1)) = .ok (.int (gg a b * -1)) := vmul _ _ (by rw [lm1]; omega)
    have ei : ixV (.list [.int 1, .int (-1)]) (.int 1) = .ok (.int (-1)) := rfl
    simp only [evSs, evS, evEs, evE, List.getElem?_cons_succ, List.getElem?_cons_zero, bok, sok, clt, bO, iO, bintt, bintf, dl0, List.set_cons_succ, List.set_cons_zero, ec, c, decide_true, ei, em, vfdiv _ _ k1 k2]
    unfold lo
    rw [ek] <;> rfl
  · have ek : kk a b = gg a b * 1 := by unfold kk; rw [if_neg c]; omega
    rw [ek] at k1 k2
    have em : binV .mul (.int (gg a b)) (.int 1) = .ok (.int (gg a b * 1)) := vmul _ _ (by rw [lp1]; omega)
    have ei : ixV (.list [.int 1, .int (-1)]) (.int 0) = .ok (.int 1) := rfl
    simp only [evSs, evS, evEs, evE, List.getElem?_cons_succ, List.getElem?_cons_zero, bok, sok, clt, bO, iO, bintt, bintf, dl0, List.set_cons_succ, List.set_cons_zero, ec, c, decide_false, ei, em, vfdiv _ _ k1 k2]
    unfold lo
    rw [ek] <;> rfl
/-! ### loops -/
theorem forGo_ix {t : Tg} {f : Sta → SR} (I : Nat → Sta → Prop) : ∀ (L : List PD) (j : Nat) (s : Sta), I j s → (∀ i d s, i < j + L.length → d ∈ L → I i s → ∃ ρ1 s', tgSet t d s.2 = some ρ1 ∧ f (s.1, ρ1) = .nx s' ∧ I (i + 1) s') → ∃ s', forGo t f L s = .nx s' ∧ I (j + L.length) s'
  | [], j, s, h, _ => ⟨s, rfl, h⟩
  | d :: L, j, s, h, k => by
    obtain ⟨ρ1, s', e1, e2, h'⟩ := k j d s (by simp) (List.mem_cons_self ..) h
    obtain ⟨s2, e3, h2⟩ := forGo_ix I L (j + 1) s' h' fun i d s hi hd => k i d s (by rw [List.length_cons]; omega) (List.mem_cons_of_mem _ hd)
    refine ⟨s2, ?_, by rw [List.length_cons]; have : j + (L.length + 1) = j + 1 + L.length := by omega
                       rw [this]; exact h2⟩
    rw [forGo, e1]
    dsimp only
    rw [e2]
    exact e3
theorem mem_rng {n : Nat} {d : PD} (h : d ∈ rngV 0 n) : ∃ k : Nat, k < n ∧ d = .int k := by
  simp only [rngV, List.mem_map, List.mem_range] at h
  obtain ⟨k, hk, rfl⟩ := h
  exact ⟨k, hk, by simp⟩
/-! ### draws -/
def okD (ds : List Int) : Prop := ∀ x ∈ ds, 0 ≤ x ∧ x < 65536
theorem atI_ok {ds : List Int} {i : Int} (h0 : 0 ≤ i) (h1 : i < ds.length) : ∃ x, x ∈ ds ∧ ixV (.list (ds.map PyData.int)) (.int i) = .ok (.int x) := by
  have hl : i.toNat < ds.length := by omega
  refine ⟨ds[i.toNat], List.getElem_mem hl, ?_⟩
  show (match atI (ds.map PyData.int) i with | some d => R.ok d | none => .bad) = _
  have : atI (ds.map PyData.int) i = some (.int ds[i.toNat]) := by
    unfold atI ixN
    rw [if_pos h0, if_pos (by simpa using h1)]
    simp [hl]
  rw [this]
theorem fmodR (a : Int) {b : Int} (h : 0 < b) : 0 ≤ a.fmod b ∧ a.fmod b < b := ⟨Int.fmod_nonneg_of_pos a h, Int.fmod_lt_of_pos a h⟩
theorem ev_mix {p : Pg} {i : Nat} (hp : p.T[i]? = some dMix) (n : Nat) (ds : List Int) (k many : Int) (hd : okD ds) (hk : 0 ≤ k) (hk2 : k < 10000) (hm : 0 < many) : ∃ r, evF p (n + 1) i [.list (ds.map PyData.int), .int k, .int many] = .ok (.int r) ∧ 0 ≤ r ∧ r < many := by
  have e : evF p (n + 1) i [.list (ds.map PyData.int), .int k, .int many] = fin (evSs (sgOf p n) lwMix ([], [some (.list (ds.map PyData.int)), some (.int k), some (.int many), none])) := by
    rw [evF, evB_succ hp]
    rfl
  rw [e]
  unfold lwMix
  have hm0 : many ≠ 0 := by omega
  have h3 : (3 : Int).natAbs.log2 < 9000 := by decide
  have l1 : (7919 : Int).natAbs.log2 < 20 := by decide
  have l2 : (104729 : Int).natAbs.log2 < 20 := by decide
  have lk : k.natAbs.log2 < 20 := log_lt (by omega) (by decide)
  have mk : binV .mul (.int k) (.int 104729) = .ok (.int (k * 104729)) := vmul _ _ (by omega)
  by_cases c : 0 < ds.length
  · have cl : (0 : Int) < (ds.map PyData.int).length := by simpa using c
    have cl' : (0 : Int) < ds.length := by omega
    have cn : ((ds.map PyData.int).length : Int) ≠ 0 := by omega
    obtain ⟨f0, f1⟩ := fmodR k cl'
    obtain ⟨x, hx, ex⟩ := atI_ok f0 f1
    obtain ⟨x0, x1⟩ := hd x hx
    have lx : x.natAbs.log2 < 20 := log_lt (by omega) (by decide)
    have mx : binV .mul (.int x) (.int 7919) = .ok (.int (x * 7919)) := vmul _ _ (by omega)
    have ex : ixV (.list (ds.map PyData.int)) (.int (k.fmod ((ds.map PyData.int).length : Int))) = .ok (.int x) := by rw [List.length_map]; exact ex
    by_cases c2 : k < (ds.map PyData.int).length
    · refine ⟨x.fmod many, ?_, fmodR x hm⟩
      simp only [evSs, evS, evEs, evE, List.getElem?_cons_succ, List.getElem?_cons_zero, bok, sok, cgt, clt, bO, blen, bint, cl, c2, decide_true, if_true, vmod _ _ cn, vmod _ _ hm0, ex, dl0, List.set_cons_succ, List.set_cons_zero, frt]
    · refine ⟨((x * 7919 + k * 104729).fdiv 3).fmod many, ?_, fmodR _ hm⟩
      simp only [evSs, evS, evEs, evE, List.getElem?_cons_succ, List.getElem?_cons_zero, bok, sok, cgt, clt, bO, blen, bint, cl, c2, decide_true, decide_false, if_true, if_false, Bool.false_eq_true, vmod _ _ cn, vmod _ _ hm0, ex, dl0, List.set_cons_succ, List.set_cons_zero, frt, mx, mk, vadd, vfdiv _ _ (show (3 : Int) ≠ 0 by decide) h3]
  · have cl : ¬ (0 : Int) < (ds.map PyData.int).length := by simpa using c
    have c2 : ¬ k < (ds.map PyData.int).length := by omega
    have mx : binV .mul (.int 0) (.int 7919) = .ok (.int (0 * 7919)) := rfl
    refine ⟨((0 * 7919 + k * 104729).fdiv 3).fmod many, ?_, fmodR _ hm⟩
    simp only [evSs, evS, evEs, evE, List.getElem?_cons_succ, List.getElem?_cons_zero, bok, sok, cgt, clt, bO, blen, bint, cl, c2, decide_true, decide_false, if_true, if_false, Bool.false_eq_true, vmod _ _ hm0, dl0, List.set_cons_succ, List.set_cons_zero, frt, mx, mk, vadd, vfdiv _ _ (show (3 : Int) ≠ 0 by decide) h3]
abbrev Ld (ds : List Int) : PD := .list (ds.map PyData.int)
theorem snoc (ds : List Int) (x : Int) : PyData.list (ds.map PyData.int ++ [.int x]) = Ld (ds ++ [x]) := by simp [Ld]
theorem okD_snoc {ds : List Int} {x : Int} (h : okD ds) (h0 : 0 ≤ x) (h1 : x < 65536) : okD (ds ++ [x]) := by
  intro y hy
  rcases List.mem_append.mp hy with z | z
  · exact h y z
  · have : y = x := by simpa using z
    subst this
    exact ⟨h0, h1⟩
theorem sl_ok {n : Nat} (h : n < 16000000) : decide (n < sLine) = true := by
  have : sLine = 16777216 := rfl
  rw [this]
  exact decide_eq_true (by omega)
theorem abs_at (ns : List Int) (k : Nat) (h : k < ns.length) : ixV (Ld ns) (.int k) = .ok (.int ns[k]) := by
  show (match atI (ns.map PyData.int) k with | some d => R.ok d | none => .bad) = _
  have : atI (ns.map PyData.int) (k : Int) = some (.int ns[k]) := by
    unfold atI ixN
    rw [if_pos (by omega), if_pos (by simpa using h)]
    simp [h]
  rw [this]
theorem dlone (l : List Nat) (h : 1 ∉ l) : Fe.dl [1] l = [1] := by simp [Fe.dl, h]
theorem app1 {S : Sig} {e : E} {ρ : Fe.Env} {ds : List PD} {x : PD} (he : esc e = []) (hv : evE S e ρ = .ok x) (hr : ρ[1]? = some (some (.list ds))) (hl : ds.length < 16000000) : evS S (.app 1 e) ([1], ρ) = .nx ([1], ρ.set 1 (some (.list (ds ++ [x])))) := by
  rw [evS]
  dsimp only
  rw [hr, he]
  dsimp only
  rw [hv]
  have : decide (1 ∈ Fe.dl [1] []) = true := rfl
  rw [if_pos this, sok, if_pos (sl_ok hl)]
  rfl
def inA (c : Nat) (script : PD) : Nat → Sta → Prop := fun i s => ∃ (ds : List Int) (k rest turn st : Option PD), s = ([1], [some script, some (Ld ds), k, rest, turn, st]) ∧ okD ds ∧ ds.length ≤ c * i
def inB (c : Nat) (script : PD) (k st : Option PD) : Nat → Sta → Prop := fun i s => ∃ (ds : List Int) (rest : Int) (turn : Option PD), s = ([1], [some script, some (Ld ds), k, some (.int rest), turn, st]) ∧ okD ds ∧ ds.length ≤ c + i ∧ 0 ≤ rest
theorem ev_drawsB {p : Pg} {i : Nat} (n : Nat) (ns : List Int) (hn : ns.length ≤ 63) (e : evF p (n + 1) i [Ld ns] = fin (evSs (sgOf p n) lwDraws ([], [some (Ld ns), none, none, none, none, none]))) : ∃ ds : List Int, evF p (n + 1) i [Ld ns] = .ok (Ld ds) ∧ okD ds := by
  rw [e]
  unfold lwDraws
  rw [evSs]
  have e1 : evS (sgOf p n) (.setF 1 (.lst (.nil))) ([], [some (Ld ns), none, none, none, none, none]) = .nx ([1], [some (Ld ns), some (Ld []), none, none, none, none]) := rfl
  rw [e1]
  dsimp only
  rw [evSs, evS]
  have e2 : evIt (sgOf p n) (.r1 (.bi .min2 (.cons (.int 63) (.cons (.bi .len (.cons (.var 0) (.nil))) (.nil))))) [some (Ld ns), some (Ld []), none, none, none, none] = .ok (rngV 0 ns.length) := by
    have hm : (if ((ns.map PyData.int).length : Int) < 63 then ((ns.map PyData.int).length : Int) else 63) = (ns.length : Int) := by
      rw [List.length_map]
      split <;> omega
    show (if inRg (if ((ns.map PyData.int).length : Int) < 63 then ((ns.map PyData.int).length : Int) else 63) = true then R.ok (rngV 0 (if ((ns.map PyData.int).length : Int) < 63 then ((ns.map PyData.int).length : Int) else 63).toNat) else .bad) = _
    rw [hm]
    have : inRg (ns.length : Int) = true := decide_eq_true (by omega)
    rw [if_pos this] <;> simp
  rw [e2, sok]
  have el : escItM true (.r1 (.bi .min2 (.cons (.int 63) (.cons (.bi .len (.cons (.var 0) (.nil))) (.nil))))) = [] := rfl
  rw [el]
  have step : ∀ i d s, i < 0 + (rngV 0 ns.length).length → d ∈ rngV 0 ns.length → inA 60 (Ld ns) i s → ∃ ρ1 s', tgSet (.nm 2) d s.2 = some ρ1 ∧ evSs (sgOf p n) lwDraws2 (s.1, ρ1) = .nx s' ∧ inA 60 (Ld ns) (i + 1) s' := by
    rintro i d s hi hdm ⟨ds, k, rest, turn, st, rfl, hd, hl⟩
    obtain ⟨k', hk', rfl⟩ := mem_rng hdm
    have hi : i < 63 := by
      have : (rngV 0 ns.length).length = ns.length := by simp [rngV]
      omega
    refine ⟨[some (Ld ns), some (Ld ds), some (.int k'), rest, turn, st], ?_⟩
    generalize hr : ((ns[k'].natAbs : Nat) : Int) = r
    have r0 : 0 ≤ r := by omega
    have e3 : evS (sgOf p n) (.set 3 (.bi .abs (.cons (.ix (.var 0) (.var 2)) (.nil)))) ([1], [some (Ld ns), some (Ld ds), some (.int k'), rest, turn, st]) = .nx ([1], [some (Ld ns), some (Ld ds), some (.int k'), some (.int r), turn, st]) := by
      simp only [evS, evE, evEs, List.getElem?_cons_succ, List.getElem?_cons_zero, bok, sok, abs_at ns k' hk', babs, hr, List.set_cons_succ, List.set_cons_zero]
      rfl
    unfold lwDraws2
    rw [evSs, e3]
    dsimp only
    rw [evSs]
    have h65 : (65536 : Int) ≠ 0 := by decide
    have l65 : (65536 : Int).natAbs.log2 < 9000 := by decide
    have hc : evE (sgOf p n) (.cmp .ge (.var 3) (.bin .pow (.int 10) (.int 18))) [some (Ld ns), some (Ld ds), some (.int k'), some (.int r), turn, st] = .ok (.bool (decide ((10 : Int) ^ 18 ≤ r))) := rfl
    by_cases c : (10 : Int) ^ 18 ≤ r
    · rw [evS]
      dsimp only
      rw [hc, bok, bO, sok]
      simp only [c, decide_true, if_true]
      have ep : pk (.cmp .ge (.var 3) (.bin .pow (.int 10) (.int 18))) = [] := rfl
      rw [ep, evSs, evS]
      have e5 : evIt (sgOf p n) (.r1 (.int 60)) [some (Ld ns), some (Ld ds), some (.int k'), some (.int r), turn, st] = .ok (rngV 0 60) := rfl
      dsimp only
      rw [e5, sok]
      have el5 : escItM true (.r1 (.int 60)) = [] := rfl
      rw [el5]
      have step2 : ∀ j d s, j < 0 + (rngV 0 60).length → d ∈ rngV 0 60 → inB (60 * i) (Ld ns) (some (.int k')) st j s → ∃ ρ1 s', tgSet (.nm 4) d s.2 = some ρ1 ∧ evSs (sgOf p n) lwDraws1 (s.1, ρ1) = .nx s' ∧ inB (60 * i) (Ld ns) (some (.int k')) st (j + 1) s' := by
        rintro j d s hj hdm ⟨ds2, rest2, turn2, rfl, hd2, hl2, hr2⟩
        have hj : j < 60 := by
          have : (rngV 0 60).length = 60 := by simp [rngV]
          omega
        refine ⟨[some (Ld ns), some (Ld ds2), some (.int k'), some (.int rest2), some d, st], ?_⟩
        unfold lwDraws1
        obtain ⟨m0, m1⟩ := fmodR rest2 (b := 65536) (by decide)
        by_cases c2 : 0 < rest2
        · refine ⟨([1], [some (Ld ns), some (Ld (ds2 ++ [rest2.fmod 65536])), some (.int k'), some (.int (rest2.fdiv 65536)), some d, st]), rfl, ?_, _, _, _, rfl, okD_snoc hd2 m0 m1, by rw [List.length_append, List.length_singleton]; omega, Int.fdiv_nonneg (by omega) (by decide)⟩
          have ea : evE (sgOf p n) (.bin .mod (.bi .int (.cons (.var 3) (.nil))) (.int 65536)) [some (Ld ns), some (Ld ds2), some (.int k'), some (.int rest2), some d, st] = .ok (.int (rest2.fmod 65536)) := by
            simp only [evE, evEs, List.getElem?_cons_succ, List.getElem?_cons_zero, bok, bint, vmod _ _ h65]
          have eb := app1 (S := sgOf p n) (ρ := [some (Ld ns), some (Ld ds2), some (.int k'), some (.int rest2), some d, st]) rfl ea rfl (by rw [List.length_map]; omega)
          rw [snoc] at eb
          rw [evSs, evS]
          have ec : evE (sgOf p n) (.cmp .gt (.var 3) (.int 0)) [some (Ld ns), some (Ld ds2), some (.int k'), some (.int rest2), some d, st] = .ok (.bool true) := by
            simp only [evE, List.getElem?_cons_succ, List.getElem?_cons_zero, bok, cgt, c2, decide_true]
          dsimp only
          rw [ec, bok, bO, sok, if_pos rfl, show Fe.dl [1] (pk (.cmp .gt (.var 3) (.int 0))) = [1] from rfl, evSs, eb]
          simp only [evSs, evS, evE, List.getElem?_cons_succ, List.getElem?_cons_zero, bok, sok, vfdiv _ _ h65 l65, List.set_cons_succ, List.set_cons_zero]
          rfl
        · refine ⟨([1], [some (Ld ns), some (Ld ds2), some (.int k'), some (.int rest2), some d, st]), rfl, ?_, _, _, _, rfl, hd2, by omega, hr2⟩
          simp only [evSs, evS, evE, evEs, List.getElem?_cons_succ, List.getElem?_cons_zero, bok, sok, cgt, bO, c2, decide_false, Bool.false_eq_true, if_false]
          rfl
      obtain ⟨s', q, ⟨ds2, rest2, turn2, rfl, hd2, hl2, _⟩⟩ := forGo_ix (t := .nm 4) (inB (60 * i) (Ld ns) (some (.int k')) st) (rngV 0 60) 0 (Fe.dl (Fe.dl [1] []) [], [some (Ld ns), some (Ld ds), some (.int k'), some (.int r), turn, st]) ⟨ds, r, turn, rfl, hd, hl, r0⟩ step2
      rw [q]
      dsimp only
      refine ⟨_, rfl, rfl, ds2, _, _, _, _, rfl, hd2, ?_⟩
      have : (rngV 0 60).length = 60 := by simp [rngV]
      omega
    · rw [evS]
      dsimp only
      rw [hc, bok, bO, sok]
      simp only [c, decide_false, Bool.false_eq_true, if_false]
      have ep : pk (.cmp .ge (.var 3) (.bin .pow (.int 10) (.int 18))) = [] := rfl
      rw [ep, show Fe.dl [1] [] = [1] from rfl]
      have c' : r < 1000000000000000000 := by
        have : (10 : Int) ^ 18 = 1000000000000000000 := by decide
        omega
      have lr : r.natAbs.log2 < 60 := log_lt (by omega) (by decide)
      have lk : ((k' : Int) + 1).natAbs.log2 < 60 := log_lt (by omega) (by decide)
      have lk2 : ((k' : Int)).natAbs.log2 < 60 := log_lt (by omega) (by decide)
      have la : (48271 : Int).natAbs.log2 < 60 := by decide
      have lb : (69621 : Int).natAbs.log2 < 60 := by decide
      have lc : (16807 : Int).natAbs.log2 < 60 := by decide
      have le : (11 : Int).natAbs.log2 < 60 := by decide
      obtain ⟨m0, m1⟩ := fmodR (r * 48271 + (k' + 1) * 69621) (b := 2147483647) (by decide)
      generalize hu : (r * 48271 + ((k' : Int) + 1) * 69621).fmod 2147483647 = u at m0 m1
      have lu : u.natAbs.log2 < 60 := log_lt (by omega) (by decide)
      obtain ⟨w0, w1⟩ := fmodR (u * 16807 + 11 * k' + 5) (b := 2147483629) (by decide)
      generalize hw : (u * 16807 + 11 * (k' : Int) + 5).fmod 2147483629 = v at w0 w1
      have hm1 : (2147483647 : Int) ≠ 0 := by decide
      have hm2 : (2147483629 : Int) ≠ 0 := by decide
      have hm3 : (32768 : Int) ≠ 0 := by decide
      obtain ⟨x0, x1⟩ := fmodR v (b := 65536) (by decide)
      obtain ⟨y0, y1⟩ := fmodR (v.fdiv 65536) (b := 32768) (by decide)
      have s1 : evS (sgOf p n) (.set 5 (.bin .mod (.bi .int (.cons (.bin .add (.bin .mul (.var 3) (.int 48271)) (.bin .mul (.bin .add (.var 2) (.int 1)) (.int 69621))) (.nil))) (.int 2147483647))) ([1], [some (Ld ns), some (Ld ds), some (.int k'), some (.int r), turn, st]) = .nx ([1], [some (Ld ns), some (Ld ds), some (.int k'), some (.int r), turn, some (.int u)]) := by
        simp only [evS, evE, evEs, List.getElem?_cons_succ, List.getElem?_cons_zero, bok, sok, vmul _ _ (show r.natAbs.log2 + (48271 : Int).natAbs.log2 < 1000000 by omega), vadd, vmul _ _ (show ((k' : Int) + 1).natAbs.log2 + (69621 : Int).natAbs.log2 < 1000000 by omega), bint, vmod _ _ hm1, hu, List.set_cons_succ, List.set_cons_zero]
        rfl
      have s2 : evS (sgOf p n) (.set 5 (.bin .mod (.bi .int (.cons (.bin .add (.bin .add (.bin .mul (.var 5) (.int 16807)) (.bin .mul (.int 11) (.var 2))) (.int 5)) (.nil))) (.int 2147483629))) ([1], [some (Ld ns), some (Ld ds), some (.int k'), some (.int r), turn, some (.int u)]) = .nx ([1], [some (Ld ns), some (Ld ds), some (.int k'), some (.int r), turn, some (.int v)]) := by
        simp only [evS, evE, evEs, List.getElem?_cons_succ, List.getElem?_cons_zero, bok, sok, vmul _ _ (show u.natAbs.log2 + (16807 : Int).natAbs.log2 < 1000000 by omega), vadd, vmul _ _ (show (11 : Int).natAbs.log2 + ((k' : Int)).natAbs.log2 < 1000000 by omega), bint, vmod _ _ hm2, hw, List.set_cons_succ, List.set_cons_zero]
        rfl
      have ea : evE (sgOf p n) (.bin .mod (.bi .int (.cons (.var 5) (.nil))) (.int 65536)) [some (Ld ns), some (Ld ds), some (.int k'), some (.int r), turn, some (.int v)] = .ok (.int (v.fmod 65536)) := by
        simp only [evE, evEs, List.getElem?_cons_succ, List.getElem?_cons_zero, bok, bint, vmod _ _ h65]
      have eb := app1 (S := sgOf p n) (ρ := [some (Ld ns), some (Ld ds), some (.int k'), some (.int r), turn, some (.int v)]) rfl ea rfl (by rw [List.length_map]; omega)
      rw [snoc] at eb
      have ec : evE (sgOf p n) (.bin .mod (.bi .int (.cons (.bin .fdiv (.var 5) (.int 65536)) (.nil))) (.int 32768)) [some (Ld ns), some (Ld (ds ++ [v.fmod 65536])), some (.int k'), some (.int r), turn, some (.int v)] = .ok (.int ((v.fdiv 65536).fmod 32768)) := by
        simp only [evE, evEs, List.getElem?_cons_succ, List.getElem?_cons_zero, bok, bint, vmod _ _ hm3, vfdiv _ _ h65 l65]
      have ed := app1 (S := sgOf p n) (ρ := [some (Ld ns), some (Ld (ds ++ [v.fmod 65536])), some (.int k'), some (.int r), turn, some (.int v)]) rfl ec rfl (by rw [List.length_map, List.length_append, List.length_singleton]; omega)
      rw [snoc] at ed
      rw [evSs, s1]
      dsimp only
      rw [evSs, s2]
      dsimp only
      rw [evSs, eb]
      dsimp only
      simp only [List.set_cons_succ, List.set_cons_zero]
      rw [evSs, ed]
      dsimp only
      simp only [List.set_cons_succ, List.set_cons_zero]
      rw [evSs]
      dsimp only
      rw [evSs]
      refine ⟨_, rfl, rfl, _, _, _, _, _, rfl, okD_snoc (okD_snoc hd x0 x1) y0 (by omega), ?_⟩
      rw [List.length_append, List.length_append, List.length_singleton, List.length_singleton]
      omega
  obtain ⟨s', q, ⟨ds, k, rest, turn, st, rfl, hd, _⟩⟩ := forGo_ix (t := .nm 2) (inA 60 (Ld ns)) (rngV 0 ns.length) 0 (Fe.dl [1] [], [some (Ld ns), some (Ld []), none, none, none, none]) ⟨[], none, none, none, none, rfl, fun _ z => (nomatch z), by simp⟩ step
  rw [q]
  exact ⟨ds, rfl, hd⟩
/-! ### comprehensions over known items -/
theorem compGo_map {f : PD → R (Option PD)} {g : PD → PD} : ∀ L : List PD, (∀ d ∈ L, f d = .ok (some (g d))) → compGo f L = .ok (L.map g)
  | [], _ => rfl
  | d :: L, h => by
    rw [compGo, h d (List.mem_cons_self ..)]
    dsimp only
    rw [compGo_map L fun d hd => h d (List.mem_cons_of_mem _ hd)]
    rfl
end Fe
set_option Elab.async false
set_option linter.all false
set_option maxRecDepth 100000
set_option maxHeartbeats 4000000
namespace Fe
/-- numbers of few bits -/
class Bd (x : Int) (k : outParam Nat) : Prop where
  h : x.natAbs < 2 ^ k
theorem p2le {i j : Nat} (h : i ≤ j) : 2 ^ i ≤ 2 ^ j := Nat.pow_le_pow_right (by decide) h
theorem p2s (i : Nat) : 2 ^ (i + 1) = 2 * 2 ^ i := by rw [Nat.pow_succ]; omega
instance Bd.add {a b : Int} {i j : Nat} [A : Bd a i] [B : Bd b j] : Bd (a + b) (max i j + 1) := ⟨by
  have := A.h; have := B.h
  have := p2le (Nat.le_max_left i j); have := p2le (Nat.le_max_right i j)
  rw [p2s]; omega⟩
instance Bd.sub {a b : Int} {i j : Nat} [A : Bd a i] [B : Bd b j] : Bd (a - b) (max i j + 1) := ⟨by
  have := A.h; have := B.h
  have := p2le (Nat.le_max_left i j); have := p2le (Nat.le_max_right i j)
  rw [p2s]; omega⟩
instance Bd.neg {a : Int} {i : Nat} [A : Bd a i] : Bd (-a) i := ⟨by rw [Int.natAbs_neg]; exact A.h⟩
instance Bd.mul {a b : Int} {i j : Nat} [A : Bd a i] [B : Bd b j] : Bd (a * b) (i + j) := ⟨by
  rw [Int.natAbs_mul, Nat.pow_add]
  exact Nat.mul_lt_mul'' A.h B.h⟩
instance (priority := low) Bd.lit (n : Nat) : Bd (no_index (OfNat.ofNat n)) (n.log2 + 1) := ⟨by
  show n < _
  exact Nat.lt_log2_self⟩
instance Bd.ite {c : Prop} [Decidable c] {a b : Int} {i j : Nat} [A : Bd a i] [B : Bd b j] : Bd (if c then a else b) (max i j) := ⟨by
  have := A.h; have := B.h
  have := p2le (Nat.le_max_left i j); have := p2le (Nat.le_max_right i j)
  split <;> omega⟩
theorem Bd.up {a : Int} {i : Nat} (A : Bd a i) {j : Nat} (h : i ≤ j) : Bd a j := ⟨Nat.lt_of_lt_of_le A.h (p2le h)⟩
theorem Bd.of {a : Int} {m : Nat} (k : Nat) (h : a.natAbs ≤ m) (h2 : m < 2 ^ k) : Bd a k := ⟨Nat.lt_of_le_of_lt h h2⟩
/-- fractions of few bits -/
class BdQ (q : Rat) (k : outParam Nat) : Prop where
  n : q.num.natAbs < 2 ^ k
  d : q.den < 2 ^ k
theorem rat_num (q : Rat) : q = (q.num : Rat) / ((q.den : Int) : Rat) := by
  have := Rat.num_divInt_den q
  rw [Rat.divInt_eq_div] at this
  exact this.symm
theorem rat_of {n : Int} {d : Nat} (hd : d ≠ 0) (h : n.natAbs.Coprime d) : ((n : Rat) / ((d : Int) : Rat)) = ⟨n, d, hd, h⟩ := by
  rw [Rat.mk_eq_divInt, Rat.divInt_eq_div]
theorem cast_ne {d : Int} (h : d ≠ 0) : (d : Rat) ≠ 0 := by
  intro z
  have : (d : Rat) = ((0 : Int) : Rat) := z
  exact h (Rat.intCast_inj.mp this)
/-- a fraction n / d has parts that divide n and d -/
theorem rat_div_le {n d : Int} (h : d ≠ 0) : ((n : Rat) / (d : Rat)).num.natAbs ≤ n.natAbs ∧ ((n : Rat) / (d : Rat)).den ≤ d.natAbs := by
  generalize hq : (n : Rat) / (d : Rat) = q
  have e : n * (q.den : Int) = q.num * d := by
    have h1 := rat_num q
    rw [← hq] at h1
    rw [hq] at h1
    have hd := cast_ne h
    have hd2 : (((q.den : Nat) : Int) : Rat) ≠ 0 := cast_ne (by have := q.den_nz; omega)
    have : (n : Rat) * ((q.den : Int) : Rat) = (q.num : Rat) * (d : Rat) := by
      have h3 : (n : Rat) / d = (q.num : Rat) / ((q.den : Int) : Rat) := by rw [hq]; exact h1
      grind
    rw [← Rat.intCast_mul, ← Rat.intCast_mul] at this
    exact Rat.intCast_inj.mp this
  have en : n.natAbs * q.den = q.num.natAbs * d.natAbs := by
    have := congrArg Int.natAbs e
    rw [Int.natAbs_mul, Int.natAbs_mul] at this
    simpa using this
  have cop := q.reduced
  have h1 : q.den ∣ d.natAbs := (Nat.Coprime.dvd_of_dvd_mul_left cop.symm ⟨n.natAbs, by rw [← en, Nat.mul_comm]⟩)
  have hle : q.den ≤ d.natAbs := Nat.le_of_dvd (by omega) h1
  refine ⟨?_, hle⟩
  obtain ⟨c, hc⟩ := h1
  rw [hc] at en
  have dp : 0 < q.den := Nat.pos_of_ne_zero q.den_nz
  have : n.natAbs = q.num.natAbs * c := by
    have : q.den * n.natAbs = q.den * (q.num.natAbs * c) := by rw [Nat.mul_comm, en]; ac_rfl
    exact Nat.eq_of_mul_eq_mul_left dp this
  have c0 : 0 < c := by
    rcases Nat.eq_zero_or_pos c with z | z
    · subst z; omega
    · exact z
  rw [this]
  exact Nat.le_mul_of_pos_right _ c0
theorem BdQ.of_div {q : Rat} {n d : Int} {k : Nat} (h : d ≠ 0) (e : q = (n : Rat) / (d : Rat)) (hn : n.natAbs < 2 ^ k) (hd : d.natAbs < 2 ^ k) : BdQ q k := by
  subst e
  obtain ⟨a, b⟩ := rat_div_le (n := n) h
  exact ⟨Nat.lt_of_le_of_lt a hn, Nat.lt_of_le_of_lt b hd⟩
theorem den_ne (q : Rat) : (q.den : Int) ≠ 0 := by have := q.den_nz; omega
theorem den_cast (q : Rat) : (((q.den : Nat) : Int) : Rat) ≠ 0 := cast_ne (den_ne q)
theorem mul_ne {a b : Int} (h : a ≠ 0) (h2 : b ≠ 0) : a * b ≠ 0 := Int.mul_ne_zero h h2
theorem rat_add (x y : Rat) : x + y = ((x.num * (y.den : Int) + y.num * (x.den : Int) : Int) : Rat) / (((x.den : Int) * (y.den : Int) : Int) : Rat) := by
  have hx := den_cast x; have hy := den_cast y
  have ex := rat_num x; have ey := rat_num y
  rw [Rat.intCast_add, Rat.intCast_mul, Rat.intCast_mul, Rat.intCast_mul]
  generalize (x.num : Rat) = a at *
  generalize (y.num : Rat) = b at *
  generalize ((x.den : Int) : Rat) = c at *
  generalize ((y.den : Int) : Rat) = d at *
  subst ex ey
  grind
theorem rat_sub (x y : Rat) : x - y = ((x.num * (y.den : Int) - y.num * (x.den : Int) : Int) : Rat) / (((x.den : Int) * (y.den : Int) : Int) : Rat) := by
  have hx := den_cast x; have hy := den_cast y
  have ex := rat_num x; have ey := rat_num y
  rw [Rat.intCast_sub, Rat.intCast_mul, Rat.intCast_mul, Rat.intCast_mul]
  generalize (x.num : Rat) = a at *
  generalize (y.num : Rat) = b at *
  generalize ((x.den : Int) : Rat) = c at *
  generalize ((y.den : Int) : Rat) = d at *
  subst ex ey
  grind
theorem rat_mul (x y : Rat) : x * y = ((x.num * y.num : Int) : Rat) / (((x.den : Int) * (y.den : Int) : Int) : Rat) := by
  have hx := den_cast x; have hy := den_cast y
  have ex := rat_num x; have ey := rat_num y
  rw [Rat.intCast_mul, Rat.intCast_mul]
  generalize (x.num : Rat) = a at *
  generalize (y.num : Rat) = b at *
  generalize ((x.den : Int) : Rat) = c at *
  generalize ((y.den : Int) : Rat) = d at *
  subst ex ey
  grind
theorem num_ne {y : Rat} (h : y ≠ 0) : y.num ≠ 0 := fun z => h (by have := rat_num y; rw [z] at this; rw [this, Rat.intCast_zero]; grind)
theorem rat_div (x y : Rat) (h : y ≠ 0) : x / y = ((x.num * (y.den : Int) : Int) : Rat) / (((x.den : Int) * y.num : Int) : Rat) := by
  have hx := den_cast x; have hy := den_cast y
  have hn := cast_ne (num_ne h)
  have ex := rat_num x; have ey := rat_num y
  rw [Rat.intCast_mul, Rat.intCast_mul]
  generalize (x.num : Rat) = a at *
  generalize (y.num : Rat) = b at *
  generalize ((x.den : Int) : Rat) = c at *
  generalize ((y.den : Int) : Rat) = d at *
  subst ex ey
  grind
instance BdQ.add {x y : Rat} {i j : Nat} [A : BdQ x i] [B : BdQ y j] : BdQ (x + y) (i + j + 1) := by
  have h1 := Nat.mul_lt_mul'' A.n B.d; have h2 := Nat.mul_lt_mul'' B.n A.d; have h3 := Nat.mul_lt_mul'' A.d B.d
  rw [← Nat.pow_add] at h1 h2 h3
  rw [Nat.add_comm j i] at h2
  refine BdQ.of_div (mul_ne (den_ne x) (den_ne y)) (rat_add x y) ?_ ?_
  · rw [p2s]
    have : (x.num * (y.den : Int)).natAbs = x.num.natAbs * y.den := by rw [Int.natAbs_mul]; rfl
    have : (y.num * (x.den : Int)).natAbs = y.num.natAbs * x.den := by rw [Int.natAbs_mul]; rfl
    omega
  · rw [p2s]
    have : ((x.den : Int) * (y.den : Int)).natAbs = x.den * y.den := by rw [Int.natAbs_mul]; rfl
    omega
instance BdQ.sub {x y : Rat} {i j : Nat} [A : BdQ x i] [B : BdQ y j] : BdQ (x - y) (i + j + 1) := by
  have h1 := Nat.mul_lt_mul'' A.n B.d; have h2 := Nat.mul_lt_mul'' B.n A.d; have h3 := Nat.mul_lt_mul'' A.d B.d
  rw [← Nat.pow_add] at h1 h2 h3
  rw [Nat.add_comm j i] at h2
  refine BdQ.of_div (mul_ne (den_ne x) (den_ne y)) (rat_sub x y) ?_ ?_
  · rw [p2s]
    have : (x.num * (y.den : Int)).natAbs = x.num.natAbs * y.den := by rw [Int.natAbs_mul]; rfl
    have : (y.num * (x.den : Int)).natAbs = y.num.natAbs * x.den := by rw [Int.natAbs_mul]; rfl
    omega
  · rw [p2s]
    have : ((x.den : Int) * (y.den : Int)).natAbs = x.den * y.den := by rw [Int.natAbs_mul]; rfl
    omega
instance BdQ.mul {x y : Rat} {i j : Nat} [A : BdQ x i] [B : BdQ y j] : BdQ (x * y) (i + j) := by
  have h1 := Nat.mul_lt_mul'' A.n B.n; have h3 := Nat.mul_lt_mul'' A.d B.d
  rw [← Nat.pow_add] at h1 h3
  refine BdQ.of_div (mul_ne (den_ne x) (den_ne y)) (rat_mul x y) ?_ ?_
  · rw [Int.natAbs_mul]; exact h1
  · rw [Int.natAbs_mul]; exact h3
theorem BdQ.pos {x : Rat} {i : Nat} [A : BdQ x i] : 1 < 2 ^ i := by
  have := A.d; have := x.den_nz; omega
instance BdQ.div {x y : Rat} {i j : Nat} [A : BdQ x i] [B : BdQ y j] : BdQ (x / y) (i + j) := by
  by_cases h : y = 0
  · subst h
    have p := BdQ.pos (x := x) (i := i)
    have : x / 0 = 0 := by grind
    rw [this]
    have : 2 ^ i ≤ 2 ^ (i + j) := p2le (by omega)
    refine ⟨?_, ?_⟩
    · show 0 < _; omega
    · show 1 < _; omega
  · have h1 := Nat.mul_lt_mul'' A.n B.d; have h3 := Nat.mul_lt_mul'' A.d B.n
    rw [← Nat.pow_add] at h1 h3
    refine BdQ.of_div (mul_ne (den_ne x) (num_ne h)) (rat_div x y h) ?_ ?_
    · rw [Int.natAbs_mul]; exact h1
    · rw [Int.natAbs_mul]; exact h3
instance BdQ.neg {x : Rat} {i : Nat} [A : BdQ x i] : BdQ (-x) i := ⟨by show (-x.num).natAbs < _; rw [Int.natAbs_neg]; exact A.n, A.d⟩
instance BdQ.int {a : Int} {i : Nat} [A : Bd a i] : BdQ (a : Rat) (i + 1) := ⟨by
  rw [Rat.num_intCast, p2s]; have := A.h; omega, by
  rw [Rat.den_intCast, p2s]; have : 0 < 2 ^ i := Nat.pow_pos (by decide); omega⟩
instance (priority := low) BdQ.lit (n : Nat) : BdQ (no_index (OfNat.ofNat n)) (n.log2 + 2) := by
  have A := Bd.lit n
  have : (OfNat.ofNat n : Rat) = ((OfNat.ofNat n : Int) : Rat) := rfl
  rw [this]
  exact BdQ.int
theorem BdQ.up {a : Rat} {i : Nat} (A : BdQ a i) {j : Nat} (h : i ≤ j) : BdQ a j := ⟨Nat.lt_of_lt_of_le A.n (p2le h), Nat.lt_of_lt_of_le A.d (p2le h)⟩
instance Bd.num {q : Rat} {i : Nat} [A : BdQ q i] : Bd q.num i := ⟨A.n⟩
instance Bd.den {q : Rat} {i : Nat} [A : BdQ q i] : Bd (q.den : Int) i := ⟨A.d⟩
end Fe
namespace Fe
open PySem PySem.Spec PyProof.Rows L2
/-! ### fractions -/
def QD (q : Rat) : PD := P q.num q.den
theorem QD_eq {n d : Int} (hd : 0 < d) (h : Nat.gcd n.natAbs d.natAbs = 1) : P n d = QD ((n : Rat) / (d : Rat)) := by
  obtain ⟨k, rfl⟩ : ∃ k : Nat, d = (k : Int) := ⟨d.toNat, by omega⟩
  have hk : k ≠ 0 := by omega
  rw [rat_of hk (by simpa using h)]
  rfl
theorem lo_QD {a b : Int} (h : b ≠ 0) : lo a b = QD ((a : Rat) / (b : Rat)) := by
  have hg := gg_pos (a := a) h
  have g1 : gg a b ∣ a := Int.ofNat_dvd_left.mpr (Nat.gcd_dvd_left ..)
  have g2 : gg a b ∣ b := Int.ofNat_dvd_left.mpr (Nat.gcd_dvd_right ..)
  obtain ⟨n, hn⟩ := g1
  obtain ⟨d, hd⟩ := g2
  have gp : 0 < Nat.gcd a.natAbs b.natAbs := by unfold gg at hg; omega
  have cop : Nat.gcd n.natAbs d.natAbs = 1 := by
    have e1 : a.natAbs = Nat.gcd a.natAbs b.natAbs * n.natAbs := by
      have := congrArg Int.natAbs hn
      rw [Int.natAbs_mul] at this
      exact this
    have e2 : b.natAbs = Nat.gcd a.natAbs b.natAbs * d.natAbs := by
      have := congrArg Int.natAbs hd
      rw [Int.natAbs_mul] at this
      exact this
    have : Nat.gcd a.natAbs b.natAbs * Nat.gcd n.natAbs d.natAbs = Nat.gcd a.natAbs b.natAbs * 1 := by
      rw [← Nat.gcd_mul_left, ← e1, ← e2, Nat.mul_one]
    exact Nat.eq_of_mul_eq_mul_left gp this
  have d0 : d ≠ 0 := fun z => h (by rw [hd, z, Int.mul_zero])
  have gr := cast_ne (show gg a b ≠ 0 by omega)
  unfold lo kk
  by_cases c : b < 0
  · rw [if_pos c]
    have k0 : -gg a b ≠ 0 := by omega
    have ea : a = -gg a b * -n := by rw [Int.neg_mul_neg]; exact hn
    have eb : b = -gg a b * -d := by rw [Int.neg_mul_neg]; exact hd
    have f1 : a.fdiv (-gg a b) = -n := by
      generalize -gg a b = g at *
      rw [ea]; exact Int.mul_fdiv_cancel_left _ k0
    have f2 : b.fdiv (-gg a b) = -d := by
      generalize -gg a b = g at *
      rw [eb]; exact Int.mul_fdiv_cancel_left _ k0
    rw [f1, f2]
    have dn : d < 0 := by
      by_cases z : d < 0
      · exact z
      · have : 0 ≤ gg a b * d := Int.mul_nonneg (by omega) (by omega)
        omega
    rw [QD_eq (by omega) (by rw [Int.natAbs_neg, Int.natAbs_neg]; exact cop)]
    congr 1
    have dr := cast_ne d0
    have e1 : (a : Rat) = (gg a b : Rat) * (n : Rat) := by rw [← Rat.intCast_mul, ← hn]
    have e2 : (b : Rat) = (gg a b : Rat) * (d : Rat) := by rw [← Rat.intCast_mul, ← hd]
    rw [e1, e2, Rat.intCast_neg, Rat.intCast_neg]
    grind
  · rw [if_neg c]
    have k0 : gg a b ≠ 0 := by omega
    have f1 : a.fdiv (gg a b) = n := by
      generalize gg a b = g at *
      rw [hn]; exact Int.mul_fdiv_cancel_left _ k0
    have f2 : b.fdiv (gg a b) = d := by
      generalize gg a b = g at *
      rw [hd]; exact Int.mul_fdiv_cancel_left _ k0
    rw [f1, f2]
    have dn : 0 < d := by
      by_cases z : 0 < d
      · exact z
      · have : gg a b * d ≤ 0 := Int.mul_nonpos_of_nonneg_of_nonpos (by omega) (by omega)
        omega
    rw [QD_eq dn cop]
    congr 1
    have dr := cast_ne d0
    have e1 : (a : Rat) = (gg a b : Rat) * (n : Rat) := by rw [← Rat.intCast_mul, ← hn]
    have e2 : (b : Rat) = (gg a b : Rat) * (d : Rat) := by rw [← Rat.intCast_mul, ← hd]
    rw [e1, e2]
    grind
theorem QD_inj {x y : Rat} (h : QD x = QD y) : x = y := by
  unfold QD P at h
  injection h with h
  injection h with h1 h
  injection h with h2 _
  injection h1 with h1
  injection h2 with h2
  exact Rat.ext h1 (by omega)
theorem q0 (x : Rat) : ixV (QD x) (.int 0) = .ok (.int x.num) := rfl
theorem q1 (x : Rat) : ixV (QD x) (.int 1) = .ok (.int x.den) := rfl
theorem eqv_QD (x y : Rat) : PyData.eqv (QD x) (QD y) = decide (x = y) := by
  show (x.num == y.num && ((x.den : Int) == (y.den : Int) && true)) = _
  rw [Bool.eq_iff_iff]
  simp only [Bool.and_true, Bool.and_eq_true, beq_iff_eq, decide_eq_true_eq]
  constructor
  · rintro ⟨a, b⟩; exact Rat.ext a (by omega)
  · rintro rfl; exact ⟨rfl, rfl⟩
theorem eqv_int (x y : Int) : PyData.eqv (.int x) (.int y) = decide (x = y) := by
  show (x == y) = _
  rw [Bool.eq_iff_iff]; simp
theorem eqv_str (x y : Str) : PyData.eqv (.str x) (.str y) = decide (x = y) := by
  show (x == y) = _
  rw [Bool.eq_iff_iff]; simp
mutual
theorem eqv_self : ∀ d : PD, noD d = true → PyData.eqv d d = true
  | .none, _ => rfl
  | .bool b, _ => by simp [PyData.eqv]
  | .int b, _ => by simp [PyData.eqv]
  | .str b, _ => by simp [PyData.eqv]
  | .list xs, h => by rw [PyData.eqv]; exact eqvs_self xs (by simpa [noD] using h)
  | .tuple xs, h => by rw [PyData.eqv]; exact eqvs_self xs (by simpa [noD] using h)
  | .dict _, h => by simp [noD] at h
theorem eqvs_self : ∀ d : List PD, noDs d = true → PyData.eqvAll d d = true
  | [], _ => rfl
  | x :: xs, h => by
    have h := Bool.and_eq_true_iff.mp (by simpa [noDs] using h)
    rw [PyData.eqvAll, eqv_self x h.1, eqvs_self xs h.2]
    rfl
end
theorem ceqG {d e : PD} (h : eqOk d e = true) : cmpV .eq d e = .ok (.bool (PyData.eqv d e)) := by
  cases d <;> cases e <;> simp only [cmpV, h, if_true]
theorem cneG {d e : PD} (h : eqOk d e = true) : cmpV .ne d e = .ok (.bool (!PyData.eqv d e)) := by
  cases d <;> cases e <;> simp only [cmpV, h, if_true]
theorem eqOk_noD {d e : PD} (h : eqOk d e = true) : noD d = true := by
  unfold eqOk at h
  simp only [Bool.and_eq_true] at h
  exact h.1.1.1
theorem ceqS {d : PD} (h : eqOk d d = true) : cmpV .eq d d = .ok (.bool true) := by
  rw [ceqG h, eqv_self d (eqOk_noD h)]
theorem cneS {d : PD} (h : eqOk d d = true) : cmpV .ne d d = .ok (.bool false) := by
  rw [cneG h, eqv_self d (eqOk_noD h)]; rfl
theorem ceqQ (x y : Rat) : cmpV .eq (QD x) (QD y) = .ok (.bool (decide (x = y))) := by rw [ceqG rfl, eqv_QD]
theorem cneQ (x y : Rat) : cmpV .ne (QD x) (QD y) = .ok (.bool (!decide (x = y))) := by rw [cneG rfl, eqv_QD]
theorem ceqT (x y : Str) : cmpV .eq (.str x) (.str y) = .ok (.bool (decide (x = y))) := by rw [ceqG rfl, eqv_str]
theorem cneT (x y : Str) : cmpV .ne (.str x) (.str y) = .ok (.bool (!decide (x = y))) := by rw [cneG rfl, eqv_str]
/-! ### arithmetic with bounds -/
theorem Bd.log {a : Int} {i : Nat} (A : Bd a i) : a.natAbs.log2 ≤ i := by
  by_cases c : a.natAbs = 0
  · rw [c]; exact Nat.zero_le _
  · exact Nat.le_of_lt ((Nat.log2_lt c).mpr A.h)
theorem bmul (a b : Int) {i j : Nat} [A : Bd a i] [B : Bd b j] (h : i + j < 1000000) : binV .mul (.int a) (.int b) = .ok (.int (a * b)) := vmul a b (by have := A.log; have := B.log; omega)
theorem bfdiv (a b : Int) {j : Nat} [B : Bd b j] (h0 : b ≠ 0) (h : j < 9000) : binV .fdiv (.int a) (.int b) = .ok (.int (a.fdiv b)) := vfdiv a b h0 (by have := B.log; omega)
theorem bmod (a b : Int) (h0 : b ≠ 0) : binV .mod (.int a) (.int b) = .ok (.int (a.fmod b)) := vmod a b h0
theorem boolI (b : Bool) : biV .int [.bool b] = .ok (.int (if b = true then 1 else 0)) := rfl
/-! ### draws -/
def mixF (ds : List Int) (k many : Int) : Int :=
  if many ≤ 0 then 0 else
  let cell := if ds.length = 0 then 0 else (ds[(k.fmod ds.length).toNat]?).getD 0
  if k < ds.length then cell.fmod many else ((cell * 7919 + k * 104729).fdiv 3).fmod many
theorem mix0 (ds : List Int) (k many : Int) : 0 ≤ mixF ds k many := by
  unfold mixF
  split
  · omega
  · dsimp only
    split <;> exact (fmodR _ (by omega)).1
theorem mixL (ds : List Int) (k many : Int) (h : 0 < many) : mixF ds k many < many := by
  unfold mixF
  rw [if_neg (by omega)]
  dsimp only
  split <;> exact (fmodR _ (by omega)).2
instance Bd.mix {ds : List Int} {k many : Int} {i : Nat} [A : Bd many i] : Bd (mixF ds k many) i := ⟨by
  have h0 := mix0 ds k many
  have := A.h
  by_cases c : 0 < many
  · have := mixL ds k many c
    omega
  · have : mixF ds k many = 0 := by unfold mixF; rw [if_pos (by omega)]
    rw [this]
    exact Nat.pow_pos (by decide)⟩
theorem ev_mixF {p : Pg} {i : Nat} (n : Nat) {ds : List Int} (hd : okD ds) (k many : Int) (hk : 0 ≤ k) (hk2 : k < 10000) (hm : 0 < many) (e : evF p (n + 1) i [Ld ds, .int k, .int many] = fin (evSs (sgOf p n) lwMix ([], [some (Ld ds), some (.int k), some (.int many), none]))) : evF p (n + 1) i [Ld ds, .int k, .int many] = .ok (.int (mixF ds k many)) := by
  rw [e]
  unfold lwMix mixF
  rw [if_neg (by omega)]
  dsimp only
  have hm0 : many ≠ 0 := by omega
  have h3 : (3 : Int).natAbs.log2 < 9000 := by decide
  have lk : k.natAbs.log2 < 60 := log_lt (by omega) (by decide)
  have l1 : (104729 : Int).natAbs.log2 < 60 := by decide
  have l2 : (7919 : Int).natAbs.log2 < 60 := by decide
  have mk : binV .mul (.int k) (.int 104729) = .ok (.int (k * 104729)) := vmul _ _ (by omega)
  by_cases c : 0 < ds.length
  · have cl : (0 : Int) < (ds.map PyData.int).length := by simpa using c
    have cn : ((ds.map PyData.int).length : Int) ≠ 0 := by omega
    obtain ⟨j0, j1⟩ := fmodR k cl
    rw [List.length_map] at j0 j1
    have hlt : (k.fmod (ds.length : Int)).toNat < ds.length := by omega
    obtain ⟨hx0, hx1⟩ := hd _ (List.getElem_mem hlt)
    have eg : (ds[(k.fmod (ds.length : Int)).toNat]?).getD 0 = ds[(k.fmod (ds.length : Int)).toNat] := by
      rw [List.getElem?_eq_getElem hlt]; rfl
    rw [if_neg (show ¬ ds.length = 0 by omega), eg]
    have ex : ixV (.list (ds.map PyData.int)) (.int (k.fmod ((ds.map PyData.int).length : Int))) = .ok (.int ds[(k.fmod (ds.length : Int)).toNat]) := by
      rw [List.length_map]
      show (match atI (ds.map PyData.int) (k.fmod (ds.length : Int)) with | some d => R.ok d | none => .bad) = _
      have : atI (ds.map PyData.int) (k.fmod (ds.length : Int)) = some (.int ds[(k.fmod (ds.length : Int)).toNat]) := by
        unfold atI ixN
        rw [if_pos j0, if_pos (by rw [List.length_map]; omega)]
        simp [hlt]
      rw [this]
    generalize ds[(k.fmod (ds.length : Int)).toNat] = x at *
    have lx : x.natAbs.log2 < 60 := log_lt (by omega) (by decide)
    have mx : binV .mul (.int x) (.int 7919) = .ok (.int (x * 7919)) := vmul _ _ (by omega)
    by_cases c2 : k < ds.length
    · have c3 : k < (ds.map PyData.int).length := by simpa using c2
      rw [if_pos c2]
      simp only [evSs, evS, evEs, evE, List.getElem?_cons_succ, List.getElem?_cons_zero, bok, sok, cgt, clt, bO, blen, bint, cl, c3, decide_true, if_true, vmod _ _ cn, vmod _ _ hm0, ex, dl0, List.set_cons_succ, List.set_cons_zero, frt]
    · have c3 : ¬ k < (ds.map PyData.int).length := by simpa using c2
      rw [if_neg c2]
      simp only [evSs, evS, evEs, evE, List.getElem?_cons_succ, List.getElem?_cons_zero, bok, sok, cgt, clt, bO, blen, bint, cl, c3, decide_true, decide_false, if_true, if_false, Bool.false_eq_true, vmod _ _ cn, vmod _ _ hm0, ex, dl0, List.set_cons_succ, List.set_cons_zero, frt, mx, mk, vadd, vfdiv _ _ (show (3 : Int) ≠ 0 by decide) h3]
  · have e0 : ds = [] := List.length_eq_zero_iff.mp (by omega)
    subst e0
    have c2 : ¬ k < ((([] : List Int).map PyData.int).length : Int) := by simp; omega
    have cl : ¬ (0 : Int) < ((([] : List Int).map PyData.int).length : Int) := by simp
    have mx : binV .mul (.int 0) (.int 7919) = .ok (.int (0 * 7919)) := rfl
    rw [if_neg (show ¬ k < (([] : List Int).length : Int) from c2), if_pos (show ([] : List Int).length = 0 from rfl)]
    simp only [evSs, evS, evEs, evE, List.getElem?_cons_succ, List.getElem?_cons_zero, bok, sok, cgt, clt, bO, blen, bint, cl, c2, decide_true, decide_false, if_true, if_false, Bool.false_eq_true, vmod _ _ hm0, dl0, List.set_cons_succ, List.set_cons_zero, frt, mx, mk, vadd, vfdiv _ _ (show (3 : Int) ≠ 0 by decide) h3]
def sgn (x : Rat) : Int := if 0 < x then 1 else if x < 0 then -1 else 0
theorem num_lt (x : Rat) : x.num < 0 ↔ x < 0 := by
  rw [Rat.lt_iff]; simp
theorem num_gt (x : Rat) : 0 < x.num ↔ 0 < x := by
  rw [Rat.lt_iff]; simp
theorem sgn_num (x : Rat) : (if decide (0 < x.num) = true then (1 : Int) else 0) - (if decide (x.num < 0) = true then (1 : Int) else 0) = sgn x := by
  unfold sgn
  simp only [num_lt, num_gt, decide_eq_true_eq]
  by_cases a : 0 < x
  · have : ¬ x < 0 := by grind
    rw [if_pos a, if_pos a, if_neg this]; rfl
  · rw [if_neg a, if_neg a]
    split <;> rfl
theorem floor_num (x : Rat) : x.num.fdiv (x.den : Int) = x.floor := by
  rw [Rat.floor_def, Int.fdiv_eq_ediv_of_nonneg _ (by omega)]
/-! ### steps -/
theorem seq1 {S : Sig} {a : Sm} {r : Ss} {s s' : Sta} {z : SR} (h : evS S a s = .nx s') (h2 : evSs S r s' = z) : evSs S (.cons a r) s = z := by
  rw [evSs, h]; exact h2
theorem seqR {S : Sig} {a : Sm} {r : Ss} {s : Sta} {d : PD} (h : evS S a s = .rt d) : evSs S (.cons a r) s = .rt d := by
  rw [evSs, h]
theorem seqX {S : Sig} {a : Sm} {r : Ss} {s s' : Sta} {c : Str} {i : Int} (h : evS S a s = .exc c i s') : evSs S (.cons a r) s = .exc c i s' := by
  rw [evSs, h]
end Fe
set_option Elab.async false
set_option linter.all false
set_option maxRecDepth 100000
set_option maxHeartbeats 4000000
namespace Fe
open PySem PySem.Spec PyProof.Rows L2
/-! ### what is worked out at given numbers -/
def rngR (i : Int) : R (List PD) := if inRg i then .ok (rngV 0 i.toNat) else .bad
def rng2R (i j : Int) : R (List PD) := if inRg i && inRg j then .ok (rngV i (j - i).toNat) else .bad
theorem itE (S : Sig) (a : E) (ρ : Fe.Env) : evIt S (.e a) ρ = (evE S a ρ).bind fun x => itemsOf x := rfl
theorem itR (S : Sig) (a : E) (ρ : Fe.Env) : evIt S (.r1 a) ρ = (evE S a ρ).bind fun x => (intOf x).bind fun i => rngR i := rfl
theorem itR2 (S : Sig) (a b : E) (ρ : Fe.Env) : evIt S (.r2 a b) ρ = (evE S a ρ).bind fun x => (evE S b ρ).bind fun y => (intOf x).bind fun i => (intOf y).bind fun j => rng2R i j := rfl
theorem itZ (S : Sig) (a b : E) (ρ : Fe.Env) : evIt S (.zip a b) ρ = (evE S a ρ).bind fun x => (evE S b ρ).bind fun y => zip2V x y := rfl
theorem itN (S : Sig) (a : E) (ρ : Fe.Env) : evIt S (.enum a) ρ = (evE S a ρ).bind fun x => enum1V x := rfl
theorem zpL (a b : List PD) : zip2V (.list a) (.list b) = .ok (zipV a b) := rfl
theorem zpT (a b : List PD) : zip2V (.tuple a) (.tuple b) = .ok (zipV a b) := rfl
theorem zpC (a b : PD) (r s : List PD) : zipV (a :: r) (b :: s) = .tuple [a, b] :: zipV r s := rfl
theorem zpN (s : List PD) : zipV [] s = [] := rfl
theorem zpM (s : List PD) : zipV s [] = [] := by cases s <;> rfl
theorem enL (a : List PD) : enum1V (.list a) = .ok (enumV 0 a) := rfl
theorem enT (a : List PD) : enum1V (.tuple a) = .ok (enumV 0 a) := rfl
theorem rngR_ok {i : Int} (h : 0 ≤ i) (h2 : i < 1000000) : rngR i = .ok (rngV 0 i.toNat) := by
  unfold rngR
  rw [if_pos]
  exact decide_eq_true (by omega)
instance (priority := high) : Bd (0 : Int) 1 := ⟨by decide⟩
instance (priority := high) : BdQ (0 : Rat) 1 := ⟨by decide, by decide⟩
instance (priority := high) : Bd (1 : Int) 1 := ⟨by decide⟩
instance (priority := high) : BdQ (1 : Rat) 1 := ⟨by decide, by decide⟩
instance (priority := high) : Bd (2 : Int) 2 := ⟨by decide⟩
instance (priority := high) : BdQ (2 : Rat) 2 := ⟨by decide, by decide⟩
instance (priority := high) : Bd (3 : Int) 2 := ⟨by decide⟩
instance (priority := high) : BdQ (3 : Rat) 2 := ⟨by decide, by decide⟩
instance (priority := high) : Bd (4 : Int) 3 := ⟨by decide⟩
instance (priority := high) : BdQ (4 : Rat) 3 := ⟨by decide, by decide⟩
instance (priority := high) : Bd (5 : Int) 3 := ⟨by decide⟩
instance (priority := high) : BdQ (5 : Rat) 3 := ⟨by decide, by decide⟩
instance (priority := high) : Bd (6 : Int) 3 := ⟨by decide⟩
instance (priority := high) : BdQ (6 : Rat) 3 := ⟨by decide, by decide⟩
instance (priority := high) : Bd (7 : Int) 3 := ⟨by decide⟩
instance (priority := high) : BdQ (7 : Rat) 3 := ⟨by decide, by decide⟩
instance (priority := high) : Bd (8 : Int) 4 := ⟨by decide⟩
instance (priority := high) : BdQ (8 : Rat) 4 := ⟨by decide, by decide⟩
instance (priority := high) : Bd (9 : Int) 4 := ⟨by decide⟩
instance (priority := high) : BdQ (9 : Rat) 4 := ⟨by decide, by decide⟩
instance (priority := high) : Bd (10 : Int) 4 := ⟨by decide⟩
instance (priority := high) : BdQ (10 : Rat) 4 := ⟨by decide, by decide⟩
instance (priority := high) : Bd (11 : Int) 4 := ⟨by decide⟩
instance (priority := high) : BdQ (11 : Rat) 4 := ⟨by decide, by decide⟩
instance (priority := high) : Bd (12 : Int) 4 := ⟨by decide⟩
instance (priority := high) : BdQ (12 : Rat) 4 := ⟨by decide, by decide⟩
instance (priority := high) : Bd (13 : Int) 4 := ⟨by decide⟩
instance (priority := high) : BdQ (13 : Rat) 4 := ⟨by decide, by decide⟩
instance (priority := high) : Bd (14 : Int) 4 := ⟨by decide⟩
instance (priority := high) : BdQ (14 : Rat) 4 := ⟨by decide, by decide⟩
instance (priority := high) : Bd (15 : Int) 4 := ⟨by decide⟩
instance (priority := high) : BdQ (15 : Rat) 4 := ⟨by decide, by decide⟩
instance (priority := high) : Bd (16 : Int) 5 := ⟨by decide⟩
instance (priority := high) : BdQ (16 : Rat) 5 := ⟨by decide, by decide⟩
instance (priority := high) : Bd (17 : Int) 5 := ⟨by decide⟩
instance (priority := high) : BdQ (17 : Rat) 5 := ⟨by decide, by decide⟩
instance (priority := high) : Bd (18 : Int) 5 := ⟨by decide⟩
instance (priority := high) : BdQ (18 : Rat) 5 := ⟨by decide, by decide⟩
instance (priority := high) : Bd (19 : Int) 5 := ⟨by decide⟩
instance (priority := high) : BdQ (19 : Rat) 5 := ⟨by decide, by decide⟩
instance (priority := high) : Bd (20 : Int) 5 := ⟨by decide⟩
instance (priority := high) : BdQ (20 : Rat) 5 := ⟨by decide, by decide⟩
instance (priority := high) : Bd (21 : Int) 5 := ⟨by decide⟩
instance (priority := high) : BdQ (21 : Rat) 5 := ⟨by decide, by decide⟩
instance (priority := high) : Bd (22 : Int) 5 := ⟨by decide⟩
instance (priority := high) : BdQ (22 : Rat) 5 := ⟨by decide, by decide⟩
instance (priority := high) : Bd (23 : Int) 5 := ⟨by decide⟩
instance (priority := high) : BdQ (23 : Rat) 5 := ⟨by decide, by decide⟩
instance (priority := high) : Bd (24 : Int) 5 := ⟨by decide⟩
instance (priority := high) : BdQ (24 : Rat) 5 := ⟨by decide, by decide⟩
instance (priority := high) : Bd (25 : Int) 5 := ⟨by decide⟩
instance (priority := high) : BdQ (25 : Rat) 5 := ⟨by decide, by decide⟩
instance (priority := high) : Bd (26 : Int) 5 := ⟨by decide⟩
instance (priority := high) : BdQ (26 : Rat) 5 := ⟨by decide, by decide⟩
instance (priority := high) : Bd (27 : Int) 5 := ⟨by decide⟩
instance (priority := high) : BdQ (27 : Rat) 5 := ⟨by decide, by decide⟩
instance (priority := high) : Bd (28 : Int) 5 := ⟨by decide⟩
instance (priority := high) : BdQ (28 : Rat) 5 := ⟨by decide, by decide⟩
instance (priority := high) : Bd (29 : Int) 5 := ⟨by decide⟩
instance (priority := high) : BdQ (29 : Rat) 5 := ⟨by decide, by decide⟩
instance (priority := high) : Bd (30 : Int) 5 := ⟨by decide⟩
instance (priority := high) : BdQ (30 : Rat) 5 := ⟨by decide, by decide⟩
instance (priority := high) : Bd (31 : Int) 5 := ⟨by decide⟩
instance (priority := high) : BdQ (31 : Rat) 5 := ⟨by decide, by decide⟩
instance (priority := high) : Bd (32 : Int) 6 := ⟨by decide⟩
instance (priority := high) : BdQ (32 : Rat) 6 := ⟨by decide, by decide⟩
instance (priority := high) : Bd (40 : Int) 6 := ⟨by decide⟩
instance (priority := high) : BdQ (40 : Rat) 6 := ⟨by decide, by decide⟩
instance (priority := high) : Bd (41 : Int) 6 := ⟨by decide⟩
instance (priority := high) : BdQ (41 : Rat) 6 := ⟨by decide, by decide⟩
instance (priority := high) : Bd (60 : Int) 6 := ⟨by decide⟩
instance (priority := high) : BdQ (60 : Rat) 6 := ⟨by decide, by decide⟩
instance (priority := high) : Bd (64 : Int) 7 := ⟨by decide⟩
instance (priority := high) : BdQ (64 : Rat) 7 := ⟨by decide, by decide⟩
instance (priority := high) : Bd (90 : Int) 7 := ⟨by decide⟩
instance (priority := high) : BdQ (90 : Rat) 7 := ⟨by decide, by decide⟩
instance (priority := high) : Bd (93 : Int) 7 := ⟨by decide⟩
instance (priority := high) : BdQ (93 : Rat) 7 := ⟨by decide, by decide⟩
instance (priority := high) : Bd (95 : Int) 7 := ⟨by decide⟩
instance (priority := high) : BdQ (95 : Rat) 7 := ⟨by decide, by decide⟩
instance (priority := high) : Bd (100 : Int) 7 := ⟨by decide⟩
instance (priority := high) : BdQ (100 : Rat) 7 := ⟨by decide, by decide⟩
instance (priority := high) : Bd (128 : Int) 8 := ⟨by decide⟩
instance (priority := high) : BdQ (128 : Rat) 8 := ⟨by decide, by decide⟩
instance (priority := high) : Bd (200 : Int) 8 := ⟨by decide⟩
instance (priority := high) : BdQ (200 : Rat) 8 := ⟨by decide, by decide⟩
instance (priority := high) : Bd (255 : Int) 8 := ⟨by decide⟩
instance (priority := high) : BdQ (255 : Rat) 8 := ⟨by decide, by decide⟩
instance (priority := high) : Bd (256 : Int) 9 := ⟨by decide⟩
instance (priority := high) : BdQ (256 : Rat) 9 := ⟨by decide, by decide⟩
instance (priority := high) : Bd (1000 : Int) 10 := ⟨by decide⟩
instance (priority := high) : BdQ (1000 : Rat) 10 := ⟨by decide, by decide⟩
instance (priority := high) : Bd (1001 : Int) 10 := ⟨by decide⟩
instance (priority := high) : BdQ (1001 : Rat) 10 := ⟨by decide, by decide⟩
instance (priority := high) : Bd (2000 : Int) 11 := ⟨by decide⟩
instance (priority := high) : BdQ (2000 : Rat) 11 := ⟨by decide, by decide⟩
instance (priority := high) : Bd (2001 : Int) 11 := ⟨by decide⟩
instance (priority := high) : BdQ (2001 : Rat) 11 := ⟨by decide, by decide⟩
theorem rg0 : rngR 0 = .ok [] := rfl
theorem rg1 : rngR 1 = .ok [.int 0] := rfl
theorem rg2 : rngR 2 = .ok [.int 0, .int 1] := rfl
theorem rg3 : rngR 3 = .ok [.int 0, .int 1, .int 2] := rfl
theorem rg4 : rngR 4 = .ok [.int 0, .int 1, .int 2, .int 3] := rfl
theorem rg5 : rngR 5 = .ok [.int 0, .int 1, .int 2, .int 3, .int 4] := rfl
theorem rg6 : rngR 6 = .ok [.int 0, .int 1, .int 2, .int 3, .int 4, .int 5] := rfl
theorem rg7 : rngR 7 = .ok [.int 0, .int 1, .int 2, .int 3, .int 4, .int 5, .int 6] := rfl
theorem rg8 : rngR 8 = .ok [.int 0, .int 1, .int 2, .int 3, .int 4, .int 5, .int 6, .int 7] := rfl
theorem rg9 : rngR 9 = .ok [.int 0, .int 1, .int 2, .int 3, .int 4, .int 5, .int 6, .int 7, .int 8] := rfl
theorem rg10 : rngR 10 = .ok [.int 0, .int 1, .int 2, .int 3, .int 4, .int 5, .int 6, .int 7, .int 8, .int 9] := rfl
theorem rg11 : rngR 11 = .ok [.int 0, .int 1, .int 2, .int 3, .int 4, .int 5, .int 6, .int 7, .int 8, .int 9, .int 10] := rfl
theorem rg12 : rngR 12 = .ok [.int 0, .int 1, .int 2, .int 3, .int 4, .int 5, .int 6, .int 7, .int 8, .int 9, .int 10, .int 11] := rfl
theorem rg13 : rngR 13 = .ok [.int 0, .int 1, .int 2, .int 3, .int 4, .int 5, .int 6, .int 7, .int 8, .int 9, .int 10, .int 11, .int 12] := rfl
theorem rg14 : rngR 14 = .ok [.int 0, .int 1, .int 2, .int 3, .int 4, .int 5, .int 6, .int 7, .int 8, .int 9, .int 10, .int 11, .int 12, .int 13] := rfl
theorem rg15 : rngR 15 = .ok [.int 0, .int 1, .int 2, .int 3, .int 4, .int 5, .int 6, .int 7, .int 8, .int 9, .int 10, .int 11, .int 12, .int 13, .int 14] := rfl
theorem rg16 : rngR 16 = .ok [.int 0, .int 1, .int 2, .int 3, .int 4, .int 5, .int 6, .int 7, .int 8, .int 9, .int 10, .int 11, .int 12, .int 13, .int 14, .int 15] := rfl
theorem rg20 : rngR 20 = .ok [.int 0, .int 1, .int 2, .int 3, .int 4, .int 5, .int 6, .int 7, .int 8, .int 9, .int 10, .int 11, .int 12, .int 13, .int 14, .int 15, .int 16, .int 17, .int 18, .int 19] := rfl
theorem rg60 : rngR 60 = .ok [.int 0, .int 1, .int 2, .int 3, .int 4, .int 5, .int 6, .int 7, .int 8, .int 9, .int 10, .int 11, .int 12, .int 13, .int 14, .int 15, .int 16, .int 17, .int 18, .int 19, .int 20, .int 21, .int 22, .int 23, .int 24, .int 25, .int 26, .int 27, .int 28, .int 29, .int 30, .int 31, .int 32, .int 33, .int 34, .int 35, .int 36, .int 37, .int 38, .int 39, .int 40, .int 41, .int 42, .int 43, .int 44, .int 45, .int 46, .int 47, .int 48, .int 49, .int 50, .int 51, .int 52, .int 53, .int 54, .int 55, .int 56, .int 57, .int 58, .int 59] := rfl
theorem ixT0 (a0 : PD) (r : List PD) : ixV (.tuple (a0 :: r)) (.int 0) = .ok a0 := by
  show (match atI (a0 :: r) 0 with | some d => R.ok d | none => .bad) = _
  unfold atI ixN
  rw [if_pos (by decide), if_pos (by simp only [List.length_cons]; omega)] <;> rfl
theorem ixL0 (a0 : PD) (r : List PD) : ixV (.list (a0 :: r)) (.int 0) = .ok a0 := ixT0 a0 r
theorem ixT1 (a0 a1 : PD) (r : List PD) : ixV (.tuple (a0 :: a1 :: r)) (.int 1) = .ok a1 := by
  show (match atI (a0 :: a1 :: r) 1 with | some d => R.ok d | none => .bad) = _
  unfold atI ixN
  rw [if_pos (by decide), if_pos (by simp only [List.length_cons]; omega)] <;> rfl
theorem ixL1 (a0 a1 : PD) (r : List PD) : ixV (.list (a0 :: a1 :: r)) (.int 1) = .ok a1 := ixT1 a0 a1 r
theorem ixT2 (a0 a1 a2 : PD) (r : List PD) : ixV (.tuple (a0 :: a1 :: a2 :: r)) (.int 2) = .ok a2 := by
  show (match atI (a0 :: a1 :: a2 :: r) 2 with | some d => R.ok d | none => .bad) = _
  unfold atI ixN
  rw [if_pos (by decide), if_pos (by simp only [List.length_cons]; omega)] <;> rfl
theorem ixL2 (a0 a1 a2 : PD) (r : List PD) : ixV (.list (a0 :: a1 :: a2 :: r)) (.int 2) = .ok a2 := ixT2 a0 a1 a2 r
theorem ixT3 (a0 a1 a2 a3 : PD) (r : List PD) : ixV (.tuple (a0 :: a1 :: a2 :: a3 :: r)) (.int 3) = .ok a3 := by
  show (match atI (a0 :: a1 :: a2 :: a3 :: r) 3 with | some d => R.ok d | none => .bad) = _
  unfold atI ixN
  rw [if_pos (by decide), if_pos (by simp only [List.length_cons]; omega)] <;> rfl
theorem ixL3 (a0 a1 a2 a3 : PD) (r : List PD) : ixV (.list (a0 :: a1 :: a2 :: a3 :: r)) (.int 3) = .ok a3 := ixT3 a0 a1 a2 a3 r
theorem ixT4 (a0 a1 a2 a3 a4 : PD) (r : List PD) : ixV (.tuple (a0 :: a1 :: a2 :: a3 :: a4 :: r)) (.int 4) = .ok a4 := by
  show (match atI (a0 :: a1 :: a2 :: a3 :: a4 :: r) 4 with | some d => R.ok d | none => .bad) = _
  unfold atI ixN
  rw [if_pos (by decide), if_pos (by simp only [List.length_cons]; omega)] <;> rfl
theorem ixL4 (a0 a1 a2 a3 a4 : PD) (r : List PD) : ixV (.list (a0 :: a1 :: a2 :: a3 :: a4 :: r)) (.int 4) = .ok a4 := ixT4 a0 a1 a2 a3 a4 r
theorem ixT5 (a0 a1 a2 a3 a4 a5 : PD) (r : List PD) : ixV (.tuple (a0 :: a1 :: a2 :: a3 :: a4 :: a5 :: r)) (.int 5) = .ok a5 := by
  show (match atI (a0 :: a1 :: a2 :: a3 :: a4 :: a5 :: r) 5 with | some d => R.ok d | none => .bad) = _
  unfold atI ixN
  rw [if_pos (by decide), if_pos (by simp only [List.length_cons]; omega)] <;> rfl
theorem ixL5 (a0 a1 a2 a3 a4 a5 : PD) (r : List PD) : ixV (.list (a0 :: a1 :: a2 :: a3 :: a4 :: a5 :: r)) (.int 5) = .ok a5 := ixT5 a0 a1 a2 a3 a4 a5 r
theorem ixT6 (a0 a1 a2 a3 a4 a5 a6 : PD) (r : List PD) : ixV (.tuple (a0 :: a1 :: a2 :: a3 :: a4 :: a5 :: a6 :: r)) (.int 6) = .ok a6 := by
  show (match atI (a0 :: a1 :: a2 :: a3 :: a4 :: a5 :: a6 :: r) 6 with | some d => R.ok d | none => .bad) = _
  unfold atI ixN
  rw [if_pos (by decide), if_pos (by simp only [List.length_cons]; omega)] <;> rfl
theorem ixL6 (a0 a1 a2 a3 a4 a5 a6 : PD) (r : List PD) : ixV (.list (a0 :: a1 :: a2 :: a3 :: a4 :: a5 :: a6 :: r)) (.int 6) = .ok a6 := ixT6 a0 a1 a2 a3 a4 a5 a6 r
theorem ixT7 (a0 a1 a2 a3 a4 a5 a6 a7 : PD) (r : List PD) : ixV (.tuple (a0 :: a1 :: a2 :: a3 :: a4 :: a5 :: a6 :: a7 :: r)) (.int 7) = .ok a7 := by
  show (match atI (a0 :: a1 :: a2 :: a3 :: a4 :: a5 :: a6 :: a7 :: r) 7 with | some d => R.ok d | none => .bad) = _
  unfold atI ixN
  rw [if_pos (by decide), if_pos (by simp only [List.length_cons]; omega)] <;> rfl
theorem ixL7 (a0 a1 a2 a3 a4 a5 a6 a7 : PD) (r : List PD) : ixV (.list (a0 :: a1 :: a2 :: a3 :: a4 :: a5 :: a6 :: a7 :: r)) (.int 7) = .ok a7 := ixT7 a0 a1 a2 a3 a4 a5 a6 a7 r
theorem ixT8 (a0 a1 a2 a3 a4 a5 a6 a7 a8 : PD) (r : List PD) : ixV (.tuple (a0 :: a1 :: a2 :: a3 :: a4 :: a5 :: a6 :: a7 :: a8 :: r)) (.int 8) = .ok a8 := by
  show (match atI (a0 :: a1 :: a2 :: a3 :: a4 :: a5 :: a6 :: a7 :: a8 :: r) 8 with | some d => R.ok d | none => .bad) = _
  unfold atI ixN
  rw [if_pos (by decide), if_pos (by simp only [List.length_cons]; omega)] <;> rfl
theorem ixL8 (a0 a1 a2 a3 a4 a5 a6 a7 a8 : PD) (r : List PD) : ixV (.list (a0 :: a1 :: a2 :: a3 :: a4 :: a5 :: a6 :: a7 :: a8 :: r)) (.int 8) = .ok a8 := ixT8 a0 a1 a2 a3 a4 a5 a6 a7 a8 r
theorem ixT9 (a0 a1 a2 a3 a4 a5 a6 a7 a8 a9 : PD) (r : List PD) : ixV (.tuple (a0 :: a1 :: a2 :: a3 :: a4 :: a5 :: a6 :: a7 :: a8 :: a9 :: r)) (.int 9) = .ok a9 := by
  show (match atI (a0 :: a1 :: a2 :: a3 :: a4 :: a5 :: a6 :: a7 :: a8 :: a9 :: r) 9 with | some d => R.ok d | none => .bad) = _
  unfold atI ixN
  rw [if_pos (by decide), if_pos (by simp only [List.length_cons]; omega)] <;> rfl
theorem ixL9 (a0 a1 a2 a3 a4 a5 a6 a7 a8 a9 : PD) (r : List PD) : ixV (.list (a0 :: a1 :: a2 :: a3 :: a4 :: a5 :: a6 :: a7 :: a8 :: a9 :: r)) (.int 9) = .ok a9 := ixT9 a0 a1 a2 a3 a4 a5 a6 a7 a8 a9 r
theorem ixT10 (a0 a1 a2 a3 a4 a5 a6 a7 a8 a9 a10 : PD) (r : List PD) : ixV (.tuple (a0 :: a1 :: a2 :: a3 :: a4 :: a5 :: a6 :: a7 :: a8 :: a9 :: a10 :: r)) (.int 10) = .ok a10 := by
  show (match atI (a0 :: a1 :: a2 :: a3 :: a4 :: a5 :: a6 :: a7 :: a8 :: a9 :: a10 :: r) 10 with | some d => R.ok d | none => .bad) = _
  unfold atI ixN
  rw [if_pos (by decide), if_pos (by simp only [List.length_cons]; omega)] <;> rfl
theorem ixL10 (a0 a1 a2 a3 a4 a5 a6 a7 a8 a9 a10 : PD) (r : List PD) : ixV (.list (a0 :: a1 :: a2 :: a3 :: a4 :: a5 :: a6 :: a7 :: a8 :: a9 :: a10 :: r)) (.int 10) = .ok a10 := ixT10 a0 a1 a2 a3 a4 a5 a6 a7 a8 a9 a10 r
theorem ixT11 (a0 a1 a2 a3 a4 a5 a6 a7 a8 a9 a10 a11 : PD) (r : List PD) : ixV (.tuple (a0 :: a1 :: a2 :: a3 :: a4 :: a5 :: a6 :: a7 :: a8 :: a9 :: a10 :: a11 :: r)) (.int 11) = .ok a11 := by
  show (match atI (a0 :: a1 :: a2 :: a3 :: a4 :: a5 :: a6 :: a7 :: a8 :: a9 :: a10 :: a11 :: r) 11 with | some d => R.ok d | none => .bad) = _
  unfold atI ixN
  rw [if_pos (by decide), if_pos (by simp only [List.length_cons]; omega)] <;> rfl
theorem ixL11 (a0 a1 a2 a3 a4 a5 a6 a7 a8 a9 a10 a11 : PD) (r : List PD) : ixV (.list (a0 :: a1 :: a2 :: a3 :: a4 :: a5 :: a6 :: a7 :: a8 :: a9 :: a10 :: a11 :: r)) (.int 11) = .ok a11 := ixT11 a0 a1 a2 a3 a4 a5 a6 a7 a8 a9 a10 a11 r
theorem ixT12 (a0 a1 a2 a3 a4 a5 a6 a7 a8 a9 a10 a11 a12 : PD) (r : List PD) : ixV (.tuple (a0 :: a1 :: a2 :: a3 :: a4 :: a5 :: a6 :: a7 :: a8 :: a9 :: a10 :: a11 :: a12 :: r)) (.int 12) = .ok a12 := by
  show (match atI (a0 :: a1 :: a2 :: a3 :: a4 :: a5 :: a6 :: a7 :: a8 :: a9 :: a10 :: a11 :: a12 :: r) 12 with | some d => R.ok d | none => .bad) = _
  unfold atI ixN
  rw [if_pos (by decide), if_pos (by simp only [List.length_cons]; omega)] <;> rfl
theorem ixL12 (a0 a1 a2 a3 a4 a5 a6 a7 a8 a9 a10 a11 a12 : PD) (r : List PD) : ixV (.list (a0 :: a1 :: a2 :: a3 :: a4 :: a5 :: a6 :: a7 :: a8 :: a9 :: a10 :: a11 :: a12 :: r)) (.int 12) = .ok a12 := ixT12 a0 a1 a2 a3 a4 a5 a6 a7 a8 a9 a10 a11 a12 r
def sumR : Option (List Int) → R PD
  | some ns => .ok (.int ns.sum)
  | none => .bad
theorem bsum (ds : List PD) : biV .sum [.list ds] = sumR (ints? ds) := by
  rw [biV]
  cases ints? ds <;> rfl
theorem sumR1 (ns : List Int) : sumR (some ns) = .ok (.int ns.sum) := rfl
theorem intsC (i : Int) (r : List PD) : ints? (.int i :: r) = (ints? r).map (i :: ·) := rfl
theorem intsN : ints? [] = some [] := rfl
def allR : Option (List Bool) → R PD
  | some bs => .ok (.bool (bs.all id))
  | none => .bad
def anyR : Option (List Bool) → R PD
  | some bs => .ok (.bool (bs.any id))
  | none => .bad
theorem ball (ds : List PD) : biV .all [.list ds] = allR (bools? ds) := by
  rw [biV]
  cases bools? ds <;> rfl
theorem bany (ds : List PD) : biV .any [.list ds] = anyR (bools? ds) := by
  rw [biV]
  cases bools? ds <;> rfl
theorem allR1 (bs : List Bool) : allR (some bs) = .ok (.bool (bs.all id)) := rfl
theorem anyR1 (bs : List Bool) : anyR (some bs) = .ok (.bool (bs.any id)) := rfl
theorem boolsC (i : Bool) (r : List PD) : bools? (.bool i :: r) = (bools? r).map (i :: ·) := rfl
theorem boolsN : bools? [] = some [] := rfl
def minR : Option (List Int) → R PD
  | some (x :: r) => .ok (.int (leastI x r))
  | _ => .bad
def maxR : Option (List Int) → R PD
  | some (x :: r) => .ok (.int (mostI x r))
  | _ => .bad
theorem bminL (ds : List PD) : biV .minL [.list ds] = minR (ints? ds) := by
  rw [biV]
  rcases ints? ds with _ | _ | _ <;> rfl
theorem bmaxL (ds : List PD) : biV .maxL [.list ds] = maxR (ints? ds) := by
  rw [biV]
  rcases ints? ds with _ | _ | _ <;> rfl
theorem minR1 (x : Int) (r : List Int) : minR (some (x :: r)) = .ok (.int (leastI x r)) := rfl
theorem maxR1 (x : Int) (r : List Int) : maxR (some (x :: r)) = .ok (.int (mostI x r)) := rfl
theorem blenQ (q : Rat) : biV .len [QD q] = .ok (.int 2) := rfl
theorem boolID (c : Prop) [Decidable c] : biV .int [.bool (decide c)] = .ok (.int (if c then 1 else 0)) := by
  by_cases h : c
  · rw [if_pos h, decide_eq_true h]; rfl
  · rw [if_neg h, decide_eq_false h]; rfl
theorem sgn_pos {x : Rat} (h : 0 < x) : sgn x = 1 := if_pos h
theorem sgn_neg {x : Rat} (h : x < 0) : sgn x = -1 := by
  unfold sgn
  rw [if_neg (by grind), if_pos h]
theorem sgn_zero : sgn 0 = 0 := rfl
theorem sgn_le (x : Rat) : sgn x ≤ 0 ↔ x ≤ 0 := by
  unfold sgn
  by_cases a : 0 < x
  · rw [if_pos a]
    constructor
    · intro h; omega
    · intro h; grind
  · rw [if_neg a]
    constructor
    · intro _; grind
    · intro _; split <;> omega
theorem sgn_lt (x : Rat) : sgn x < 0 ↔ x < 0 := by
  unfold sgn
  by_cases a : 0 < x
  · rw [if_pos a]
    constructor
    · intro h; omega
    · intro h; grind
  · rw [if_neg a]
    by_cases b : x < 0
    · rw [if_pos b]; simp [b]
    · rw [if_neg b]; simp [b]
theorem sgn_gt (x : Rat) : 0 < sgn x ↔ 0 < x := by
  unfold sgn
  by_cases a : 0 < x
  · rw [if_pos a]; simp [a]
  · rw [if_neg a]
    constructor
    · intro h; split at h <;> omega
    · intro h; exact absurd h a
theorem sgn_ge (x : Rat) : 0 ≤ sgn x ↔ 0 ≤ x := by
  have := sgn_lt x
  constructor
  · intro h
    by_cases c : x < 0
    · have := this.mpr c; omega
    · grind
  · intro h
    by_cases c : sgn x < 0
    · have := this.mp c; grind
    · omega
theorem sgn_eq (x : Rat) : sgn x = 0 ↔ x = 0 := by
  constructor
  · intro h
    have a := sgn_gt x
    have b := sgn_lt x
    rw [h] at a b
    grind
  · rintro rfl; rfl
theorem gg_QD (x : Rat) : gg x.num (x.den : Int) = 1 := by
  unfold gg
  rw [Int.natAbs_natCast]
  have := x.reduced
  unfold Nat.Coprime at this
  omega
/-- a place in the plane -/
abbrev PQ (x y : Rat) : PD := .tuple [QD x, QD y]
/-- twice the area of three places -/
def ta (ax ay bx b_y cx cy : Rat) : Rat := (bx - ax) * (cy - ay) - (b_y - ay) * (cx - ax)
def bef (a b c d : Rat) : Bool := decide (a < c) || (decide (a = c) && decide (b < d))
theorem natLit (n : Nat) : ((no_index (OfNat.ofNat n) : Nat) : Int) = OfNat.ofNat n := rfl
theorem natOne : ((1 : Nat) : Int) = 1 := rfl
theorem natZero : ((0 : Nat) : Int) = 0 := rfl
theorem sgn_num2 (x : Rat) : (if 0 < x.num then (1 : Int) else 0) - (if x.num < 0 then (1 : Int) else 0) = sgn x := by
  have := sgn_num x
  simpa using this
theorem den_pos (x : Rat) : 0 < (x.den : Int) := by have := x.den_nz; omega
theorem btup (ds : List PD) : biV .tuple [.list ds] = .ok (.tuple ds) := rfl
theorem btupT (ds : List PD) : biV .tuple [.tuple ds] = .ok (.tuple ds) := rfl
theorem blst (ds : List PD) : biV .list [.list ds] = .ok (.list ds) := rfl
theorem blstT (ds : List PD) : biV .list [.tuple ds] = .ok (.list ds) := rfl
theorem blenT (l : List PD) : biV .len [.tuple l] = .ok (.int l.length) := rfl
theorem itmL (ds : List PD) : itemsOf (.list ds) = .ok ds := rfl
theorem itmT (ds : List PD) : itemsOf (.tuple ds) = .ok ds := rfl
theorem isN0 : isNoneD .none = true := rfl
theorem isNT (l : List PD) : isNoneD (.tuple l) = false := rfl
theorem isNL (l : List PD) : isNoneD (.list l) = false := rfl
theorem isNI (i : Int) : isNoneD (.int i) = false := rfl
theorem isNB (i : Bool) : isNoneD (.bool i) = false := rfl
theorem isNQ (q : Rat) : isNoneD (QD q) = false := rfl
theorem tgQ (ts : List Tg) (q : Rat) (ρ : Fe.Env) : tgSet (.tp ts) (QD q) ρ = tgSets ts [.int q.num, .int q.den] ρ := by rw [QD, tgSet]
theorem tgNm (i : Nat) (d : PD) (ρ : Fe.Env) : tgSet (.nm i) d ρ = some (ρ.set i (some d)) := by rw [tgSet]
theorem tgTu (ts : List Tg) (ds : List PD) (ρ : Fe.Env) : tgSet (.tp ts) (.tuple ds) ρ = tgSets ts ds ρ := by rw [tgSet]
theorem tgLi (ts : List Tg) (ds : List PD) (ρ : Fe.Env) : tgSet (.tp ts) (.list ds) ρ = tgSets ts ds ρ := by rw [tgSet]
theorem tgsN (ρ : Fe.Env) : tgSets [] [] ρ = some ρ := by rw [tgSets]
def tgK (ts : List Tg) (ds : List PD) : Option Fe.Env → Option Fe.Env
  | some ρ => tgSets ts ds ρ
  | none => none
theorem tgsC (t : Tg) (ts : List Tg) (d : PD) (ds : List PD) (ρ : Fe.Env) : tgSets (t :: ts) (d :: ds) ρ = tgK ts ds (tgSet t d ρ) := by
  rw [tgSets]
  cases tgSet t d ρ <;> rfl
theorem tgC1 (ts : List Tg) (ds : List PD) (ρ : Fe.Env) : tgK ts ds (some ρ) = tgSets ts ds ρ := rfl
theorem for_nm {i : Nat} {f : Sta → SR} {d : PD} {ds : List PD} {s s' : Sta} {z : SR} (h : f (s.1, s.2.set i (some d)) = .nx s') (h2 : forGo (.nm i) f ds s' = z) : forGo (.nm i) f (d :: ds) s = z := by
  rw [forGo, tgNm]
  dsimp only
  rw [h]
  exact h2
theorem for_t {t : Tg} {f : Sta → SR} {d : PD} {ds : List PD} {ρ : Fe.Env} {s s' : Sta} {z : SR} (ht : tgSet t d s.2 = some ρ) (h : f (s.1, ρ) = .nx s') (h2 : forGo t f ds s' = z) : forGo t f (d :: ds) s = z := by
  rw [forGo, ht]
  dsimp only
  rw [h]
  exact h2
theorem for_ret {i : Nat} {f : Sta → SR} {d x : PD} {ds : List PD} {s : Sta} (h : f (s.1, s.2.set i (some d)) = .rt x) : forGo (.nm i) f (d :: ds) s = .rt x := by
  rw [forGo, tgNm]
  dsimp only
  rw [h]
theorem for_nil {t : Tg} {f : Sta → SR} {s : Sta} : forGo t f [] s = .nx s := rfl
theorem evFor {S : Sig} {t : Tg} {it : It} {b : Ss} {W W' : List Nat} {ρ : Fe.Env} {items : List PD} {z : SR} (h : evIt S it ρ = .ok items) (hd : Fe.dl W (escItM true it) = W') (h2 : forGo t (evSs S b) items (W', ρ) = z) : evS S (.for_ t it b) (W, ρ) = z := by
  rw [evS, h, sok, hd]
  exact h2
theorem whS {l : List Nat} {c : Fe.Env → R Bool} {f : Sta → SR} {n : Nat} {s s' : Sta} {z : SR} (h0 : c s.2 = .ok true) (h : f (Fe.dl s.1 l, s.2) = .nx s') (h2 : whGo l c f n s' = z) : whGo l c f (n + 1) s = z := by
  rw [whGo, h0, sok, if_pos rfl, h]
  exact h2
theorem whE {l : List Nat} {c : Fe.Env → R Bool} {f : Sta → SR} {n : Nat} {s : Sta} (h0 : c s.2 = .ok false) : whGo l c f (n + 1) s = .nx (Fe.dl s.1 l, s.2) := by
  rw [whGo, h0, sok]
  rfl
theorem app_at {S : Sig} {i : Nat} {e : E} {W : List Nat} {ρ : Fe.Env} {ds : List PD} {x : PD} (hv : evE S e ρ = .ok x) (he : Fe.dl W (esc e) = W) (hi : i ∈ W) (hr : ρ[i]? = some (some (.list ds))) (hl : ds.length < 16000000) : evS S (.app i e) (W, ρ) = .nx (W, ρ.set i (some (.list (ds ++ [x])))) := by
  rw [evS]
  dsimp only
  rw [hr, he]
  dsimp only
  rw [hv, if_pos (by simpa using hi), sok, if_pos (sl_ok hl)]
theorem sgn_mulp {c x : Rat} (h : 0 < c) : sgn (c * x) = sgn x := by
  unfold sgn
  have h1 : 0 < c * x ↔ 0 < x := by
    constructor
    · intro q
      by_cases z : 0 < x
      · exact z
      · have : c * x ≤ c * 0 := Rat.mul_le_mul_of_nonneg_left (by grind) (by grind)
        grind
    · intro q; exact Rat.mul_pos h q
  have h2 : c * x < 0 ↔ x < 0 := by
    constructor
    · intro q
      by_cases z : x < 0
      · exact z
      · have : c * 0 ≤ c * x := Rat.mul_le_mul_of_nonneg_left (by grind) (by grind)
        grind
    · intro q
      have := Rat.mul_pos h (show 0 < -x by grind)
      grind
  simp only [h1, h2]
theorem compGo_map2 {α : Type} {f : PD → R (Option PD)} {h g : α → PD} : ∀ L : List α, (∀ a ∈ L, f (h a) = .ok (some (g a))) → compGo f (L.map h) = .ok (L.map g)
  | [], _ => rfl
  | a :: L, k => by
    rw [List.map_cons, compGo, k a (List.mem_cons_self ..)]
    dsimp only
    rw [compGo_map2 L fun b hb => k b (List.mem_cons_of_mem _ hb)]
    rfl
theorem evF_at {p : Pg} {n i : Nat} {ds : List PD} (d : Df) (e : p.T[i]? = some d) (h : ds.length = d.np) : evF p (n + 1) i ds = fin (evSs (sgOf p n) d.b ([], env0 d (ds ++ d.dv.map PyData.int))) := by
  rw [evF, evB_succ e, if_pos (by simpa using h)]
theorem evFf_at {p : Pg} {n i : Nat} {ds : List PD} (d : Df) (e : p.T[i]? = some d) (h : ds.length = d.np) : evFf p (n + 1) i ds = finF (evSs (sgOf p n) d.b ([], env0 d (ds ++ d.dv.map PyData.int))) := by
  rw [evFf, evB_succ e, if_pos (by simpa using h)]
theorem finR {S : Sig} {b : Ss} {s : Sta} {d : PD} (h : evSs S b s = .rt d) : fin (evSs S b s) = .ok d := by rw [h, frt]
theorem finN {S : Sig} {b : Ss} {s s' : Sta} (h : evSs S b s = .nx s') : fin (evSs S b s) = .ok .none := by rw [h, fnx]
theorem okL0 : okLen 0 = true := rfl
theorem okLS (n : Nat) (h : n ≤ 16777216) : okLen n = true := decide_eq_true (by unfold sLine; omega)
theorem P1 (i : Int) : PyData.tuple [.int i, .int 1] = QD (i : Rat) := rfl
theorem sN (s : Sta) (f : Sta → SR) : (SR.nx s).seq f = f s := rfl
/-! ### the walk's tactic -/
end Fe
open PySem PySem.Spec PyProof.Rows L2 Fe in
local macro_rules
  | `(tactic| simp! [$ls,*]) => `(tactic| simp (disch := first | assumption | decide | omega | rfl) only [evSs, evS, evE, evEs, evAnds, evOrs, evC, evEo, evEd, setL, tgNm, tgTu, tgLi, tgsN, tgsC, tgC1, tgQ, wipeE, compGo, forGo, List.set_cons_succ, List.set_cons_zero, List.getElem?_cons_succ, List.getElem?_cons_zero, bok, sok, bexc, sexc, bO, iO, itmL, itmT, vadd, vsub, bmul, bmod, bfdiv, clt, cle, cgt, cge, ceqi, cnei, ceqQ, cneQ, ceqT, cneT, babs, bint, boolID, boolI, bsum, ball, bany, allR1, anyR1, boolsC, boolsN, bminL, bmaxL, minR1, maxR1, blenQ, leastI, mostI, List.all_cons, List.all_nil, List.any_cons, List.any_nil, id_eq, sumR1, intsC, intsN, Option.map_some, itE, itR, itR2, itZ, itN, zpL, zpT, zpC, zpN, zpM, enL, enT, enumV, btup, btupT, blst, blstT, blen, blenT, okLS, natLit, isN0, isNT, isNL, isNI, isNB, isNQ, dl0, frt, frf, fFf, fFx, fnx, fexc, rg0, rg1, rg2, rg3, rg4, rg5, rg6, rg7, rg8, rg9, rg10, rg11, rg12, rg13, rg14, rg15, rg16, rg20, ixT0, ixL0, ixT1, ixL1, ixT2, ixL2, ixT3, ixL3, ixT4, ixL4, ixT5, ixL5, ixT6, ixL6, ixT7, ixL7, ixT8, ixL8, ixT9, ixL9, ixT10, ixL10, ixT11, ixL11, ixT12, ixL12, q0, q1, if_true, if_false, Bool.false_eq_true, Bool.not_true, Bool.not_false, Bool.true_and, Bool.false_and, Bool.and_true, Bool.and_false, decide_true, decide_false, List.length_cons, List.length_nil, List.sum_cons, List.sum_nil, List.map_cons, List.map_nil, List.cons_append, List.nil_append, esc, escs, pk, pks, esco, escIt, escItM, escM, escd, escp, List.append_nil, beq_self_eq_true, Int.reduceAdd, Int.reduceMul, Int.reduceSub, Int.reduceNeg, Int.reduceFMod, Int.reduceFDiv, Int.reduceLT, Int.reduceLE, Int.reduceGT, Int.reduceGE, Int.reduceEq, Int.reduceNe, Int.reduceToNat, Nat.reduceLT, Nat.reduceEqDiff, Nat.reduceAdd, eq_self, decide_eq_true_eq, ne_eq, not_true, not_false_iff, $ls,*])
set_option Elab.async false
set_option linter.all false
set_option maxRecDepth 100000
set_option maxHeartbeats 4000000
namespace k21
open PySem PySem.Spec PyProof.Rows L2 Fe
/- law k21: the text in Fe's language, printed by gen.py -/
abbrev prog : Program := PySem.Challenge.pw_samplesonce_k21_main_boxes_that_touch_an
abbrev i_common : Nat := 0
abbrev i_plain : Nat := 1
abbrev i_add : Nat := 2
abbrev i_take : Nat := 3
abbrev i_times : Nat := 4
abbrev i_over : Nat := 5
abbrev i_sign : Nat := 6
abbrev i_is_less : Nat := 7
abbrev i_twice_area : Nat := 8
abbrev i_is_fraction : Nat := 9
abbrev i_is_pair : Nat := 10
abbrev i_is_before : Nat := 11
abbrev i_is_flat : Nat := 12
abbrev i_check_flat : Nat := 13
abbrev i_check_flat_d : Nat := 14
abbrev i_check_both : Nat := 15
abbrev i_begun : Nat := 16
abbrev i_along : Nat := 17
abbrev i_reach_of : Nat := 18
abbrev i_reach : Nat := 19
abbrev i_edge_of : Nat := 20
abbrev i_turn_of : Nat := 21
abbrev i_moved : Nat := 22
abbrev i_grown_by : Nat := 23
abbrev i_grown : Nat := 24
abbrev i_opposite_of : Nat := 25
abbrev i_opposite : Nat := 26
abbrev i_area : Nat := 27
abbrev i_where : Nat := 28
abbrev i_check_pair : Nat := 29
abbrev i_has_place : Nat := 30
abbrev i_whole_pair : Nat := 31
abbrev i_outward : Nat := 32
abbrev i_is_parting : Nat := 33
abbrev i_parting : Nat := 34
abbrev i_parted_by : Nat := 35
abbrev i_kept_in : Nat := 36
abbrev i_meeting : Nat := 37
abbrev i_square : Nat := 38
abbrev i_far_from : Nat := 39
abbrev i_gap : Nat := 40
abbrev i_comes_to : Nat := 41
abbrev i__law_draws : Nat := 42
abbrev i__law_mix : Nat := 43
abbrev i__law_common : Nat := 44
abbrev i__law_low : Nat := 45
abbrev i__law_add : Nat := 46
abbrev i__law_take : Nat := 47
abbrev i__law_times : Nat := 48
abbrev i__law_less : Nat := 49
abbrev i__law_least : Nat := 50
abbrev i__law_greatest : Nat := 51
abbrev i__law_fraction : Nat := 52
abbrev i__law_box : Nat := 53
abbrev i__law_beside : Nat := 54
abbrev i__law_corners : Nat := 55
abbrev i__law_reach : Nat := 56
abbrev i__law_line : Nat := 57
abbrev i__law_side_gap : Nat := 58
abbrev i__law_over : Nat := 59
abbrev i__law_times_told : Nat := 60
abbrev i__law_comes : Nat := 61
abbrev i__law_place : Nat := 62
abbrev i__law_refused : Nat := 63
abbrev i__law_single : Nat := 64
abbrev i_law : Nat := 65
def topSt (i : Nat) : Stmt := prog.main.body.getD i (.Pass ⟨0, 0, 0, 0⟩)
def l_common_1 : Ss := .cons (.par [2, 3] (.cons (.var 3) (.cons (.bin .mod (.var 2) (.var 3)) (.nil)))) (.nil)
def b_common : Ss := .cons (.par [2, 3] (.cons (.bi .abs (.cons (.var 0) (.nil))) (.cons (.bi .abs (.cons (.var 1) (.nil))) (.nil)))) (.cons (.whl 1000000 (.cmp .gt (.var 3) (.int 0)) (l_common_1)) (.cons (.ret (.var 2)) (.nil)))
def d_common : Df := ⟨"common", 2, ["one", "two", "a", "b"], [], b_common, [], []⟩
def b_plain : Ss := .cons (.set 2 (.call i_common (.cons (.var 0) (.cons (.var 1) (.nil))))) (.cons (.ifs (.cmp .lt (.var 1) (.int 0)) (.cons (.set 2 (.neg (.var 2))) (.nil)) (.nil)) (.cons (.ret (.tup (.cons (.bin .fdiv (.var 0) (.var 2)) (.cons (.bin .fdiv (.var 1) (.var 2)) (.nil))))) (.nil)))
def d_plain : Df := ⟨"plain", 2, ["n", "d", "k"], [], b_plain, [], []⟩
def b_add : Ss := .cons (.ret (.call i_plain (.cons (.bin .add (.bin .mul (.ix (.var 0) (.int 0)) (.ix (.var 1) (.int 1))) (.bin .mul (.ix (.var 1) (.int 0)) (.ix (.var 0) (.int 1)))) (.cons (.bin .mul (.ix (.var 0) (.int 1)) (.ix (.var 1) (.int 1))) (.nil))))) (.nil)
def d_add : Df := ⟨"add", 2, ["one", "two"], [], b_add, [], []⟩
def b_take : Ss := .cons (.ret (.call i_plain (.cons (.bin .sub (.bin .mul (.ix (.var 0) (.int 0)) (.ix (.var 1) (.int 1))) (.bin .mul (.ix (.var 1) (.int 0)) (.ix (.var 0) (.int 1)))) (.cons (.bin .mul (.ix (.var 0) (.int 1)) (.ix (.var 1) (.int 1))) (.nil))))) (.nil)
def d_take : Df := ⟨"take", 2, ["one", "two"], [], b_take, [], []⟩
def b_times : Ss := .cons (.ret (.call i_plain (.cons (.bin .mul (.ix (.var 0) (.int 0)) (.ix (.var 1) (.int 0))) (.cons (.bin .mul (.ix (.var 0) (.int 1)) (.ix (.var 1) (.int 1))) (.nil))))) (.nil)
def d_times : Df := ⟨"times", 2, ["one", "two"], [], b_times, [], []⟩
def b_over : Ss := .cons (.ifs (.cmp .eq (.ix (.var 1) (.int 0)) (.int 0)) (.cons (.rai "BadFraction" (.int 0)) (.nil)) (.nil)) (.cons (.ret (.call i_plain (.cons (.bin .mul (.ix (.var 0) (.int 0)) (.ix (.var 1) (.int 1))) (.cons (.bin .mul (.ix (.var 0) (.int 1)) (.ix (.var 1) (.int 0))) (.nil))))) (.nil))
def d_over : Df := ⟨"over", 2, ["one", "two"], [], b_over, [], []⟩
def b_sign : Ss := .cons (.ret (.bin .sub (.bi .int (.cons (.cmp .gt (.ix (.var 0) (.int 0)) (.int 0)) (.nil))) (.bi .int (.cons (.cmp .lt (.ix (.var 0) (.int 0)) (.int 0)) (.nil))))) (.nil)
def d_sign : Df := ⟨"sign", 1, ["one"], [], b_sign, [], []⟩
def b_is_less : Ss := .cons (.ret (.cmp .lt (.bin .mul (.ix (.var 0) (.int 0)) (.ix (.var 1) (.int 1))) (.bin .mul (.ix (.var 1) (.int 0)) (.ix (.var 0) (.int 1))))) (.nil)
def d_is_less : Df := ⟨"is_less", 2, ["one", "two"], [], b_is_less, [], []⟩
def b_twice_area : Ss := .cons (.unp (.tp [.tp [.nm 1, .nm 2], .tp [.nm 3, .nm 4], .tp [.nm 5, .nm 6]]) (.var 0)) (.cons (.ret (.call i_take (.cons (.call i_times (.cons (.call i_take (.cons (.var 3) (.cons (.var 1) (.nil)))) (.cons (.call i_take (.cons (.var 6) (.cons (.var 2) (.nil)))) (.nil)))) (.cons (.call i_times (.cons (.call i_take (.cons (.var 4) (.cons (.var 2) (.nil)))) (.cons (.call i_take (.cons (.var 5) (.cons (.var 1) (.nil)))) (.nil)))) (.nil))))) (.nil))
def d_twice_area : Df := ⟨"twice_area", 1, ["corners", "ax", "ay", "bx", "by", "cx", "cy"], [], b_twice_area, [], []⟩
def b_is_fraction : Ss := .cons (.ret (.ands (.cons (.cmp .eq (.bi .len (.cons (.var 0) (.nil))) (.int 2)) (.cons (.cmp .gt (.ix (.var 0) (.int 1)) (.int 0)) (.cons (.cmp .eq (.call i_common (.cons (.ix (.var 0) (.int 0)) (.cons (.ix (.var 0) (.int 1)) (.nil)))) (.int 1)) (.nil)))))) (.nil)
def d_is_fraction : Df := ⟨"is_fraction", 1, ["told"], [], b_is_fraction, [], []⟩
def b_is_pair : Ss := .cons (.ret (.ands (.cons (.cmp .eq (.bi .len (.cons (.var 0) (.nil))) (.int 2)) (.cons (.bi .all (.cons (.comp (.ands (.cons (.cmp .eq (.bi .len (.cons (.var 1) (.nil))) (.int 2)) (.cons (.call i_is_fraction (.cons (.var 1) (.nil))) (.nil)))) (.nm 1) (.e (.var 0)) (.none) [1]) (.nil))) (.nil))))) (.nil)
def d_is_pair : Df := ⟨"is_pair", 1, ["told", "part"], [], b_is_pair, [], []⟩
def b_is_before : Ss := .cons (.ret (.ors (.cons (.call i_is_less (.cons (.ix (.var 0) (.int 0)) (.cons (.ix (.var 1) (.int 0)) (.nil)))) (.cons (.ands (.cons (.cmp .eq (.ix (.var 0) (.int 0)) (.ix (.var 1) (.int 0))) (.cons (.call i_is_less (.cons (.ix (.var 0) (.int 1)) (.cons (.ix (.var 1) (.int 1)) (.nil)))) (.nil)))) (.nil))))) (.nil)
def d_is_before : Df := ⟨"is_before", 2, ["one", "two"], [], b_is_before, [], []⟩
def l_is_flat_1 : Ss := .cons (.ifs (.cmp .le (.call i_sign (.cons (.call i_twice_area (.cons (.tup (.cons (.ix (.var 0) (.int 0)) (.cons (.ix (.var 0) (.var 3)) (.cons (.ix (.var 0) (.bin .add (.var 3) (.int 1))) (.nil))))) (.nil))) (.nil))) (.int 0)) (.cons (.ret (.bl false)) (.nil)) (.nil)) (.nil)
def l_is_flat_2 : Ss := .cons (.ifs (.ors (.cons (.cmp .le (.call i_sign (.cons (.call i_twice_area (.cons (.tup (.cons (.ix (.var 0) (.bin .sub (.var 3) (.int 2))) (.cons (.ix (.var 0) (.bin .sub (.var 3) (.int 1))) (.cons (.ix (.var 0) (.var 3)) (.nil))))) (.nil))) (.nil))) (.int 0)) (.cons (.ands (.cons (.cmp .gt (.var 3) (.int 0)) (.cons (.nt (.call i_is_before (.cons (.ix (.var 0) (.int 0)) (.cons (.ix (.var 0) (.var 3)) (.nil))))) (.nil)))) (.nil)))) (.cons (.ret (.bl false)) (.nil)) (.nil)) (.nil)
def b_is_flat : Ss := .cons (.ifs (.ors (.cons (.nt (.chn .le .le (.int 3) (.bi .len (.cons (.var 0) (.nil))) (.glob "MOST_CORNERS"))) (.cons (.nt (.bi .all (.cons (.comp (.call i_is_pair (.cons (.var 1) (.nil))) (.nm 1) (.e (.var 0)) (.none) [1]) (.nil)))) (.nil)))) (.cons (.ret (.bl false)) (.nil)) (.nil)) (.cons (.set 2 (.bi .len (.cons (.var 0) (.nil)))) (.cons (.for_ (.nm 3) (.r1 (.var 2)) (l_is_flat_2)) (.cons (.for_ (.nm 3) (.r2 (.int 1) (.bin .sub (.var 2) (.int 1))) (l_is_flat_1)) (.cons (.ret (.bl true)) (.nil)))))
def d_is_flat : Df := ⟨"is_flat", 1, ["told", "corner", "many", "k"], [], b_is_flat, [], []⟩
def b_check_flat : Ss := .cons (.ifs (.nt (.call i_is_flat (.cons (.var 0) (.nil)))) (.cons (.rai "BadShape" (.var 1)) (.nil)) (.nil)) (.nil)
def d_check_flat : Df := ⟨"check_flat", 2, ["told", "k"], [], b_check_flat, [0], []⟩
def d_check_flat_d : Df := ⟨"check_flat", 1, ["told", "k"], [], b_check_flat, [0], [0]⟩
def b_check_both : Ss := .cons (.ex (.call i_check_flat_d (.cons (.var 0) (.nil)))) (.cons (.ex (.call i_check_flat (.cons (.var 1) (.cons (.int 1) (.nil))))) (.nil))
def d_check_both : Df := ⟨"check_both", 2, ["one", "two"], [], b_check_both, [], []⟩
def l_begun_1 : Ss := .cons (.ifs (.call i_is_before (.cons (.ix (.var 0) (.var 2)) (.cons (.ix (.var 0) (.var 1)) (.nil)))) (.cons (.set 1 (.var 2)) (.nil)) (.nil)) (.nil)
def b_begun : Ss := .cons (.set 1 (.int 0)) (.cons (.for_ (.nm 2) (.r1 (.bi .len (.cons (.var 0) (.nil)))) (l_begun_1)) (.cons (.ret (.disp true (.star (.sl (.var 0) (.some (.var 1)) (.none)) (.star (.sl (.var 0) (.none) (.some (.var 1))) (.nil))))) (.nil)))
def d_begun : Df := ⟨"begun", 1, ["corners", "first", "k"], [], b_begun, [], []⟩
def b_along : Ss := .cons (.ret (.call i_add (.cons (.call i_times (.cons (.ix (.var 0) (.int 0)) (.cons (.tup (.cons (.ix (.var 1) (.int 0)) (.cons (.int 1) (.nil)))) (.nil)))) (.cons (.call i_times (.cons (.ix (.var 0) (.int 1)) (.cons (.tup (.cons (.ix (.var 1) (.int 1)) (.cons (.int 1) (.nil)))) (.nil)))) (.nil))))) (.nil)
def d_along : Df := ⟨"along", 2, ["corner", "direction"], [], b_along, [], []⟩
def l_reach_of_1 : Ss := .cons (.set 4 (.call i_along (.cons (.var 3) (.cons (.var 1) (.nil))))) (.cons (.ifs (.call i_is_less (.cons (.var 2) (.cons (.var 4) (.nil)))) (.cons (.set 2 (.var 4)) (.nil)) (.nil)) (.nil))
def b_reach_of : Ss := .cons (.set 2 (.call i_along (.cons (.ix (.var 0) (.int 0)) (.cons (.var 1) (.nil))))) (.cons (.for_ (.nm 3) (.e (.sl (.var 0) (.some (.int 1)) (.none))) (l_reach_of_1)) (.cons (.ret (.var 2)) (.nil)))
def d_reach_of : Df := ⟨"reach_of", 2, ["flat", "direction", "found", "corner", "here"], [], b_reach_of, [], []⟩
def b_reach : Ss := .cons (.ex (.call i_check_flat_d (.cons (.var 0) (.nil)))) (.cons (.ifs (.ands (.cons (.cmp .eq (.ix (.var 1) (.int 0)) (.int 0)) (.cons (.cmp .eq (.ix (.var 1) (.int 1)) (.int 0)) (.nil)))) (.cons (.rai "BadPlane" (.int 0)) (.nil)) (.nil)) (.cons (.ret (.call i_reach_of (.cons (.var 0) (.cons (.var 1) (.nil))))) (.nil)))
def d_reach : Df := ⟨"reach", 2, ["flat", "direction"], [], b_reach, [], []⟩
def b_edge_of : Ss := .cons (.par [2, 3] (.cons (.ix (.var 0) (.var 1)) (.cons (.ix (.var 0) (.bin .mod (.bin .add (.var 1) (.int 1)) (.bi .len (.cons (.var 0) (.nil))))) (.nil)))) (.cons (.ret (.tup (.cons (.call i_take (.cons (.ix (.var 3) (.int 0)) (.cons (.ix (.var 2) (.int 0)) (.nil)))) (.cons (.call i_take (.cons (.ix (.var 3) (.int 1)) (.cons (.ix (.var 2) (.int 1)) (.nil)))) (.nil))))) (.nil))
def d_edge_of : Df := ⟨"edge_of", 2, ["flat", "k", "here", "there"], [], b_edge_of, [], []⟩
def b_turn_of : Ss := .cons (.ret (.call i_sign (.cons (.call i_take (.cons (.call i_times (.cons (.ix (.var 0) (.int 0)) (.cons (.ix (.var 1) (.int 1)) (.nil)))) (.cons (.call i_times (.cons (.ix (.var 0) (.int 1)) (.cons (.ix (.var 1) (.int 0)) (.nil)))) (.nil)))) (.nil)))) (.nil)
def d_turn_of : Df := ⟨"turn_of", 2, ["one", "two"], [], b_turn_of, [], []⟩
def b_moved : Ss := .cons (.ret (.tup (.cons (.call i_add (.cons (.ix (.var 0) (.int 0)) (.cons (.ix (.var 1) (.int 0)) (.nil)))) (.cons (.call i_add (.cons (.ix (.var 0) (.int 1)) (.cons (.ix (.var 1) (.int 1)) (.nil)))) (.nil))))) (.nil)
def d_moved : Df := ⟨"moved", 2, ["place", "step"], [], b_moved, [], []⟩
def l_grown_by_1 : Ss := .cons (.app 5 (.var 4)) (.cons (.set 6 (.call i_edge_of (.cons (.var 0) (.cons (.bin .mod (.var 2) (.bi .len (.cons (.var 0) (.nil)))) (.nil))))) (.cons (.set 7 (.call i_edge_of (.cons (.var 1) (.cons (.bin .mod (.var 3) (.bi .len (.cons (.var 1) (.nil)))) (.nil))))) (.cons (.set 8 (.call i_turn_of (.cons (.var 6) (.cons (.var 7) (.nil))))) (.cons (.set 9 (.ands (.cons (.cmp .lt (.var 2) (.bi .len (.cons (.var 0) (.nil)))) (.cons (.cmp .lt (.var 3) (.bi .len (.cons (.var 1) (.nil)))) (.cons (.cmp .eq (.var 8) (.int 0)) (.nil)))))) (.cons (.ifs (.ors (.cons (.cmp .eq (.var 3) (.bi .len (.cons (.var 1) (.nil)))) (.cons (.ands (.cons (.cmp .lt (.var 2) (.bi .len (.cons (.var 0) (.nil)))) (.cons (.ors (.cons (.var 9) (.cons (.cmp .gt (.var 8) (.int 0)) (.nil)))) (.nil)))) (.nil)))) (.cons (.par [4, 2] (.cons (.call i_moved (.cons (.var 4) (.cons (.var 6) (.nil)))) (.cons (.bin .add (.var 2) (.int 1)) (.nil)))) (.cons (.ifs (.var 9) (.cons (.par [4, 3] (.cons (.call i_moved (.cons (.var 4) (.cons (.var 7) (.nil)))) (.cons (.bin .add (.var 3) (.int 1)) (.nil)))) (.nil)) (.nil)) (.nil))) (.cons (.par [4, 3] (.cons (.call i_moved (.cons (.var 4) (.cons (.var 7) (.nil)))) (.cons (.bin .add (.var 3) (.int 1)) (.nil)))) (.nil))) (.nil))))))
def b_grown_by : Ss := .cons (.par [2, 3, 4] (.cons (.int 0) (.cons (.int 0) (.cons (.call i_moved (.cons (.ix (.var 0) (.int 0)) (.cons (.ix (.var 1) (.int 0)) (.nil)))) (.nil))))) (.cons (.setF 5 (.lst (.nil))) (.cons (.whl 1000000 (.ors (.cons (.cmp .lt (.var 2) (.bi .len (.cons (.var 0) (.nil)))) (.cons (.cmp .lt (.var 3) (.bi .len (.cons (.var 1) (.nil)))) (.nil)))) (l_grown_by_1)) (.cons (.ret (.var 5)) (.nil))))
def d_grown_by : Df := ⟨"grown_by", 2, ["one", "two", "i", "j", "here", "found", "first", "second", "way", "both"], [5], b_grown_by, [], []⟩
def b_grown : Ss := .cons (.ex (.call i_check_both (.cons (.var 0) (.cons (.var 1) (.nil))))) (.cons (.ret (.call i_grown_by (.cons (.var 0) (.cons (.var 1) (.nil))))) (.nil))
def d_grown : Df := ⟨"grown", 2, ["one", "two"], [], b_grown, [], []⟩
def b_opposite_of : Ss := .cons (.ret (.call i_begun (.cons (.comp (.tup (.cons (.call i_take (.cons (.glob "ZERO") (.cons (.ix (.var 1) (.int 0)) (.nil)))) (.cons (.call i_take (.cons (.glob "ZERO") (.cons (.ix (.var 1) (.int 1)) (.nil)))) (.nil)))) (.nm 1) (.e (.var 0)) (.none) [1]) (.nil)))) (.nil)
def d_opposite_of : Df := ⟨"opposite_of", 1, ["flat", "corner"], [], b_opposite_of, [], []⟩
def b_opposite : Ss := .cons (.ex (.call i_check_flat_d (.cons (.var 0) (.nil)))) (.cons (.ret (.call i_opposite_of (.cons (.var 0) (.nil)))) (.nil))
def d_opposite : Df := ⟨"opposite", 1, ["flat"], [], b_opposite, [], []⟩
def l_area_1 : Ss := .cons (.set 1 (.call i_add (.cons (.var 1) (.cons (.call i_twice_area (.cons (.tup (.cons (.ix (.var 0) (.int 0)) (.cons (.ix (.var 0) (.bin .sub (.var 2) (.int 1))) (.cons (.ix (.var 0) (.var 2)) (.nil))))) (.nil))) (.nil))))) (.nil)
def b_area : Ss := .cons (.ex (.call i_check_flat_d (.cons (.var 0) (.nil)))) (.cons (.set 1 (.glob "ZERO")) (.cons (.for_ (.nm 2) (.r2 (.int 2) (.bi .len (.cons (.var 0) (.nil)))) (l_area_1)) (.cons (.ret (.call i_times (.cons (.var 1) (.cons (.tup (.cons (.int 1) (.cons (.int 2) (.nil)))) (.nil))))) (.nil))))
def d_area : Df := ⟨"area", 1, ["flat", "found", "k"], [], b_area, [], []⟩
def b_where : Ss := .cons (.set 2 (.comp (.call i_sign (.cons (.call i_twice_area (.cons (.tup (.cons (.ix (.var 0) (.bin .sub (.var 3) (.int 1))) (.cons (.ix (.var 0) (.var 3)) (.cons (.var 1) (.nil))))) (.nil))) (.nil))) (.nm 3) (.r1 (.bi .len (.cons (.var 0) (.nil)))) (.none) [3])) (.cons (.ifs (.cmp .lt (.bi .minL (.cons (.var 2) (.nil))) (.int 0)) (.cons (.ret (.str "out")) (.nil)) (.nil)) (.cons (.ret (.ite (.cmp .gt (.bi .minL (.cons (.var 2) (.nil))) (.int 0)) (.str "in") (.str "on"))) (.nil)))
def d_where : Df := ⟨"where", 2, ["flat", "place", "sides", "k"], [], b_where, [], []⟩
def b_check_pair : Ss := .cons (.ifs (.nt (.call i_is_pair (.cons (.var 0) (.nil)))) (.cons (.rai "BadPlace" (.int 0)) (.nil)) (.nil)) (.nil)
def d_check_pair : Df := ⟨"check_pair", 1, ["told"], [], b_check_pair, [], []⟩
def b_has_place : Ss := .cons (.ex (.call i_check_flat_d (.cons (.var 0) (.nil)))) (.cons (.ex (.call i_check_pair (.cons (.var 1) (.nil)))) (.cons (.ret (.call i_where (.cons (.var 0) (.cons (.var 1) (.nil))))) (.nil)))
def d_has_place : Df := ⟨"has_place", 2, ["flat", "place"], [], b_has_place, [], []⟩
def b_whole_pair : Ss := .cons (.par [1, 2] (.cons (.bin .mul (.ix (.ix (.var 0) (.int 0)) (.int 0)) (.ix (.ix (.var 0) (.int 1)) (.int 1))) (.cons (.bin .mul (.ix (.ix (.var 0) (.int 1)) (.int 0)) (.ix (.ix (.var 0) (.int 0)) (.int 1))) (.nil)))) (.cons (.set 3 (.call i_common (.cons (.var 1) (.cons (.var 2) (.nil))))) (.cons (.ret (.tup (.cons (.bin .fdiv (.var 1) (.var 3)) (.cons (.bin .fdiv (.var 2) (.var 3)) (.nil))))) (.nil)))
def d_whole_pair : Df := ⟨"whole_pair", 1, ["step", "a", "b", "part"], [], b_whole_pair, [], []⟩
def b_outward : Ss := .cons (.set 2 (.call i_edge_of (.cons (.var 0) (.cons (.var 1) (.nil))))) (.cons (.ret (.call i_whole_pair (.cons (.tup (.cons (.ix (.var 2) (.int 1)) (.cons (.call i_take (.cons (.glob "ZERO") (.cons (.ix (.var 2) (.int 0)) (.nil)))) (.nil)))) (.nil)))) (.nil))
def d_outward : Df := ⟨"outward", 2, ["flat", "k", "step"], [], b_outward, [], []⟩
def b_is_parting : Ss := .cons (.set 3 (.call i_reach_of (.cons (.var 1) (.cons (.tup (.cons (.neg (.ix (.var 2) (.int 0))) (.cons (.neg (.ix (.var 2) (.int 1))) (.nil)))) (.nil))))) (.cons (.ret (.call i_is_less (.cons (.call i_add (.cons (.call i_reach_of (.cons (.var 0) (.cons (.var 2) (.nil)))) (.cons (.var 3) (.nil)))) (.cons (.glob "ZERO") (.nil))))) (.nil))
def d_is_parting : Df := ⟨"is_parting", 3, ["one", "two", "direction", "other"], [], b_is_parting, [], []⟩
def l_parting_1 : Ss := .cons (.ifs (.call i_is_parting (.cons (.var 0) (.cons (.var 1) (.cons (.var 6) (.nil))))) (.cons (.ret (.var 6)) (.nil)) (.nil)) (.nil)
def l_parting_2 : Ss := .cons (.unp (.tp [.nm 4, .nm 5]) (.call i_outward (.cons (.var 1) (.cons (.var 3) (.nil))))) (.cons (.app 2 (.tup (.cons (.neg (.var 4)) (.cons (.neg (.var 5)) (.nil))))) (.nil))
def b_parting : Ss := .cons (.setF 2 (.comp (.call i_outward (.cons (.var 0) (.cons (.var 3) (.nil)))) (.nm 3) (.r1 (.bi .len (.cons (.var 0) (.nil)))) (.none) [3])) (.cons (.for_ (.nm 3) (.r1 (.bi .len (.cons (.var 1) (.nil)))) (l_parting_2)) (.cons (.for_ (.nm 6) (.e (.var 2)) (l_parting_1)) (.cons (.ret (.non)) (.nil))))
def d_parting : Df := ⟨"parting", 2, ["one", "two", "ways", "k", "a", "b", "way"], [2], b_parting, [], []⟩
def b_parted_by : Ss := .cons (.ex (.call i_check_both (.cons (.var 0) (.cons (.var 1) (.nil))))) (.cons (.ret (.call i_parting (.cons (.var 0) (.cons (.var 1) (.nil))))) (.nil))
def d_parted_by : Df := ⟨"parted_by", 2, ["one", "two"], [], b_parted_by, [], []⟩
def l_kept_in_1 : Ss := .cons (.unp (.tp [.nm 7, .nm 8, .nm 9]) (.tup (.cons (.ix (.var 4) (.bin .sub (.var 6) (.int 1))) (.cons (.ix (.var 4) (.var 6)) (.cons (.ix (.var 0) (.bin .sub (.var 6) (.int 1))) (.nil)))))) (.cons (.ifs (.cmp .lt (.bin .mul (.call i_sign (.cons (.var 7) (.nil))) (.call i_sign (.cons (.var 8) (.nil)))) (.int 0)) (.cons (.set 10 (.call i_over (.cons (.var 7) (.cons (.call i_take (.cons (.var 7) (.cons (.var 8) (.nil)))) (.nil))))) (.cons (.app 3 (.bi .tuple (.cons (.comp (.call i_add (.cons (.ix (.var 9) (.var 11)) (.cons (.call i_times (.cons (.var 10) (.cons (.call i_take (.cons (.ix (.var 5) (.var 11)) (.cons (.ix (.var 9) (.var 11)) (.nil)))) (.nil)))) (.nil)))) (.nm 11) (.r1 (.int 2)) (.none) [11]) (.nil)))) (.nil))) (.nil)) (.cons (.ifs (.cmp .ge (.call i_sign (.cons (.var 8) (.nil))) (.int 0)) (.cons (.app 3 (.var 5)) (.nil)) (.nil)) (.nil)))
def b_kept_in : Ss := .cons (.setF 3 (.lst (.nil))) (.cons (.set 4 (.comp (.call i_twice_area (.cons (.tup (.cons (.var 1) (.cons (.var 2) (.cons (.var 5) (.nil))))) (.nil))) (.nm 5) (.e (.var 0)) (.none) [5])) (.cons (.for_ (.tp [.nm 6, .nm 5]) (.enum (.var 0)) (l_kept_in_1)) (.cons (.ret (.var 3)) (.nil))))
def d_kept_in : Df := ⟨"kept_in", 3, ["corners", "start", "goal", "found", "values", "corner", "k", "last", "here", "before", "part", "j"], [3], b_kept_in, [], []⟩
def l_meeting_1 : Ss := .cons (.ifs (.call i_is_before (.cons (.var 5) (.cons (.var 4) (.nil)))) (.cons (.set 4 (.var 5)) (.nil)) (.nil)) (.nil)
def l_meeting_2 : Ss := .cons (.set 2 (.call i_kept_in (.cons (.var 2) (.cons (.ix (.var 1) (.bin .sub (.var 3) (.int 1))) (.cons (.ix (.var 1) (.var 3)) (.nil)))))) (.nil)
def b_meeting : Ss := .cons (.ex (.call i_check_both (.cons (.var 0) (.cons (.var 1) (.nil))))) (.cons (.set 2 (.bi .list (.cons (.var 0) (.nil)))) (.cons (.for_ (.nm 3) (.r1 (.bi .len (.cons (.var 1) (.nil)))) (l_meeting_2)) (.cons (.ifs (.cmp .eq (.bi .len (.cons (.var 2) (.nil))) (.int 0)) (.cons (.ret (.non)) (.nil)) (.nil)) (.cons (.set 4 (.ix (.var 2) (.int 0))) (.cons (.for_ (.nm 5) (.e (.sl (.var 2) (.some (.int 1)) (.none))) (l_meeting_1)) (.cons (.ret (.var 4)) (.nil)))))))
def d_meeting : Df := ⟨"meeting", 2, ["one", "two", "left", "k", "found", "corner"], [], b_meeting, [], []⟩
def b_square : Ss := .cons (.ret (.call i_add (.cons (.call i_times (.cons (.ix (.var 0) (.int 0)) (.cons (.ix (.var 0) (.int 0)) (.nil)))) (.cons (.call i_times (.cons (.ix (.var 0) (.int 1)) (.cons (.ix (.var 0) (.int 1)) (.nil)))) (.nil))))) (.nil)
def d_square : Df := ⟨"square", 1, ["step"], [], b_square, [], []⟩
def b_far_from : Ss := .cons (.set 3 (.tup (.cons (.call i_take (.cons (.ix (.var 2) (.int 0)) (.cons (.ix (.var 1) (.int 0)) (.nil)))) (.cons (.call i_take (.cons (.ix (.var 2) (.int 1)) (.cons (.ix (.var 1) (.int 1)) (.nil)))) (.nil))))) (.cons (.set 4 (.tup (.cons (.call i_take (.cons (.ix (.var 0) (.int 0)) (.cons (.ix (.var 1) (.int 0)) (.nil)))) (.cons (.call i_take (.cons (.ix (.var 0) (.int 1)) (.cons (.ix (.var 1) (.int 1)) (.nil)))) (.nil))))) (.cons (.set 5 (.call i_over (.cons (.call i_add (.cons (.call i_times (.cons (.ix (.var 4) (.int 0)) (.cons (.ix (.var 3) (.int 0)) (.nil)))) (.cons (.call i_times (.cons (.ix (.var 4) (.int 1)) (.cons (.ix (.var 3) (.int 1)) (.nil)))) (.nil)))) (.cons (.call i_square (.cons (.var 3) (.nil))) (.nil))))) (.cons (.ifs (.call i_is_less (.cons (.var 5) (.cons (.glob "ZERO") (.nil)))) (.cons (.set 5 (.glob "ZERO")) (.nil)) (.nil)) (.cons (.ifs (.call i_is_less (.cons (.glob "ONE") (.cons (.var 5) (.nil)))) (.cons (.set 5 (.glob "ONE")) (.nil)) (.nil)) (.cons (.set 6 (.call i_moved (.cons (.var 1) (.cons (.tup (.cons (.call i_times (.cons (.var 5) (.cons (.ix (.var 3) (.int 0)) (.nil)))) (.cons (.call i_times (.cons (.var 5) (.cons (.ix (.var 3) (.int 1)) (.nil)))) (.nil)))) (.nil))))) (.cons (.ret (.call i_square (.cons (.tup (.cons (.call i_take (.cons (.ix (.var 0) (.int 0)) (.cons (.ix (.var 6) (.int 0)) (.nil)))) (.cons (.call i_take (.cons (.ix (.var 0) (.int 1)) (.cons (.ix (.var 6) (.int 1)) (.nil)))) (.nil)))) (.nil)))) (.nil)))))))
def d_far_from : Df := ⟨"far_from", 3, ["place", "start", "goal", "step", "way", "part", "near"], [], b_far_from, [], []⟩
def l_gap_1 : Ss := .cons (.set 7 (.call i_far_from (.cons (.var 5) (.cons (.ix (.var 4) (.bin .sub (.var 6) (.int 1))) (.cons (.ix (.var 4) (.var 6)) (.nil)))))) (.cons (.ifs (.ors (.cons (.isN (.var 2)) (.cons (.call i_is_less (.cons (.var 7) (.cons (.var 2) (.nil)))) (.nil)))) (.cons (.set 2 (.var 7)) (.nil)) (.nil)) (.nil))
def l_gap_2 : Ss := .cons (.for_ (.nm 6) (.r1 (.bi .len (.cons (.var 4) (.nil)))) (l_gap_1)) (.nil)
def l_gap_3 : Ss := .cons (.for_ (.nm 5) (.e (.var 3)) (l_gap_2)) (.nil)
def b_gap : Ss := .cons (.ex (.call i_check_both (.cons (.var 0) (.cons (.var 1) (.nil))))) (.cons (.ifs (.isN (.call i_parting (.cons (.var 0) (.cons (.var 1) (.nil))))) (.cons (.ret (.glob "ZERO")) (.nil)) (.nil)) (.cons (.set 2 (.non)) (.cons (.for_ (.tp [.nm 3, .nm 4]) (.e (.tup (.cons (.tup (.cons (.var 0) (.cons (.var 1) (.nil)))) (.cons (.tup (.cons (.var 1) (.cons (.var 0) (.nil)))) (.nil))))) (l_gap_3)) (.cons (.ret (.var 2)) (.nil)))))
def d_gap : Df := ⟨"gap", 2, ["one", "two", "found", "first", "second", "place", "k", "here"], [], b_gap, [], []⟩
def l_comes_to_1 : Ss := .cons (.par [7, 8] (.cons (.ix (.var 3) (.bin .sub (.var 6) (.int 1))) (.cons (.ix (.var 3) (.var 6)) (.nil)))) (.cons (.set 9 (.call i_twice_area (.cons (.tup (.cons (.var 7) (.cons (.var 8) (.cons (.tup (.cons (.glob "ZERO") (.cons (.glob "ZERO") (.nil)))) (.nil))))) (.nil)))) (.cons (.set 10 (.call i_take (.cons (.call i_twice_area (.cons (.tup (.cons (.var 7) (.cons (.var 8) (.cons (.var 2) (.nil))))) (.nil))) (.cons (.var 9) (.nil))))) (.cons (.ifs (.cmp .eq (.call i_sign (.cons (.var 10) (.nil))) (.int 0)) (.cons (.ifs (.cmp .lt (.call i_sign (.cons (.var 9) (.nil))) (.int 0)) (.cons (.ret (.non)) (.nil)) (.nil)) (.nil)) (.cons (.set 11 (.call i_over (.cons (.call i_take (.cons (.glob "ZERO") (.cons (.var 9) (.nil)))) (.cons (.var 10) (.nil))))) (.cons (.ifs (.ands (.cons (.cmp .gt (.call i_sign (.cons (.var 10) (.nil))) (.int 0)) (.cons (.call i_is_less (.cons (.var 4) (.cons (.var 11) (.nil)))) (.nil)))) (.cons (.set 4 (.var 11)) (.nil)) (.nil)) (.cons (.ifs (.ands (.cons (.cmp .lt (.call i_sign (.cons (.var 10) (.nil))) (.int 0)) (.cons (.call i_is_less (.cons (.var 11) (.cons (.var 5) (.nil)))) (.nil)))) (.cons (.set 5 (.var 11)) (.nil)) (.nil)) (.nil))))) (.nil))))
def b_comes_to : Ss := .cons (.ex (.call i_check_both (.cons (.var 0) (.cons (.var 1) (.nil))))) (.cons (.ex (.call i_check_pair (.cons (.var 2) (.nil)))) (.cons (.set 3 (.call i_grown_by (.cons (.var 1) (.cons (.call i_opposite_of (.cons (.var 0) (.nil))) (.nil))))) (.cons (.par [4, 5] (.cons (.glob "ZERO") (.cons (.glob "ONE") (.nil)))) (.cons (.for_ (.nm 6) (.r1 (.bi .len (.cons (.var 3) (.nil)))) (l_comes_to_1)) (.cons (.ret (.ite (.call i_is_less (.cons (.var 5) (.cons (.var 4) (.nil)))) (.non) (.var 4))) (.nil))))))
def d_comes_to : Df := ⟨"comes_to", 3, ["one", "two", "step", "flat", "first", "last", "k", "start", "goal", "here", "change", "time"], [], b_comes_to, [], []⟩
def l__law_draws_1 : Ss := .cons (.ifs (.cmp .gt (.var 3) (.int 0)) (.cons (.app 1 (.bin .mod (.bi .int (.cons (.var 3) (.nil))) (.int 65536))) (.cons (.set 3 (.bin .fdiv (.var 3) (.int 65536))) (.nil))) (.nil)) (.nil)
def l__law_draws_2 : Ss := .cons (.set 3 (.bi .abs (.cons (.ix (.var 0) (.var 2)) (.nil)))) (.cons (.ifs (.cmp .ge (.var 3) (.bin .pow (.int 10) (.int 18))) (.cons (.for_ (.nm 4) (.r1 (.int 60)) (l__law_draws_1)) (.nil)) (.cons (.set 5 (.bin .mod (.bi .int (.cons (.bin .add (.bin .mul (.var 3) (.int 48271)) (.bin .mul (.bin .add (.var 2) (.int 1)) (.int 69621))) (.nil))) (.int 2147483647))) (.cons (.set 5 (.bin .mod (.bi .int (.cons (.bin .add (.bin .add (.bin .mul (.var 5) (.int 16807)) (.bin .mul (.int 11) (.var 2))) (.int 5)) (.nil))) (.int 2147483629))) (.cons (.app 1 (.bin .mod (.bi .int (.cons (.var 5) (.nil))) (.int 65536))) (.cons (.app 1 (.bin .mod (.bi .int (.cons (.bin .fdiv (.var 5) (.int 65536)) (.nil))) (.int 32768))) (.nil)))))) (.nil))
def b__law_draws : Ss := .cons (.setF 1 (.lst (.nil))) (.cons (.for_ (.nm 2) (.r1 (.bi .min2 (.cons (.int 63) (.cons (.bi .len (.cons (.var 0) (.nil))) (.nil))))) (l__law_draws_2)) (.cons (.ret (.var 1)) (.nil)))
def d__law_draws : Df := ⟨"_law_draws", 1, ["script", "draws", "k", "rest", "turn", "stirred"], [1], b__law_draws, [], []⟩
def b__law_mix : Ss := .cons (.set 3 (.int 0)) (.cons (.ifs (.cmp .gt (.bi .len (.cons (.var 0) (.nil))) (.int 0)) (.cons (.set 3 (.ix (.var 0) (.bin .mod (.bi .int (.cons (.var 1) (.nil))) (.bi .len (.cons (.var 0) (.nil)))))) (.nil)) (.nil)) (.cons (.ifs (.cmp .lt (.var 1) (.bi .len (.cons (.var 0) (.nil)))) (.cons (.ret (.bin .mod (.bi .int (.cons (.var 3) (.nil))) (.var 2))) (.nil)) (.nil)) (.cons (.ret (.bin .mod (.bi .int (.cons (.bin .fdiv (.bi .int (.cons (.bin .add (.bin .mul (.var 3) (.int 7919)) (.bin .mul (.var 1) (.int 104729))) (.nil))) (.int 3)) (.nil))) (.var 2))) (.nil))))
def d__law_mix : Df := ⟨"_law_mix", 3, ["draws", "k", "many", "cell"], [], b__law_mix, [], []⟩
def l__law_common_1 : Ss := .cons (.ifs (.cmp .gt (.var 3) (.int 0)) (.cons (.par [2, 3] (.cons (.var 3) (.cons (.bin .mod (.bi .int (.cons (.var 2) (.nil))) (.var 3)) (.nil)))) (.nil)) (.nil)) (.nil)
def b__law_common : Ss := .cons (.par [2, 3] (.cons (.bi .abs (.cons (.var 0) (.nil))) (.cons (.bi .abs (.cons (.var 1) (.nil))) (.nil)))) (.cons (.for_ (.nm 4) (.r1 (.int 400)) (l__law_common_1)) (.cons (.ret (.bi .max2 (.cons (.int 1) (.cons (.var 2) (.nil))))) (.nil)))
def d__law_common : Df := ⟨"_law_common", 2, ["a", "b", "one", "two", "turn"], [], b__law_common, [], []⟩
def b__law_low : Ss := .cons (.set 2 (.bin .mul (.call i__law_common (.cons (.var 0) (.cons (.var 1) (.nil)))) (.ix (.lst (.cons (.int 1) (.cons (.neg (.int 1)) (.nil)))) (.bi .int (.cons (.cmp .lt (.var 1) (.int 0)) (.nil)))))) (.cons (.ret (.tup (.cons (.bin .fdiv (.var 0) (.var 2)) (.cons (.bin .fdiv (.var 1) (.var 2)) (.nil))))) (.nil))
def d__law_low : Df := ⟨"_law_low", 2, ["n", "d", "common_v"], [], b__law_low, [], []⟩
def b__law_add : Ss := .cons (.ret (.call i__law_low (.cons (.bin .add (.bin .mul (.ix (.var 0) (.int 0)) (.ix (.var 1) (.int 1))) (.bin .mul (.ix (.var 1) (.int 0)) (.ix (.var 0) (.int 1)))) (.cons (.bin .mul (.ix (.var 0) (.int 1)) (.ix (.var 1) (.int 1))) (.nil))))) (.nil)
def d__law_add : Df := ⟨"_law_add", 2, ["one", "two"], [], b__law_add, [], []⟩
def b__law_take : Ss := .cons (.ret (.call i__law_low (.cons (.bin .sub (.bin .mul (.ix (.var 0) (.int 0)) (.ix (.var 1) (.int 1))) (.bin .mul (.ix (.var 1) (.int 0)) (.ix (.var 0) (.int 1)))) (.cons (.bin .mul (.ix (.var 0) (.int 1)) (.ix (.var 1) (.int 1))) (.nil))))) (.nil)
def d__law_take : Df := ⟨"_law_take", 2, ["one", "two"], [], b__law_take, [], []⟩
def b__law_times : Ss := .cons (.ret (.call i__law_low (.cons (.bin .mul (.ix (.var 0) (.int 0)) (.ix (.var 1) (.int 0))) (.cons (.bin .mul (.ix (.var 0) (.int 1)) (.ix (.var 1) (.int 1))) (.nil))))) (.nil)
def d__law_times : Df := ⟨"_law_times", 2, ["one", "two"], [], b__law_times, [], []⟩
def b__law_less : Ss := .cons (.ret (.cmp .lt (.bin .mul (.ix (.var 0) (.int 0)) (.ix (.var 1) (.int 1))) (.bin .mul (.ix (.var 1) (.int 0)) (.ix (.var 0) (.int 1))))) (.nil)
def d__law_less : Df := ⟨"_law_less", 2, ["one", "two"], [], b__law_less, [], []⟩
def b__law_least : Ss := .cons (.ret (.ix (.lst (.cons (.var 0) (.cons (.var 1) (.nil)))) (.bi .int (.cons (.call i__law_less (.cons (.var 1) (.cons (.var 0) (.nil)))) (.nil))))) (.nil)
def d__law_least : Df := ⟨"_law_least", 2, ["one", "two"], [], b__law_least, [], []⟩
def b__law_greatest : Ss := .cons (.ret (.ix (.lst (.cons (.var 0) (.cons (.var 1) (.nil)))) (.bi .int (.cons (.call i__law_less (.cons (.var 0) (.cons (.var 1) (.nil)))) (.nil))))) (.nil)
def d__law_greatest : Df := ⟨"_law_greatest", 2, ["one", "two"], [], b__law_greatest, [], []⟩
def b__law_fraction : Ss := .cons (.set 3 (.ix (.lst (.cons (.int 1) (.cons (.int 1) (.cons (.int 2) (.cons (.int 3) (.nil)))))) (.call i__law_mix (.cons (.var 0) (.cons (.var 1) (.cons (.int 4) (.nil))))))) (.cons (.ret (.call i__law_low (.cons (.bin .sub (.call i__law_mix (.cons (.var 0) (.cons (.bin .add (.var 1) (.int 1)) (.cons (.bin .add (.bin .mul (.bin .mul (.int 2) (.var 2)) (.var 3)) (.int 1)) (.nil))))) (.bin .mul (.var 2) (.var 3))) (.cons (.var 3) (.nil))))) (.nil))
def d__law_fraction : Df := ⟨"_law_fraction", 3, ["draws", "k", "most", "low"], [], b__law_fraction, [], []⟩
def l__law_box_1 : Ss := .cons (.set 5 (.ix (.lst (.cons (.int 1) (.cons (.int 1) (.cons (.int 2) (.cons (.int 3) (.nil)))))) (.call i__law_mix (.cons (.var 0) (.cons (.bin .add (.var 1) (.bin .mul (.int 4) (.var 4))) (.cons (.int 4) (.nil))))))) (.cons (.set 6 (.call i__law_fraction (.cons (.var 0) (.cons (.bin .add (.bin .add (.var 1) (.bin .mul (.int 4) (.var 4))) (.int 1)) (.cons (.var 2) (.nil)))))) (.cons (.app 3 (.tup (.cons (.var 6) (.cons (.call i__law_add (.cons (.var 6) (.cons (.call i__law_low (.cons (.bin .add (.int 1) (.call i__law_mix (.cons (.var 0) (.cons (.bin .add (.bin .add (.var 1) (.bin .mul (.int 4) (.var 4))) (.int 3)) (.cons (.bin .mul (.int 2) (.var 2)) (.nil)))))) (.cons (.var 5) (.nil)))) (.nil)))) (.nil))))) (.nil)))
def b__law_box : Ss := .cons (.setF 3 (.lst (.nil))) (.cons (.for_ (.nm 4) (.r1 (.int 2)) (l__law_box_1)) (.cons (.retF 3) (.nil)))
def d__law_box : Df := ⟨"_law_box", 3, ["draws", "k", "most", "rows", "t", "low", "one"], [3], b__law_box, [], []⟩
def l__law_beside_1 : Ss := .cons (.par [6, 7] (.cons (.call i__law_mix (.cons (.var 0) (.cons (.bin .add (.bin .add (.var 1) (.int 20)) (.var 5)) (.cons (.int 5) (.nil))))) (.cons (.call i__law_take (.cons (.ix (.ix (.var 4) (.var 5)) (.int 1)) (.cons (.ix (.ix (.var 4) (.var 5)) (.int 0)) (.nil)))) (.nil)))) (.cons (.ifs (.cmp .eq (.var 6) (.int 0)) (.cons (.setIx 4 (.var 5) (.tup (.cons (.ix (.ix (.var 2) (.var 5)) (.int 1)) (.cons (.call i__law_add (.cons (.ix (.ix (.var 2) (.var 5)) (.int 1)) (.cons (.var 7) (.nil)))) (.nil))))) (.nil)) (.cons (.ifs (.cmp .eq (.var 6) (.int 1)) (.cons (.setIx 4 (.var 5) (.tup (.cons (.call i__law_take (.cons (.ix (.ix (.var 2) (.var 5)) (.int 0)) (.cons (.var 7) (.nil)))) (.cons (.ix (.ix (.var 2) (.var 5)) (.int 0)) (.nil))))) (.nil)) (.cons (.ifs (.cmp .eq (.var 6) (.int 2)) (.cons (.setIx 4 (.var 5) (.tup (.cons (.ix (.ix (.var 2) (.var 5)) (.int 0)) (.cons (.call i__law_add (.cons (.ix (.ix (.var 2) (.var 5)) (.int 0)) (.cons (.var 7) (.nil)))) (.nil))))) (.nil)) (.nil)) (.nil))) (.nil))) (.nil))
def b__law_beside : Ss := .cons (.setF 4 (.callF i__law_box (.cons (.var 0) (.cons (.var 1) (.cons (.var 3) (.nil)))))) (.cons (.for_ (.nm 5) (.r1 (.int 2)) (l__law_beside_1)) (.cons (.ret (.var 4)) (.nil)))
def d__law_beside : Df := ⟨"_law_beside", 4, ["draws", "k", "box", "most", "found", "t", "pick", "size"], [4], b__law_beside, [], []⟩
def b__law_corners : Ss := .cons (.unp (.tp [.tp [.nm 1, .nm 2], .tp [.nm 3, .nm 4]]) (.var 0)) (.cons (.ret (.lst (.cons (.tup (.cons (.var 1) (.cons (.var 3) (.nil)))) (.cons (.tup (.cons (.var 2) (.cons (.var 3) (.nil)))) (.cons (.tup (.cons (.var 2) (.cons (.var 4) (.nil)))) (.cons (.tup (.cons (.var 1) (.cons (.var 4) (.nil)))) (.nil))))))) (.nil))
def d__law_corners : Df := ⟨"_law_corners", 1, ["box", "left", "right", "low", "high"], [], b__law_corners, [], []⟩
def b__law_reach : Ss := .cons (.set 2 (.comp (.ix (.ix (.var 0) (.var 3)) (.bi .int (.cons (.cmp .gt (.ix (.var 1) (.var 3)) (.int 0)) (.nil)))) (.nm 3) (.r1 (.int 2)) (.none) [3])) (.cons (.ret (.call i__law_add (.cons (.call i__law_times (.cons (.ix (.var 2) (.int 0)) (.cons (.tup (.cons (.ix (.var 1) (.int 0)) (.cons (.int 1) (.nil)))) (.nil)))) (.cons (.call i__law_times (.cons (.ix (.var 2) (.int 1)) (.cons (.tup (.cons (.ix (.var 1) (.int 1)) (.cons (.int 1) (.nil)))) (.nil)))) (.nil))))) (.nil))
def d__law_reach : Df := ⟨"_law_reach", 2, ["box", "direction", "ends", "t"], [], b__law_reach, [], []⟩
def l__law_line_1 : Ss := .cons (.set 4 (.call i__law_reach (.cons (.var 1) (.cons (.tup (.cons (.neg (.ix (.var 3) (.int 0))) (.cons (.neg (.ix (.var 3) (.int 1))) (.nil)))) (.nil))))) (.cons (.ifs (.call i__law_less (.cons (.call i__law_add (.cons (.call i__law_reach (.cons (.var 0) (.cons (.var 3) (.nil)))) (.cons (.var 4) (.nil)))) (.cons (.tup (.cons (.int 0) (.cons (.int 1) (.nil)))) (.nil)))) (.cons (.app 2 (.var 3)) (.nil)) (.nil)) (.nil))
def b__law_line : Ss := .cons (.setF 2 (.lst (.nil))) (.cons (.for_ (.nm 3) (.e (.lst (.cons (.tup (.cons (.int 0) (.cons (.neg (.int 1)) (.nil)))) (.cons (.tup (.cons (.int 1) (.cons (.int 0) (.nil)))) (.cons (.tup (.cons (.int 0) (.cons (.int 1) (.nil)))) (.cons (.tup (.cons (.neg (.int 1)) (.cons (.int 0) (.nil)))) (.nil))))))) (l__law_line_1)) (.cons (.ret (.ix (.bin .add (.var 2) (.lst (.cons (.non) (.nil)))) (.int 0))) (.nil)))
def d__law_line : Df := ⟨"_law_line", 2, ["one", "two", "found", "direction", "other"], [2], b__law_line, [], []⟩
def b__law_side_gap : Ss := .cons (.set 2 (.call i__law_greatest (.cons (.call i__law_take (.cons (.ix (.var 0) (.int 0)) (.cons (.ix (.var 1) (.int 1)) (.nil)))) (.cons (.call i__law_take (.cons (.ix (.var 1) (.int 0)) (.cons (.ix (.var 0) (.int 1)) (.nil)))) (.nil))))) (.cons (.ret (.call i__law_greatest (.cons (.var 2) (.cons (.tup (.cons (.int 0) (.cons (.int 1) (.nil)))) (.nil))))) (.nil))
def d__law_side_gap : Df := ⟨"_law_side_gap", 2, ["one", "two", "found"], [], b__law_side_gap, [], []⟩
def b__law_over : Ss := .cons (.ret (.call i__law_low (.cons (.bin .mul (.ix (.var 0) (.int 0)) (.ix (.var 1) (.int 1))) (.cons (.bin .mul (.ix (.var 0) (.int 1)) (.ix (.var 1) (.int 0))) (.nil))))) (.nil)
def d__law_over : Df := ⟨"_law_over", 2, ["one", "two"], [], b__law_over, [], []⟩
def b__law_times_told : Ss := .cons (.ifs (.cmp .eq (.var 2) (.tup (.cons (.int 0) (.cons (.int 1) (.nil))))) (.cons (.ret (.ix (.lst (.cons (.tup (.cons (.tup (.cons (.int 0) (.cons (.int 1) (.nil)))) (.cons (.tup (.cons (.int 1) (.cons (.int 1) (.nil)))) (.nil)))) (.cons (.non) (.nil)))) (.bi .int (.cons (.cmp .ne (.call i__law_side_gap (.cons (.var 0) (.cons (.var 1) (.nil)))) (.tup (.cons (.int 0) (.cons (.int 1) (.nil))))) (.nil))))) (.nil)) (.nil)) (.cons (.par [3, 4] (.cons (.call i__law_over (.cons (.call i__law_take (.cons (.ix (.var 1) (.int 0)) (.cons (.ix (.var 0) (.int 1)) (.nil)))) (.cons (.var 2) (.nil)))) (.cons (.call i__law_over (.cons (.call i__law_take (.cons (.ix (.var 1) (.int 1)) (.cons (.ix (.var 0) (.int 0)) (.nil)))) (.cons (.var 2) (.nil)))) (.nil)))) (.cons (.ifs (.call i__law_less (.cons (.var 4) (.cons (.var 3) (.nil)))) (.cons (.par [3, 4] (.cons (.var 4) (.cons (.var 3) (.nil)))) (.nil)) (.nil)) (.cons (.par [3, 4] (.cons (.call i__law_greatest (.cons (.var 3) (.cons (.tup (.cons (.int 0) (.cons (.int 1) (.nil)))) (.nil)))) (.cons (.call i__law_least (.cons (.var 4) (.cons (.tup (.cons (.int 1) (.cons (.int 1) (.nil)))) (.nil)))) (.nil)))) (.cons (.ret (.ix (.lst (.cons (.tup (.cons (.var 3) (.cons (.var 4) (.nil)))) (.cons (.non) (.nil)))) (.bi .int (.cons (.call i__law_less (.cons (.var 4) (.cons (.var 3) (.nil)))) (.nil))))) (.nil)))))
def d__law_times_told : Df := ⟨"_law_times_told", 3, ["one", "two", "step", "begin", "end"], [], b__law_times_told, [], []⟩
def b__law_comes : Ss := .cons (.set 3 (.comp (.call i__law_times_told (.cons (.ix (.var 0) (.var 4)) (.cons (.ix (.var 1) (.var 4)) (.cons (.ix (.var 2) (.var 4)) (.nil))))) (.nm 4) (.r1 (.int 2)) (.none) [4])) (.cons (.ifs (.ors (.cons (.isN (.ix (.var 3) (.int 0))) (.cons (.isN (.ix (.var 3) (.int 1))) (.nil)))) (.cons (.ret (.non)) (.nil)) (.nil)) (.cons (.par [5, 6] (.cons (.call i__law_greatest (.cons (.ix (.ix (.var 3) (.int 0)) (.int 0)) (.cons (.ix (.ix (.var 3) (.int 1)) (.int 0)) (.nil)))) (.cons (.call i__law_least (.cons (.ix (.ix (.var 3) (.int 0)) (.int 1)) (.cons (.ix (.ix (.var 3) (.int 1)) (.int 1)) (.nil)))) (.nil)))) (.cons (.ret (.ix (.lst (.cons (.var 5) (.cons (.non) (.nil)))) (.bi .int (.cons (.call i__law_less (.cons (.var 6) (.cons (.var 5) (.nil)))) (.nil))))) (.nil))))
def d__law_comes : Df := ⟨"_law_comes", 3, ["one", "two", "step", "rows", "t", "begin", "end"], [], b__law_comes, [], []⟩
def l__law_place_1 : Ss := .cons (.unp (.tp [.nm 6, .nm 7]) (.ix (.var 2) (.var 5))) (.cons (.set 8 (.call i__law_times (.cons (.call i__law_add (.cons (.var 6) (.cons (.var 7) (.nil)))) (.cons (.tup (.cons (.int 1) (.cons (.int 2) (.nil)))) (.nil))))) (.cons (.set 9 (.call i__law_mix (.cons (.var 0) (.cons (.bin .add (.var 1) (.var 5)) (.cons (.int 5) (.nil)))))) (.cons (.app 3 (.ix (.lst (.cons (.var 6) (.cons (.var 7) (.cons (.var 8) (.cons (.call i__law_take (.cons (.var 6) (.cons (.tup (.cons (.int 1) (.cons (.int 7) (.nil)))) (.nil)))) (.cons (.call i__law_add (.cons (.var 7) (.cons (.tup (.cons (.bin .add (.int 1) (.call i__law_mix (.cons (.var 0) (.cons (.bin .add (.bin .add (.var 1) (.int 2)) (.var 5)) (.cons (.int 9) (.nil)))))) (.cons (.int 1) (.nil)))) (.nil)))) (.nil))))))) (.var 9))) (.cons (.app 4 (.ix (.lst (.cons (.int 0) (.cons (.int 0) (.cons (.int 1) (.cons (.neg (.int 1)) (.cons (.neg (.int 1)) (.nil))))))) (.var 9))) (.nil)))))
def b__law_place : Ss := .cons (.parF 3 4 true true (.lst (.nil)) (.lst (.nil))) (.cons (.for_ (.nm 5) (.r1 (.int 2)) (l__law_place_1)) (.cons (.ret (.tup (.cons (.bi .tuple (.cons (.var 3) (.nil))) (.cons (.ix (.lst (.cons (.str "out") (.cons (.str "on") (.cons (.str "in") (.nil))))) (.bin .add (.bi .minL (.cons (.var 4) (.nil))) (.int 1))) (.nil))))) (.nil)))
def d__law_place : Df := ⟨"_law_place", 3, ["draws", "k", "box", "place", "sides", "t", "low", "high", "middle", "pick"], [3, 4], b__law_place, [], []⟩
def b__law_refused : Ss := .cons (.tri (.cons (.ifs (.cmp .eq (.var 0) (.int 1)) (.cons (.ex (.call i_reach (.cons (.var 1) (.cons (.var 2) (.nil))))) (.nil)) (.cons (.ifs (.cmp .eq (.var 0) (.int 2)) (.cons (.ex (.call i_grown (.cons (.var 1) (.cons (.var 2) (.nil))))) (.nil)) (.cons (.ifs (.cmp .eq (.var 0) (.int 3)) (.cons (.ex (.call i_has_place (.cons (.var 1) (.cons (.var 2) (.nil))))) (.nil)) (.cons (.ifs (.cmp .eq (.var 0) (.int 4)) (.cons (.ex (.call i_gap (.cons (.var 1) (.cons (.var 2) (.nil))))) (.nil)) (.cons (.ifs (.cmp .eq (.var 0) (.int 5)) (.cons (.ex (.call i_comes_to (.cons (.var 1) (.cons (.var 1) (.cons (.var 2) (.nil)))))) (.nil)) (.nil)) (.nil))) (.nil))) (.nil))) (.nil))) (.nil)) 3 [("BadShape", .pair "shape"), ("BadPlane", .pair "plane"), ("BadPlace", .pair "place")]) (.cons (.ret (.non)) (.nil))
def d__law_refused : Df := ⟨"_law_refused", 3, ["which", "one", "two", "e"], [], b__law_refused, [], []⟩
def l__law_single_1 : Ss := .cons (.set 9 (.tup (.cons (.bin .sub (.call i__law_mix (.cons (.var 0) (.cons (.bin .add (.var 1) (.bin .mul (.int 2) (.var 8))) (.cons (.int 9) (.nil))))) (.int 4)) (.cons (.bin .sub (.call i__law_mix (.cons (.var 0) (.cons (.bin .add (.bin .add (.var 1) (.int 1)) (.bin .mul (.int 2) (.var 8))) (.cons (.int 9) (.nil))))) (.int 4)) (.nil))))) (.cons (.ifs (.cmp .eq (.var 9) (.tup (.cons (.int 0) (.cons (.int 0) (.nil))))) (.cons (.ifs (.cmp .ne (.call i__law_refused (.cons (.int 1) (.cons (.bi .list (.cons (.var 3) (.nil))) (.cons (.var 9) (.nil))))) (.tup (.cons (.str "plane") (.cons (.int 0) (.nil))))) (.cons (.ret (.bl false)) (.nil)) (.nil)) (.nil)) (.cons (.ifs (.ors (.cons (.cmp .ne (.call i_reach (.cons (.bi .list (.cons (.var 3) (.nil))) (.cons (.var 9) (.nil)))) (.call i__law_reach (.cons (.var 2) (.cons (.var 9) (.nil))))) (.cons (.cmp .ne (.call i_reach (.cons (.call i_opposite (.cons (.bi .list (.cons (.var 3) (.nil))) (.nil))) (.cons (.var 9) (.nil)))) (.call i_reach (.cons (.bi .list (.cons (.var 3) (.nil))) (.cons (.tup (.cons (.neg (.ix (.var 9) (.int 0))) (.cons (.neg (.ix (.var 9) (.int 1))) (.nil)))) (.nil))))) (.nil)))) (.cons (.ret (.bl false)) (.nil)) (.nil)) (.nil))) (.cons (.unp (.tp [.nm 10, .nm 11]) (.call i__law_place (.cons (.var 0) (.cons (.bin .add (.bin .add (.var 1) (.int 20)) (.bin .mul (.int 5) (.var 8))) (.cons (.var 2) (.nil)))))) (.cons (.ifs (.cmp .ne (.call i_has_place (.cons (.bi .list (.cons (.var 3) (.nil))) (.cons (.var 10) (.nil)))) (.var 11)) (.cons (.ret (.bl false)) (.nil)) (.nil)) (.nil))))
def b__law_single : Ss := .cons (.set 3 (.call i__law_corners (.cons (.var 2) (.nil)))) (.cons (.set 4 (.comp (.call i__law_take (.cons (.ix (.var 5) (.int 1)) (.cons (.ix (.var 5) (.int 0)) (.nil)))) (.nm 5) (.e (.var 2)) (.none) [5])) (.cons (.ifs (.ors (.cons (.noB true (.call i_is_flat (.cons (.bi .list (.cons (.var 3) (.nil))) (.nil)))) (.cons (.cmp .ne (.call i_area (.cons (.bi .list (.cons (.var 3) (.nil))) (.nil))) (.call i__law_times (.cons (.ix (.var 4) (.int 0)) (.cons (.ix (.var 4) (.int 1)) (.nil))))) (.nil)))) (.cons (.ret (.bl false)) (.nil)) (.nil)) (.cons (.ifs (.cmp .ne (.comp (.call i_is_flat (.cons (.var 6) (.nil))) (.nm 6) (.e (.lst (.cons (.bin .add (.sl (.var 3) (.some (.int 1)) (.none)) (.sl (.var 3) (.none) (.some (.int 1)))) (.cons (.bin .add (.lst (.cons (.ix (.var 3) (.int 0)) (.nil))) (.st (.var 3) (.none) (.some (.int 0)) (.some (.neg (.int 1))))) (.cons (.bin .add (.sl (.var 3) (.none) (.some (.int 2))) (.sl (.var 3) (.some (.int 1)) (.none))) (.cons (.bin .add (.var 3) (.var 3)) (.cons (.sl (.var 3) (.none) (.some (.int 2))) (.nil)))))))) (.none) [6]) (.bin .mul (.lst (.cons (.bl false) (.nil))) (.int 5))) (.cons (.ret (.bl false)) (.nil)) (.nil)) (.cons (.set 7 (.comp (.tup (.cons (.call i__law_take (.cons (.tup (.cons (.int 0) (.cons (.int 1) (.nil)))) (.cons (.ix (.var 5) (.int 1)) (.nil)))) (.cons (.call i__law_take (.cons (.tup (.cons (.int 0) (.cons (.int 1) (.nil)))) (.cons (.ix (.var 5) (.int 0)) (.nil)))) (.nil)))) (.nm 5) (.e (.var 2)) (.none) [5])) (.cons (.ifs (.ors (.cons (.cmp .ne (.call i_opposite (.cons (.bi .list (.cons (.var 3) (.nil))) (.nil))) (.call i__law_corners (.cons (.var 7) (.nil)))) (.cons (.cmp .ne (.call i_opposite (.cons (.call i_opposite (.cons (.bi .list (.cons (.var 3) (.nil))) (.nil))) (.nil))) (.var 3)) (.nil)))) (.cons (.ret (.bl false)) (.nil)) (.nil)) (.cons (.for_ (.nm 8) (.r1 (.int 6)) (l__law_single_1)) (.cons (.set 12 (.sl (.var 3) (.none) (.some (.int 3)))) (.cons (.ret (.ands (.cons (.cmp .eq (.call i_area (.cons (.bi .list (.cons (.var 12) (.nil))) (.nil))) (.call i__law_times (.cons (.call i__law_times (.cons (.ix (.var 4) (.int 0)) (.cons (.ix (.var 4) (.int 1)) (.nil)))) (.cons (.tup (.cons (.int 1) (.cons (.int 2) (.nil)))) (.nil))))) (.cons (.cmp .eq (.call i_has_place (.cons (.bi .list (.cons (.var 12) (.nil))) (.cons (.ix (.var 3) (.int 3)) (.nil)))) (.str "out")) (.cons (.cmp .eq (.call i_has_place (.cons (.bi .list (.cons (.var 12) (.nil))) (.cons (.ix (.var 3) (.int 1)) (.nil)))) (.str "on")) (.nil)))))) (.nil)))))))))
def d__law_single : Df := ⟨"_law_single", 3, ["draws", "k", "box", "corners", "sizes", "side", "rows", "back", "t", "direction", "place", "where_v", "half"], [], b__law_single, [], []⟩
def l_law_1 : Ss := .cons (.setF 15 (.lst (.cons (.call i__law_fraction (.cons (.var 1) (.cons (.bin .add (.bin .add (.var 3) (.int 80)) (.bin .mul (.int 6) (.var 10))) (.cons (.var 4) (.nil))))) (.cons (.call i__law_fraction (.cons (.var 1) (.cons (.bin .add (.bin .add (.var 3) (.int 82)) (.bin .mul (.int 6) (.var 10))) (.cons (.var 4) (.nil))))) (.nil))))) (.cons (.set 16 (.call i__law_mix (.cons (.var 1) (.cons (.bin .add (.bin .add (.var 3) (.int 84)) (.bin .mul (.int 6) (.var 10))) (.cons (.int 5) (.nil)))))) (.cons (.ifs (.cmp .lt (.var 16) (.int 2)) (.cons (.setIx 15 (.var 16) (.tup (.cons (.int 0) (.cons (.int 1) (.nil))))) (.nil)) (.cons (.ifs (.cmp .eq (.var 16) (.int 2)) (.cons (.setF 15 (.comp (.call i__law_take (.cons (.ix (.ix (.var 6) (.var 17)) (.int 0)) (.cons (.ix (.ix (.var 5) (.var 17)) (.call i__law_mix (.cons (.var 1) (.cons (.bin .add (.bin .add (.var 3) (.int 85)) (.bin .mul (.int 6) (.var 10))) (.cons (.int 2) (.nil)))))) (.nil)))) (.nm 17) (.r1 (.int 2)) (.none) [17])) (.nil)) (.nil)) (.nil))) (.cons (.set 18 (.call i_comes_to (.cons (.bi .list (.cons (.var 7) (.nil))) (.cons (.bi .list (.cons (.var 8) (.nil))) (.cons (.bi .tuple (.cons (.var 15) (.nil))) (.nil)))))) (.cons (.ifs (.ors (.cons (.cmp .ne (.var 18) (.call i__law_comes (.cons (.var 5) (.cons (.var 6) (.cons (.var 15) (.nil)))))) (.cons (.cmp .ne (.cmp .eq (.var 18) (.tup (.cons (.int 0) (.cons (.int 1) (.nil))))) (.var 13)) (.nil)))) (.cons (.ret (.bl false)) (.nil)) (.nil)) (.cons (.ifs (.noN (.var 18)) (.cons (.set 19 (.comp (.bi .tuple (.cons (.comp (.call i__law_add (.cons (.var 20) (.cons (.call i__law_times (.cons (.var 18) (.cons (.ix (.var 15) (.var 17)) (.nil)))) (.nil)))) (.nm 20) (.e (.ix (.var 5) (.var 17))) (.none) [20]) (.nil))) (.nm 17) (.r1 (.int 2)) (.none) [17])) (.cons (.ifs (.cmp .ne (.call i_gap (.cons (.call i__law_corners (.cons (.var 19) (.nil))) (.cons (.bi .list (.cons (.var 8) (.nil))) (.nil)))) (.tup (.cons (.int 0) (.cons (.int 1) (.nil))))) (.cons (.ret (.bl false)) (.nil)) (.nil)) (.nil))) (.nil)) (.nil))))))
def l_law_2 : Ss := .cons (.set 3 (.bin .add (.int 10) (.bin .mul (.int 120) (.var 2)))) (.cons (.set 4 (.ix (.lst (.cons (.int 6) (.cons (.int 60) (.cons (.int 1000) (.nil))))) (.call i__law_mix (.cons (.var 1) (.cons (.var 3) (.cons (.int 3) (.nil))))))) (.cons (.set 5 (.call i__law_box (.cons (.var 1) (.cons (.bin .add (.var 3) (.int 1)) (.cons (.var 4) (.nil)))))) (.cons (.set 6 (.call i__law_beside (.cons (.var 1) (.cons (.bin .add (.var 3) (.int 12)) (.cons (.var 5) (.cons (.var 4) (.nil))))))) (.cons (.par [7, 8] (.cons (.call i__law_corners (.cons (.var 5) (.nil))) (.cons (.call i__law_corners (.cons (.var 6) (.nil))) (.nil)))) (.cons (.ifs (.nt (.call i__law_single (.cons (.var 1) (.cons (.bin .add (.var 3) (.int 40)) (.cons (.var 5) (.nil)))))) (.cons (.ret (.bl false)) (.nil)) (.nil)) (.cons (.set 9 (.comp (.tup (.cons (.call i__law_add (.cons (.ix (.ix (.var 5) (.var 10)) (.int 0)) (.cons (.ix (.ix (.var 6) (.var 10)) (.int 0)) (.nil)))) (.cons (.call i__law_add (.cons (.ix (.ix (.var 5) (.var 10)) (.int 1)) (.cons (.ix (.ix (.var 6) (.var 10)) (.int 1)) (.nil)))) (.nil)))) (.nm 10) (.r1 (.int 2)) (.none) [10])) (.cons (.ifs (.ors (.cons (.cmp .ne (.call i_grown (.cons (.bi .list (.cons (.var 7) (.nil))) (.cons (.bi .list (.cons (.var 8) (.nil))) (.nil)))) (.call i__law_corners (.cons (.var 9) (.nil)))) (.cons (.cmp .ne (.call i_grown (.cons (.bi .list (.cons (.var 8) (.nil))) (.cons (.bi .list (.cons (.var 7) (.nil))) (.nil)))) (.call i__law_corners (.cons (.var 9) (.nil)))) (.nil)))) (.cons (.ret (.bl false)) (.nil)) (.nil)) (.cons (.set 11 (.comp (.call i__law_side_gap (.cons (.ix (.var 5) (.var 10)) (.cons (.ix (.var 6) (.var 10)) (.nil)))) (.nm 10) (.r1 (.int 2)) (.none) [10])) (.cons (.set 12 (.call i__law_add (.cons (.call i__law_times (.cons (.ix (.var 11) (.int 0)) (.cons (.ix (.var 11) (.int 0)) (.nil)))) (.cons (.call i__law_times (.cons (.ix (.var 11) (.int 1)) (.cons (.ix (.var 11) (.int 1)) (.nil)))) (.nil))))) (.cons (.set 13 (.cmp .eq (.var 12) (.tup (.cons (.int 0) (.cons (.int 1) (.nil)))))) (.cons (.ifs (.ors (.cons (.cmp .ne (.call i_gap (.cons (.bi .list (.cons (.var 7) (.nil))) (.cons (.bi .list (.cons (.var 8) (.nil))) (.nil)))) (.var 12)) (.cons (.cmp .ne (.call i_gap (.cons (.bi .list (.cons (.var 8) (.nil))) (.cons (.bi .list (.cons (.var 7) (.nil))) (.nil)))) (.var 12)) (.nil)))) (.cons (.ret (.bl false)) (.nil)) (.nil)) (.cons (.ifs (.ors (.cons (.cmp .ne (.call i_parted_by (.cons (.bi .list (.cons (.var 7) (.nil))) (.cons (.bi .list (.cons (.var 8) (.nil))) (.nil)))) (.call i__law_line (.cons (.var 5) (.cons (.var 6) (.nil))))) (.cons (.cmp .ne (.isN (.call i__law_line (.cons (.var 5) (.cons (.var 6) (.nil))))) (.var 13)) (.nil)))) (.cons (.ret (.bl false)) (.nil)) (.nil)) (.cons (.set 14 (.bi .tuple (.cons (.comp (.call i__law_greatest (.cons (.ix (.ix (.var 5) (.var 10)) (.int 0)) (.cons (.ix (.ix (.var 6) (.var 10)) (.int 0)) (.nil)))) (.nm 10) (.r1 (.int 2)) (.none) [10]) (.nil)))) (.cons (.ifs (.ors (.cons (.cmp .ne (.call i_meeting (.cons (.bi .list (.cons (.var 7) (.nil))) (.cons (.bi .list (.cons (.var 8) (.nil))) (.nil)))) (.ix (.lst (.cons (.non) (.cons (.var 14) (.nil)))) (.bi .int (.cons (.var 13) (.nil))))) (.cons (.cmp .ne (.call i_meeting (.cons (.bi .list (.cons (.var 8) (.nil))) (.cons (.bi .list (.cons (.var 7) (.nil))) (.nil)))) (.ix (.lst (.cons (.non) (.cons (.var 14) (.nil)))) (.bi .int (.cons (.var 13) (.nil))))) (.nil)))) (.cons (.ret (.bl false)) (.nil)) (.nil)) (.cons (.ifs (.cmp .ne (.cmp .ne (.call i_has_place (.cons (.call i_grown (.cons (.bi .list (.cons (.var 8) (.nil))) (.cons (.call i_opposite (.cons (.bi .list (.cons (.var 7) (.nil))) (.nil))) (.nil)))) (.cons (.tup (.cons (.tup (.cons (.int 0) (.cons (.int 1) (.nil)))) (.cons (.tup (.cons (.int 0) (.cons (.int 1) (.nil)))) (.nil)))) (.nil)))) (.str "out")) (.var 13)) (.cons (.ret (.bl false)) (.nil)) (.nil)) (.cons (.for_ (.nm 10) (.r1 (.int 5)) (l_law_1)) (.nil)))))))))))))))))
def b_law : Ss := .cons (.set 1 (.call i__law_draws (.cons (.var 0) (.nil)))) (.cons (.for_ (.nm 2) (.r1 (.int 4)) (l_law_2)) (.cons (.set 21 (.lst (.cons (.tup (.cons (.tup (.cons (.int 0) (.cons (.int 1) (.nil)))) (.cons (.tup (.cons (.int 0) (.cons (.int 1) (.nil)))) (.nil)))) (.cons (.tup (.cons (.tup (.cons (.int 1) (.cons (.int 1) (.nil)))) (.cons (.tup (.cons (.int 0) (.cons (.int 1) (.nil)))) (.nil)))) (.cons (.tup (.cons (.tup (.cons (.int 2) (.cons (.int 1) (.nil)))) (.cons (.tup (.cons (.int 0) (.cons (.int 1) (.nil)))) (.nil)))) (.nil)))))) (.cons (.set 22 (.call i__law_corners (.cons (.lst (.cons (.tup (.cons (.tup (.cons (.int 0) (.cons (.int 1) (.nil)))) (.cons (.tup (.cons (.int 1) (.cons (.int 1) (.nil)))) (.nil)))) (.cons (.tup (.cons (.tup (.cons (.int 0) (.cons (.int 1) (.nil)))) (.cons (.tup (.cons (.int 1) (.cons (.int 1) (.nil)))) (.nil)))) (.nil)))) (.nil)))) (.cons (.set 23 (.lst (.cons (.call i__law_refused (.cons (.int 1) (.cons (.var 21) (.cons (.tup (.cons (.int 0) (.cons (.int 0) (.nil)))) (.nil))))) (.cons (.call i__law_refused (.cons (.int 2) (.cons (.var 22) (.cons (.var 21) (.nil))))) (.cons (.call i__law_refused (.cons (.int 3) (.cons (.var 22) (.cons (.tup (.cons (.tup (.cons (.int 2) (.cons (.int 4) (.nil)))) (.cons (.tup (.cons (.int 0) (.cons (.int 1) (.nil)))) (.nil)))) (.nil))))) (.cons (.call i__law_refused (.cons (.int 4) (.cons (.var 21) (.cons (.var 21) (.nil))))) (.cons (.call i__law_refused (.cons (.int 5) (.cons (.var 22) (.cons (.tup (.cons (.tup (.cons (.int 0) (.cons (.int 1) (.nil)))) (.cons (.tup (.cons (.int 0) (.cons (.int 2) (.nil)))) (.nil)))) (.nil))))) (.nil)))))))) (.cons (.ret (.cmp .eq (.var 23) (.lst (.cons (.tup (.cons (.str "shape") (.cons (.int 0) (.nil)))) (.cons (.tup (.cons (.str "shape") (.cons (.int 1) (.nil)))) (.cons (.tup (.cons (.str "place") (.cons (.int 0) (.nil)))) (.cons (.tup (.cons (.str "shape") (.cons (.int 0) (.nil)))) (.cons (.tup (.cons (.str "place") (.cons (.int 0) (.nil)))) (.nil))))))))) (.nil))))))
def d_law : Df := ⟨"law", 1, ["script", "draws", "turn", "k", "most", "one", "two", "first", "second", "sums", "t", "gaps", "due", "is_near", "least", "step", "pick", "s", "time", "there", "side", "line", "square_v", "told"], [15], b_law, [], []⟩
def tab : List (Str × List Str) := [("DrawError", ["DrawError"]), ("BadFraction", ["BadFraction", "DrawError"]), ("BadShape", ["BadShape", "DrawError"]), ("BadPlane", ["BadPlane", "DrawError"]), ("BadPlace", ["BadPlace", "DrawError"])]
def glo : List (Str × PD) := [("ZERO", .tuple [.int 0, .int 1]), ("ONE", .tuple [.int 1, .int 1]), ("MOST_CORNERS", .int 60)]
def T : List Df := [d_common, d_plain, d_add, d_take, d_times, d_over, d_sign, d_is_less, d_twice_area, d_is_fraction, d_is_pair, d_is_before, d_is_flat, d_check_flat, d_check_flat_d, d_check_both, d_begun, d_along, d_reach_of, d_reach, d_edge_of, d_turn_of, d_moved, d_grown_by, d_grown, d_opposite_of, d_opposite, d_area, d_where, d_check_pair, d_has_place, d_whole_pair, d_outward, d_is_parting, d_parting, d_parted_by, d_kept_in, d_meeting, d_square, d_far_from, d_gap, d_comes_to, d__law_draws, d__law_mix, d__law_common, d__law_low, d__law_add, d__law_take, d__law_times, d__law_less, d__law_least, d__law_greatest, d__law_fraction, d__law_box, d__law_beside, d__law_corners, d__law_reach, d__law_line, d__law_side_gap, d__law_over, d__law_times_told, d__law_comes, d__law_place, d__law_refused, d__law_single, d_law]
def pg : Pg := ⟨T, glo, subX tab⟩
def clsBody (st : Stmt) : List Stmt := match st with
  | .ClassDef _ _ _ b _ _ _ _ _ _ _ => b
  | _ => []
def iniSt : Stmt := (clsBody (topSt 1)).getD 0 (.Pass ⟨0, 0, 0, 0⟩)
def hd : Hd := ⟨pg, tab, "DrawError", "DrawError.__init__", prog.main.file, iniSt, [topSt 9, topSt 10, topSt 11, topSt 12, topSt 13, topSt 14, topSt 15, topSt 16, topSt 18, topSt 20, topSt 23, topSt 24, topSt 25, topSt 26, topSt 26, topSt 27, topSt 28, topSt 29, topSt 30, topSt 31, topSt 32, topSt 33, topSt 34, topSt 35, topSt 36, topSt 37, topSt 38, topSt 39, topSt 40, topSt 41, topSt 42, topSt 44, topSt 45, topSt 46, topSt 47, topSt 48, topSt 49, topSt 50, topSt 51, topSt 52, topSt 53, topSt 54, topSt 56, topSt 57, topSt 58, topSt 59, topSt 60, topSt 61, topSt 62, topSt 63, topSt 64, topSt 65, topSt 66, topSt 67, topSt 68, topSt 69, topSt 70, topSt 71, topSt 72, topSt 73, topSt 74, topSt 75, topSt 76, topSt 77, topSt 78, topSt 79]⟩
theorem u_common (m : Nat) (a0 a1 : PD) : evF pg (m + 1) i_common [a0, a1] = fin (evSs (sgOf pg m) b_common ([], [some a0, some a1, none, none])) := evF_at d_common rfl rfl
theorem u_plain (m : Nat) (a0 a1 : PD) : evF pg (m + 1) i_plain [a0, a1] = fin (evSs (sgOf pg m) b_plain ([], [some a0, some a1, none])) := evF_at d_plain rfl rfl
theorem u_add (m : Nat) (a0 a1 : PD) : evF pg (m + 1) i_add [a0, a1] = fin (evSs (sgOf pg m) b_add ([], [some a0, some a1])) := evF_at d_add rfl rfl
theorem u_take (m : Nat) (a0 a1 : PD) : evF pg (m + 1) i_take [a0, a1] = fin (evSs (sgOf pg m) b_take ([], [some a0, some a1])) := evF_at d_take rfl rfl
theorem u_times (m : Nat) (a0 a1 : PD) : evF pg (m + 1) i_times [a0, a1] = fin (evSs (sgOf pg m) b_times ([], [some a0, some a1])) := evF_at d_times rfl rfl
theorem u_over (m : Nat) (a0 a1 : PD) : evF pg (m + 1) i_over [a0, a1] = fin (evSs (sgOf pg m) b_over ([], [some a0, some a1])) := evF_at d_over rfl rfl
theorem u_sign (m : Nat) (a0 : PD) : evF pg (m + 1) i_sign [a0] = fin (evSs (sgOf pg m) b_sign ([], [some a0])) := evF_at d_sign rfl rfl
theorem u_is_less (m : Nat) (a0 a1 : PD) : evF pg (m + 1) i_is_less [a0, a1] = fin (evSs (sgOf pg m) b_is_less ([], [some a0, some a1])) := evF_at d_is_less rfl rfl
theorem u_twice_area (m : Nat) (a0 : PD) : evF pg (m + 1) i_twice_area [a0] = fin (evSs (sgOf pg m) b_twice_area ([], [some a0, none, none, none, none, none, none])) := evF_at d_twice_area rfl rfl
theorem u_is_fraction (m : Nat) (a0 : PD) : evF pg (m + 1) i_is_fraction [a0] = fin (evSs (sgOf pg m) b_is_fraction ([], [some a0])) := evF_at d_is_fraction rfl rfl
theorem u_is_pair (m : Nat) (a0 : PD) : evF pg (m + 1) i_is_pair [a0] = fin (evSs (sgOf pg m) b_is_pair ([], [some a0, none])) := evF_at d_is_pair rfl rfl
theorem u_is_before (m : Nat) (a0 a1 : PD) : evF pg (m + 1) i_is_before [a0, a1] = fin (evSs (sgOf pg m) b_is_before ([], [some a0, some a1])) := evF_at d_is_before rfl rfl
theorem u_is_flat (m : Nat) (a0 : PD) : evF pg (m + 1) i_is_flat [a0] = fin (evSs (sgOf pg m) b_is_flat ([], [some a0, none, none, none])) := evF_at d_is_flat rfl rfl
theorem u_check_flat (m : Nat) (a0 a1 : PD) : evF pg (m + 1) i_check_flat [a0, a1] = fin (evSs (sgOf pg m) b_check_flat ([], [some a0, some a1])) := evF_at d_check_flat rfl rfl
theorem u_check_flat_d (m : Nat) (a0 : PD) : evF pg (m + 1) i_check_flat_d [a0] = fin (evSs (sgOf pg m) b_check_flat ([], [some a0, some (.int 0)])) := evF_at d_check_flat_d rfl rfl
theorem u_check_both (m : Nat) (a0 a1 : PD) : evF pg (m + 1) i_check_both [a0, a1] = fin (evSs (sgOf pg m) b_check_both ([], [some a0, some a1])) := evF_at d_check_both rfl rfl
theorem u_begun (m : Nat) (a0 : PD) : evF pg (m + 1) i_begun [a0] = fin (evSs (sgOf pg m) b_begun ([], [some a0, none, none])) := evF_at d_begun rfl rfl
theorem u_along (m : Nat) (a0 a1 : PD) : evF pg (m + 1) i_along [a0, a1] = fin (evSs (sgOf pg m) b_along ([], [some a0, some a1])) := evF_at d_along rfl rfl
theorem u_reach_of (m : Nat) (a0 a1 : PD) : evF pg (m + 1) i_reach_of [a0, a1] = fin (evSs (sgOf pg m) b_reach_of ([], [some a0, some a1, none, none, none])) := evF_at d_reach_of rfl rfl
theorem u_reach (m : Nat) (a0 a1 : PD) : evF pg (m + 1) i_reach [a0, a1] = fin (evSs (sgOf pg m) b_reach ([], [some a0, some a1])) := evF_at d_reach rfl rfl
theorem u_edge_of (m : Nat) (a0 a1 : PD) : evF pg (m + 1) i_edge_of [a0, a1] = fin (evSs (sgOf pg m) b_edge_of ([], [some a0, some a1, none, none])) := evF_at d_edge_of rfl rfl
theorem u_turn_of (m : Nat) (a0 a1 : PD) : evF pg (m + 1) i_turn_of [a0, a1] = fin (evSs (sgOf pg m) b_turn_of ([], [some a0, some a1])) := evF_at d_turn_of rfl rfl
theorem u_moved (m : Nat) (a0 a1 : PD) : evF pg (m + 1) i_moved [a0, a1] = fin (evSs (sgOf pg m) b_moved ([], [some a0, some a1])) := evF_at d_moved rfl rfl
theorem u_grown_by (m : Nat) (a0 a1 : PD) : evF pg (m + 1) i_grown_by [a0, a1] = fin (evSs (sgOf pg m) b_grown_by ([], [some a0, some a1, none, none, none, none, none, none, none, none])) := evF_at d_grown_by rfl rfl
theorem u_grown (m : Nat) (a0 a1 : PD) : evF pg (m + 1) i_grown [a0, a1] = fin (evSs (sgOf pg m) b_grown ([], [some a0, some a1])) := evF_at d_grown rfl rfl
theorem u_opposite_of (m : Nat) (a0 : PD) : evF pg (m + 1) i_opposite_of [a0] = fin (evSs (sgOf pg m) b_opposite_of ([], [some a0, none])) := evF_at d_opposite_of rfl rfl
theorem u_opposite (m : Nat) (a0 : PD) : evF pg (m + 1) i_opposite [a0] = fin (evSs (sgOf pg m) b_opposite ([], [some a0])) := evF_at d_opposite rfl rfl
theorem u_area (m : Nat) (a0 : PD) : evF pg (m + 1) i_area [a0] = fin (evSs (sgOf pg m) b_area ([], [some a0, none, none])) := evF_at d_area rfl rfl
theorem u_where (m : Nat) (a0 a1 : PD) : evF pg (m + 1) i_where [a0, a1] = fin (evSs (sgOf pg m) b_where ([], [some a0, some a1, none, none])) := evF_at d_where rfl rfl
theorem u_check_pair (m : Nat) (a0 : PD) : evF pg (m + 1) i_check_pair [a0] = fin (evSs (sgOf pg m) b_check_pair ([], [some a0])) := evF_at d_check_pair rfl rfl
theorem u_has_place (m : Nat) (a0 a1 : PD) : evF pg (m + 1) i_has_place [a0, a1] = fin (evSs (sgOf pg m) b_has_place ([], [some a0, some a1])) := evF_at d_has_place rfl rfl
theorem u_whole_pair (m : Nat) (a0 : PD) : evF pg (m + 1) i_whole_pair [a0] = fin (evSs (sgOf pg m) b_whole_pair ([], [some a0, none, none, none])) := evF_at d_whole_pair rfl rfl
theorem u_outward (m : Nat) (a0 a1 : PD) : evF pg (m + 1) i_outward [a0, a1] = fin (evSs (sgOf pg m) b_outward ([], [some a0, some a1, none])) := evF_at d_outward rfl rfl
theorem u_is_parting (m : Nat) (a0 a1 a2 : PD) : evF pg (m + 1) i_is_parting [a0, a1, a2] = fin (evSs (sgOf pg m) b_is_parting ([], [some a0, some a1, some a2, none])) := evF_at d_is_parting rfl rfl
theorem u_parting (m : Nat) (a0 a1 : PD) : evF pg (m + 1) i_parting [a0, a1] = fin (evSs (sgOf pg m) b_parting ([], [some a0, some a1, none, none, none, none, none])) := evF_at d_parting rfl rfl
theorem u_parted_by (m : Nat) (a0 a1 : PD) : evF pg (m + 1) i_parted_by [a0, a1] = fin (evSs (sgOf pg m) b_parted_by ([], [some a0, some a1])) := evF_at d_parted_by rfl rfl
theorem u_kept_in (m : Nat) (a0 a1 a2 : PD) : evF pg (m + 1) i_kept_in [a0, a1, a2] = fin (evSs (sgOf pg m) b_kept_in ([], [some a0, some a1, some a2, none, none, none, none, none, none, none, none, none])) := evF_at d_kept_in rfl rfl
theorem u_meeting (m : Nat) (a0 a1 : PD) : evF pg (m + 1) i_meeting [a0, a1] = fin (evSs (sgOf pg m) b_meeting ([], [some a0, some a1, none, none, none, none])) := evF_at d_meeting rfl rfl
theorem u_square (m : Nat) (a0 : PD) : evF pg (m + 1) i_square [a0] = fin (evSs (sgOf pg m) b_square ([], [some a0])) := evF_at d_square rfl rfl
theorem u_far_from (m : Nat) (a0 a1 a2 : PD) : evF pg (m + 1) i_far_from [a0, a1, a2] = fin (evSs (sgOf pg m) b_far_from ([], [some a0, some a1, some a2, none, none, none, none])) := evF_at d_far_from rfl rfl
theorem u_gap (m : Nat) (a0 a1 : PD) : evF pg (m + 1) i_gap [a0, a1] = fin (evSs (sgOf pg m) b_gap ([], [some a0, some a1, none, none, none, none, none, none])) := evF_at d_gap rfl rfl
theorem u_comes_to (m : Nat) (a0 a1 a2 : PD) : evF pg (m + 1) i_comes_to [a0, a1, a2] = fin (evSs (sgOf pg m) b_comes_to ([], [some a0, some a1, some a2, none, none, none, none, none, none, none, none, none])) := evF_at d_comes_to rfl rfl
theorem u__law_draws (m : Nat) (a0 : PD) : evF pg (m + 1) i__law_draws [a0] = fin (evSs (sgOf pg m) b__law_draws ([], [some a0, none, none, none, none, none])) := evF_at d__law_draws rfl rfl
theorem u__law_mix (m : Nat) (a0 a1 a2 : PD) : evF pg (m + 1) i__law_mix [a0, a1, a2] = fin (evSs (sgOf pg m) b__law_mix ([], [some a0, some a1, some a2, none])) := evF_at d__law_mix rfl rfl
theorem u__law_common (m : Nat) (a0 a1 : PD) : evF pg (m + 1) i__law_common [a0, a1] = fin (evSs (sgOf pg m) b__law_common ([], [some a0, some a1, none, none, none])) := evF_at d__law_common rfl rfl
theorem u__law_low (m : Nat) (a0 a1 : PD) : evF pg (m + 1) i__law_low [a0, a1] = fin (evSs (sgOf pg m) b__law_low ([], [some a0, some a1, none])) := evF_at d__law_low rfl rfl
theorem u__law_add (m : Nat) (a0 a1 : PD) : evF pg (m + 1) i__law_add [a0, a1] = fin (evSs (sgOf pg m) b__law_add ([], [some a0, some a1])) := evF_at d__law_add rfl rfl
theorem u__law_take (m : Nat) (a0 a1 : PD) : evF pg (m + 1) i__law_take [a0, a1] = fin (evSs (sgOf pg m) b__law_take ([], [some a0, some a1])) := evF_at d__law_take rfl rfl
theorem u__law_times (m : Nat) (a0 a1 : PD) : evF pg (m + 1) i__law_times [a0, a1] = fin (evSs (sgOf pg m) b__law_times ([], [some a0, some a1])) := evF_at d__law_times rfl rfl
theorem u__law_less (m : Nat) (a0 a1 : PD) : evF pg (m + 1) i__law_less [a0, a1] = fin (evSs (sgOf pg m) b__law_less ([], [some a0, some a1])) := evF_at d__law_less rfl rfl
theorem u__law_least (m : Nat) (a0 a1 : PD) : evF pg (m + 1) i__law_least [a0, a1] = fin (evSs (sgOf pg m) b__law_least ([], [some a0, some a1])) := evF_at d__law_least rfl rfl
theorem u__law_greatest (m : Nat) (a0 a1 : PD) : evF pg (m + 1) i__law_greatest [a0, a1] = fin (evSs (sgOf pg m) b__law_greatest ([], [some a0, some a1])) := evF_at d__law_greatest rfl rfl
theorem u__law_fraction (m : Nat) (a0 a1 a2 : PD) : evF pg (m + 1) i__law_fraction [a0, a1, a2] = fin (evSs (sgOf pg m) b__law_fraction ([], [some a0, some a1, some a2, none])) := evF_at d__law_fraction rfl rfl
theorem u__law_box (m : Nat) (a0 a1 a2 : PD) : evF pg (m + 1) i__law_box [a0, a1, a2] = fin (evSs (sgOf pg m) b__law_box ([], [some a0, some a1, some a2, none, none, none, none])) := evF_at d__law_box rfl rfl
theorem uF__law_box (m : Nat) (a0 a1 a2 : PD) : evFf pg (m + 1) i__law_box [a0, a1, a2] = finF (evSs (sgOf pg m) b__law_box ([], [some a0, some a1, some a2, none, none, none, none])) := evFf_at d__law_box rfl rfl
theorem u__law_beside (m : Nat) (a0 a1 a2 a3 : PD) : evF pg (m + 1) i__law_beside [a0, a1, a2, a3] = fin (evSs (sgOf pg m) b__law_beside ([], [some a0, some a1, some a2, some a3, none, none, none, none])) := evF_at d__law_beside rfl rfl
theorem u__law_corners (m : Nat) (a0 : PD) : evF pg (m + 1) i__law_corners [a0] = fin (evSs (sgOf pg m) b__law_corners ([], [some a0, none, none, none, none])) := evF_at d__law_corners rfl rfl
theorem u__law_reach (m : Nat) (a0 a1 : PD) : evF pg (m + 1) i__law_reach [a0, a1] = fin (evSs (sgOf pg m) b__law_reach ([], [some a0, some a1, none, none])) := evF_at d__law_reach rfl rfl
theorem u__law_line (m : Nat) (a0 a1 : PD) : evF pg (m + 1) i__law_line [a0, a1] = fin (evSs (sgOf pg m) b__law_line ([], [some a0, some a1, none, none, none])) := evF_at d__law_line rfl rfl
theorem u__law_side_gap (m : Nat) (a0 a1 : PD) : evF pg (m + 1) i__law_side_gap [a0, a1] = fin (evSs (sgOf pg m) b__law_side_gap ([], [some a0, some a1, none])) := evF_at d__law_side_gap rfl rfl
theorem u__law_over (m : Nat) (a0 a1 : PD) : evF pg (m + 1) i__law_over [a0, a1] = fin (evSs (sgOf pg m) b__law_over ([], [some a0, some a1])) := evF_at d__law_over rfl rfl
theorem u__law_times_told (m : Nat) (a0 a1 a2 : PD) : evF pg (m + 1) i__law_times_told [a0, a1, a2] = fin (evSs (sgOf pg m) b__law_times_told ([], [some a0, some a1, some a2, none, none])) := evF_at d__law_times_told rfl rfl
theorem u__law_comes (m : Nat) (a0 a1 a2 : PD) : evF pg (m + 1) i__law_comes [a0, a1, a2] = fin (evSs (sgOf pg m) b__law_comes ([], [some a0, some a1, some a2, none, none, none, none])) := evF_at d__law_comes rfl rfl
theorem u__law_place (m : Nat) (a0 a1 a2 : PD) : evF pg (m + 1) i__law_place [a0, a1, a2] = fin (evSs (sgOf pg m) b__law_place ([], [some a0, some a1, some a2, none, none, none, none, none, none, none])) := evF_at d__law_place rfl rfl
theorem u__law_refused (m : Nat) (a0 a1 a2 : PD) : evF pg (m + 1) i__law_refused [a0, a1, a2] = fin (evSs (sgOf pg m) b__law_refused ([], [some a0, some a1, some a2, none])) := evF_at d__law_refused rfl rfl
theorem u__law_single (m : Nat) (a0 a1 a2 : PD) : evF pg (m + 1) i__law_single [a0, a1, a2] = fin (evSs (sgOf pg m) b__law_single ([], [some a0, some a1, some a2, none, none, none, none, none, none, none, none, none, none])) := evF_at d__law_single rfl rfl
theorem u_law (m : Nat) (a0 : PD) : evF pg (m + 1) i_law [a0] = fin (evSs (sgOf pg m) b_law ([], [some a0, none, none, none, none, none, none, none, none, none, none, none, none, none, none, none, none, none, none, none, none, none, none, none])) := evF_at d_law rfl rfl
-- law def: 65 of T; statement 79; rid samplesonce_k21_main_boxes_that_touch_an
end k21
set_option Elab.async false
set_option linter.all false
set_option maxRecDepth 100000
set_option maxHeartbeats 4000000
namespace k21
open PySem PySem.Spec PyProof.Rows L2 Fe
theorem chk : ((hd.p.T.zip hd.sts).all fun z => chkDf hd.p hd.C z.1 z.2) = true := by decide +kernel
theorem iniS : IniS prog hd.ini := by
  refine ⟨by decide +kernel, ⟨_, rfl, rfl⟩, NdefX.nscope_by (by decide +kernel), by decide +kernel, ⟨_, _, _, _, _, _, _, _, _, _, rfl, _, fun env => rfl⟩, by decide +kernel, by decide +kernel⟩
theorem stat : hd.Stat prog := ⟨rfl, chk, rfl, iniS, rfl⟩
end k21
set_option Elab.async false
set_option linter.all false
set_option maxRecDepth 100000
set_option maxHeartbeats 0
namespace k21
open PySem PySem.Spec PyProof.Rows L2 Fe
def loose : List Str := "DrawError" :: "BadFraction" :: "BadShape" :: "BadPlane" :: "BadPlace" :: "ZERO" :: "ONE" :: "common" :: "plain" :: "add" :: "take" :: "times" :: "over" :: "sign" :: "is_less" :: "twice_area" :: "is_fraction" :: "MOST_CORNERS" :: "is_pair" :: "is_before" :: "is_flat" :: "check_flat" :: "check_both" :: "begun" :: "along" :: "reach_of" :: "reach" :: "edge_of" :: "turn_of" :: "moved" :: "grown_by" :: "grown" :: "opposite_of" :: "opposite" :: "area" :: "where" :: "check_pair" :: "has_place" :: "whole_pair" :: "outward" :: "is_parting" :: "parting" :: "parted_by" :: "kept_in" :: "meeting" :: "square" :: "far_from" :: "gap" :: "comes_to" :: "_law_draws" :: "_law_mix" :: "_law_common" :: "_law_low" :: "_law_add" :: "_law_take" :: "_law_times" :: "_law_less" :: "_law_least" :: "_law_greatest" :: "_law_fraction" :: "_law_box" :: "_law_beside" :: "_law_corners" :: "_law_reach" :: "_law_line" :: "_law_side_gap" :: "_law_over" :: "_law_times_told" :: "_law_comes" :: "_law_place" :: "_law_refused" :: "_law_single" :: []
abbrev Rrow : PySem.W.OpenRow := PySem.W.OpenLaw.row PySem.Challenge.rw_samplesonce_k21_main_boxes_that_touch_an
def ob (s : PySem.W.SharedT) : AlF := hd.obsG 4 (HandSHeadRun.getT s)
theorem ob_eq (s : PySem.W.SharedT) : ob s = (hd.hook 4).obs s.abs := Hd.obsG_eq (HandSHeadRun.getT_eq s)
theorem run (w : World) : HandSHeadRun.RunEq Rrow (PySem.W.view Rrow.prog [79]) (hd.hook 4) ob 20000 loose w := by
  intro os
  kernel_rfl
end k21
set_option Elab.async false
set_option linter.all false
set_option maxRecDepth 100000
set_option maxHeartbeats 4000000
set_option exponentiation.threshold 20000
namespace k21
open PySem PySem.Spec PyProof.Rows L2 Fe
theorem ev_common (n : Nat) (a b : Int) {k : Nat} [B : Bd b k] (hk : k ≤ 8000) : evF pg (n + 1) i_common [.int a, .int b] = .ok (.int (gg a b)) := by
  rw [u_common]
  unfold b_common
  rw [evSs, show evS (sgOf pg n) (.par [2, 3] (.cons (.bi .abs (.cons (.var 0) (.nil))) (.cons (.bi .abs (.cons (.var 1) (.nil))) (.nil)))) ([], [some (.int a), some (.int b), none, none]) = .nx ([], [some (.int a), some (.int b), some (.int a.natAbs), some (.int b.natAbs)]) from rfl]
  dsimp only
  have ep : pk (.cmp .gt (.var 3) (.int 0)) = [] := rfl
  unfold l_common_1
  rw [evSs, evS, ep, whEu (fun A B => ?_) (fun A B h => ?_) 1000000 8000 _ _ (B.up hk).h (by decide)]
  · rfl
  · show R.ok (decide ((0 : Int) < B)) = _
    congr 1
    simp
  · have h2 : (B : Int) ≠ 0 := by omega
    simp only [evSs, evS, evEs, evE, List.getElem?_cons_succ, List.getElem?_cons_zero, bok, sok, vmod _ _ h2, fmodN, dl0, setL, List.set_cons_succ, List.set_cons_zero]
theorem ev_plain (n : Nat) (a b : Int) {k : Nat} [B : Bd b k] (h : b ≠ 0) (hk : k ≤ 8000) : evF pg (n + 2) i_plain [.int a, .int b] = .ok (QD ((a : Rat) / (b : Rat))) := by
  rw [u_plain, ← lo_QD h]
  unfold b_plain
  have h1 := gg_pos (a := a) h
  have h2 := gg_le (a := a) h
  have hb := (B.up hk).h
  have kl : (kk a b).natAbs.log2 < 9000 := by
    have h3 : (kk a b).natAbs = (gg a b).natAbs := by unfold kk; split <;> omega
    rw [h3]
    exact Nat.lt_trans (log_lt (Nat.lt_of_le_of_lt h2 hb) (by decide)) (by decide)
  have k0 : kk a b ≠ 0 := by unfold kk; split <;> omega
  have ec := ev_common n a b hk
  by_cases c : b < 0
  · have ek : kk a b = -gg a b := by unfold kk; rw [if_pos c]
    rw [ek] at k0 kl
    simp only [evSs, evS, evEs, evE, List.getElem?_cons_succ, List.getElem?_cons_zero, bok, sok, clt, bO, iO, dl0, List.set_cons_succ, List.set_cons_zero, ec, c, decide_true, if_true, vfdiv _ _ k0 kl]
    unfold Fe.lo
    rw [ek] <;> rfl
  · have ek : kk a b = gg a b := by unfold kk; rw [if_neg c]
    rw [ek] at k0 kl
    simp only [evSs, evS, evEs, evE, List.getElem?_cons_succ, List.getElem?_cons_zero, bok, sok, clt, bO, iO, dl0, List.set_cons_succ, List.set_cons_zero, ec, c, decide_false, if_false, Bool.false_eq_true, vfdiv _ _ k0 kl]
    unfold Fe.lo
    rw [ek] <;> rfl
theorem ev_add (n : Nat) (x y : Rat) {i j : Nat} [A : BdQ x i] [B : BdQ y j] (h : i + j ≤ 8000) : evF pg (n + 3) i_add [QD x, QD y] = .ok (QD (x + y)) := by
  rw [u_add]
  unfold b_add
  have h0 := mul_ne (den_ne x) (den_ne y)
  have h1 : i + j < 1000000 := by omega
  have h2 : j + i < 1000000 := by omega
  simp! [ev_plain]
  rw [rat_add x y]
theorem ev_take (n : Nat) (x y : Rat) {i j : Nat} [A : BdQ x i] [B : BdQ y j] (h : i + j ≤ 8000) : evF pg (n + 3) i_take [QD x, QD y] = .ok (QD (x - y)) := by
  rw [u_take]
  unfold b_take
  have h0 := mul_ne (den_ne x) (den_ne y)
  have h1 : i + j < 1000000 := by omega
  have h2 : j + i < 1000000 := by omega
  simp! [ev_plain]
  rw [rat_sub x y]
theorem ev_times (n : Nat) (x y : Rat) {i j : Nat} [A : BdQ x i] [B : BdQ y j] (h : i + j ≤ 8000) : evF pg (n + 3) i_times [QD x, QD y] = .ok (QD (x * y)) := by
  rw [u_times]
  unfold b_times
  have h0 := mul_ne (den_ne x) (den_ne y)
  have h1 : i + j < 1000000 := by omega
  have h2 : j + i < 1000000 := by omega
  simp! [ev_plain]
  rw [rat_mul x y]
theorem ev_over (n : Nat) (x y : Rat) {i j : Nat} [A : BdQ x i] [B : BdQ y j] (hy : y ≠ 0) (h : i + j ≤ 8000) : evF pg (n + 3) i_over [QD x, QD y] = .ok (QD (x / y)) := by
  rw [u_over]
  unfold b_over
  have hn := num_ne hy
  have h0 := mul_ne (den_ne x) hn
  have h1 : i + j < 1000000 := by omega
  have h2 : j + i < 1000000 := by omega
  simp! [ev_plain, hn]
  rw [rat_div x y hy]
theorem ev_sign (n : Nat) (x : Rat) : evF pg (n + 1) i_sign [QD x] = .ok (.int (sgn x)) := by
  rw [u_sign]
  unfold b_sign
  simp! [sgn_num2]
theorem ev_is_less (n : Nat) (x y : Rat) {i j : Nat} [A : BdQ x i] [B : BdQ y j] (h : i + j ≤ 400000) : evF pg (n + 1) i_is_less [QD x, QD y] = .ok (.bool (decide (x < y))) := by
  rw [u_is_less]
  unfold b_is_less
  have h1 : i + j < 1000000 := by omega
  have h2 : j + i < 1000000 := by omega
  simp! [Rat.lt_iff]
theorem ev_mix (n : Nat) {ds : List Int} (hd : okD ds) (k many : Int) (hk : 0 ≤ k) (hk2 : k < 10000) (hm : 0 < many) : evF pg (n + 1) i__law_mix [Ld ds, .int k, .int many] = .ok (.int (mixF ds k many)) := ev_mixF n hd k many hk hk2 hm (u__law_mix ..)
theorem ev_dr (n : Nat) (ns : List Int) (hn : ns.length ≤ 63) : ∃ ds : List Int, evF pg (n + 1) i__law_draws [Ld ns] = .ok (Ld ds) ∧ okD ds := ev_drawsB n ns hn (u__law_draws ..)
theorem ev_lcom (n : Nat) (a b : Int) {k : Nat} [B : Bd b k] (hk : k ≤ 200) : evF pg (n + 1) i__law_common [.int a, .int b] = .ok (.int (if (1 : Int) < gg a b then gg a b else 1)) := ev_lcommonB n a b (B.up hk).h (u__law_common ..)
theorem ev_lw (n : Nat) (a b : Int) {k : Nat} [B : Bd b k] (h : b ≠ 0) (hk : k ≤ 200) : evF pg (n + 2) i__law_low [.int a, .int b] = .ok (QD ((a : Rat) / (b : Rat))) :=
  (ev_lowB n a b h (B.up hk).h (ev_lcom n a b hk) (u__law_low ..)).trans (congrArg R.ok (lo_QD h))

theorem ev_isfr (n : Nat) (x : Rat) {i : Nat} [A : BdQ x i] (h : i ≤ 8000) : evF pg (n + 2) i_is_fraction [QD x] = .ok (.bool true) := by
  rw [u_is_fraction]
  unfold b_is_fraction
  have h1 := den_pos x
  simp! [ev_common, gg_QD, h1]
theorem ev_ispair (n : Nat) (x y : Rat) {i j : Nat} [A : BdQ x i] [B : BdQ y j] (h : i + j ≤ 8000) : evF pg (n + 3) i_is_pair [PQ x y] = .ok (.bool true) := by
  rw [u_is_pair]
  unfold b_is_pair
  simp! [ev_isfr]
theorem ev_ta (n : Nat) (ax ay bx b_y cx cy : Rat) {i1 i2 i3 i4 i5 i6 : Nat} [BdQ ax i1] [BdQ ay i2] [BdQ bx i3] [BdQ b_y i4] [BdQ cx i5] [BdQ cy i6] (h : i1 + i2 + i3 + i4 + i5 + i6 ≤ 2000) :
    evF pg (n + 4) i_twice_area [.tuple [PQ ax ay, PQ bx b_y, PQ cx cy]] = .ok (QD (ta ax ay bx b_y cx cy)) := by
  rw [u_twice_area]
  unfold b_twice_area
  simp! [ev_take, ev_times]
  rfl
theorem ev_bef (n : Nat) (a b c d : Rat) {i1 i2 i3 i4 : Nat} [BdQ a i1] [BdQ b i2] [BdQ c i3] [BdQ d i4] (h : i1 + i2 + i3 + i4 ≤ 400000) : evF pg (n + 2) i_is_before [PQ a b, PQ c d] = .ok (.bool (bef a b c d)) := by
  rw [u_is_before]
  unfold b_is_before
  unfold bef
  by_cases h1 : a < c
  · simp! [ev_is_less, h1]
    simp
  · by_cases h2 : a = c
    · have h3 : (a = c) = True := eq_true h2
      simp! [ev_is_less, h1, h3]
      simp
    · simp! [ev_is_less, h1, h2]
      simp
theorem ev_along (n : Nat) (x y : Rat) (d e : Int) {i1 i2 i3 i4 : Nat} [BdQ x i1] [BdQ y i2] [Bd d i3] [Bd e i4] (h : i1 + i2 + i3 + i4 ≤ 7000) : evF pg (n + 4) i_along [PQ x y, .tuple [.int d, .int e]] = .ok (QD (x * (d : Rat) + y * (e : Rat))) := by
  rw [u_along]
  unfold b_along
  simp! [P1, ev_times, ev_add]
theorem ev_turn (n : Nat) (a b c d : Rat) {i1 i2 i3 i4 : Nat} [BdQ a i1] [BdQ b i2] [BdQ c i3] [BdQ d i4] (h : i1 + i2 + i3 + i4 ≤ 7000) : evF pg (n + 4) i_turn_of [PQ a b, PQ c d] = .ok (.int (sgn (a * d - b * c))) := by
  rw [u_turn_of]
  unfold b_turn_of
  simp! [ev_take, ev_times, ev_sign]
theorem ev_mvd (n : Nat) (a b c d : Rat) {i1 i2 i3 i4 : Nat} [BdQ a i1] [BdQ b i2] [BdQ c i3] [BdQ d i4] (h : i1 + i2 + i3 + i4 ≤ 7000) : evF pg (n + 4) i_moved [PQ a b, PQ c d] = .ok (PQ (a + c) (b + d)) := by
  rw [u_moved]
  unfold b_moved
  simp! [ev_add]
theorem ev_square (n : Nat) (a b : Rat) {i1 i2 : Nat} [BdQ a i1] [BdQ b i2] (h : i1 + i2 ≤ 3000) : evF pg (n + 4) i_square [PQ a b] = .ok (QD (a * a + b * b)) := by
  rw [u_square]
  unfold b_square
  simp! [ev_times, ev_add]

end k21
set_option Elab.async false
set_option linter.all false
set_option maxRecDepth 100000
set_option maxHeartbeats 4000000
namespace k21
open PySem PySem.Spec PyProof.Rows L2 Fe
/-- a box's corners -/
abbrev BC (l b r t : Rat) : PD := .list [PQ l b, PQ r b, PQ r t, PQ l t]
theorem im1 (a b c d : PD) : ixV (.list [a, b, c, d]) (.int (-1)) = .ok d := rfl
theorem im2 (a b c d : PD) : ixV (.list [a, b, c, d]) (.int (-2)) = .ok c := rfl
theorem gMC : List.lookup ("MOST_CORNERS" : Str) pg.G = some (.int 60) := rfl
theorem gZ : List.lookup ("ZERO" : Str) pg.G = some (QD 0) := rfl
theorem gO : List.lookup ("ONE" : Str) pg.G = some (QD 1) := rfl
theorem r13 : rng2R 1 3 = .ok [.int 1, .int 2] := rfl
theorem r24 : rng2R 2 4 = .ok [.int 2, .int 3] := rfl
theorem slL (ds : List PD) (l h : Option Int) : slV (.list ds) l h = .ok (.list (cutD ds l h)) := rfl
theorem ct20 (a b c d : PD) : cutD [a, b, c, d] (some 2) none = [c, d] := rfl
theorem ct02 (a b c d : PD) : cutD [a, b, c, d] none (some 2) = [a, b] := rfl
theorem ct10 (a b c d : PD) : cutD [a, b, c, d] (some 1) none = [b, c, d] := rfl
theorem half : PyData.tuple [.int 1, .int 2] = QD (1 / 2) := by
  have h : ((1 : Int) : Rat) / ((2 : Nat) : Int) = _ := rat_of (n := 1) (d := 2) (by decide) (by decide)
  have : (1 : Rat) / 2 = ((1 : Int) : Rat) / (((2 : Nat) : Int) : Rat) := rfl
  rw [this, h]
  rfl
section
variable {l b r t : Rat} {k : Nat} [BdQ l k] [BdQ b k] [BdQ r k] [BdQ t k] (hl : l < r) (hb : b < t)
include hl hb
theorem ar_pos : 0 < (r - l) * (t - b) := Rat.mul_pos (by grind) (by grind)
theorem ta0 : ta r t l t l b = (r - l) * (t - b) := by unfold ta; grind
theorem ta1 : ta l t l b r b = (r - l) * (t - b) := by unfold ta; grind
theorem ta2 : ta l b r b r t = (r - l) * (t - b) := by unfold ta; grind
theorem ta3 : ta r b r t l t = (r - l) * (t - b) := by unfold ta; grind
theorem ta4 : ta l b r t l t = (r - l) * (t - b) := by unfold ta; grind
theorem bef1 : bef l b r b = true := by unfold bef; simp [hl]
theorem bef2 : bef l b r t = true := by unfold bef; simp [hl]
theorem bef3 : bef l b l t = true := by unfold bef; simp [hb]
theorem ev_flat (n : Nat) (hk : k ≤ 150) : evF pg (n + 5) i_is_flat [BC l b r t] = .ok (.bool true) := by
  rw [u_is_flat]
  unfold b_is_flat l_is_flat_1 l_is_flat_2
  have w := sgn_pos (ar_pos hl hb)
  simp! [gMC, ev_ispair, ev_ta, ev_sign, ev_bef, im1, im2, r13, ta0 hl hb, ta1 hl hb, ta2 hl hb, ta3 hl hb, ta4 hl hb, w, bef1 hl hb, bef2 hl hb, bef3 hl hb]
theorem ev_cf (n : Nat) (hk : k ≤ 150) (i : Int) : evF pg (n + 6) i_check_flat [BC l b r t, .int i] = .ok .none := by
  rw [u_check_flat]
  unfold b_check_flat
  simp! [ev_flat hl hb n hk]
theorem ev_cfd (n : Nat) (hk : k ≤ 150) : evF pg (n + 6) i_check_flat_d [BC l b r t] = .ok .none := by
  rw [u_check_flat_d]
  unfold b_check_flat
  simp! [ev_flat hl hb n hk]
theorem ev_area (n : Nat) (hk : k ≤ 150) : evF pg (n + 7) i_area [BC l b r t] = .ok (QD ((r - l) * (t - b))) := by
  rw [u_area]
  unfold b_area l_area_1
  have e : (0 + (r - l) * (t - b) + (r - l) * (t - b)) * (1 / 2 : Rat) = (r - l) * (t - b) := by grind
  simp! [gZ, ev_cfd hl hb n hk, ev_ta, ev_add, ev_times, r24, half, ta2 hl hb, ta4 hl hb]
  rw [e]
theorem ev_opp (n : Nat) (hk : k ≤ 150) : evF pg (n + 6) i_opposite_of [BC l b r t] = .ok (BC (0 - r) (0 - t) (0 - l) (0 - b)) := by
  rw [u_opposite_of]
  unfold b_opposite_of
  have q : evF pg (n + 5) i_begun [.list [PQ (0 - l) (0 - b), PQ (0 - r) (0 - b), PQ (0 - r) (0 - t), PQ (0 - l) (0 - t)]] = .ok (BC (0 - r) (0 - t) (0 - l) (0 - b)) := by
    rw [u_begun]
    unfold b_begun l_begun_1
    have h1 : bef (0 - l) (0 - b) (0 - l) (0 - b) = false := by unfold bef; simp [Rat.lt_irrefl]
    have h2 : bef (0 - r) (0 - b) (0 - l) (0 - b) = true := by
      have : 0 - r < 0 - l := by grind
      unfold bef; simp [this]
    have h3 : bef (0 - r) (0 - t) (0 - r) (0 - b) = true := by
      have : 0 - t < 0 - b := by grind
      unfold bef; simp [this]
    have h4 : bef (0 - l) (0 - t) (0 - r) (0 - t) = false := by
      have h : ¬ (0 - l < 0 - r) := by grind
      have h' : ¬ (0 - l = 0 - r) := by grind
      unfold bef; simp [h, h']
    simp! [ev_bef, h1, h2, h3, h4, slL, ct20, ct02]
  simp! [gZ, ev_take, q]
theorem ev_opposite (n : Nat) (hk : k ≤ 150) : evF pg (n + 7) i_opposite [BC l b r t] = .ok (BC (0 - r) (0 - t) (0 - l) (0 - b)) := by
  rw [u_opposite]
  unfold b_opposite
  simp! [ev_cfd hl hb n hk, ev_opp hl hb n hk]
end
end k21
set_option Elab.async false
set_option linter.all false
set_option maxRecDepth 100000
set_option maxHeartbeats 4000000
namespace k21
open PySem PySem.Spec PyProof.Rows L2 Fe
def mx (a b : Rat) : Rat := if a < b then b else a
theorem mx_or (a b : Rat) : mx a b = a ∨ mx a b = b := by unfold mx; split <;> simp
instance mx_bd {a b : Rat} {k : Nat} [A : BdQ a k] [B : BdQ b k] : BdQ (mx a b) k := by
  rcases mx_or a b with h | h <;> rw [h] <;> assumption
/-- a turn of the reach's loop -/
theorem reach_step (n : Nat) (fl y4 : Option PD) (x : Rat) (px py : Rat) (d e : Int) {k j : Nat} [BdQ px k] [BdQ py k] [Bd d j] [Bd e j] [BdQ x (k + (j + 1) + (k + (j + 1)) + 1)] (h : k + j ≤ 900) :
    evSs (sgOf pg (n + 5)) l_reach_of_1 ([], [fl, some (.tuple [.int d, .int e]), some (QD x), some (PQ px py), y4]) = .nx ([], [fl, some (.tuple [.int d, .int e]), some (QD (mx x (px * (d : Rat) + py * (e : Rat)))), some (PQ px py), some (QD (px * (d : Rat) + py * (e : Rat)))]) := by
  unfold l_reach_of_1 mx
  by_cases c : x < px * (d : Rat) + py * (e : Rat)
  · simp! [ev_along, ev_is_less, c]
  · simp! [ev_along, ev_is_less, c]
section
variable {l b r t : Rat} {k : Nat} [BdQ l k] [BdQ b k] [BdQ r k] [BdQ t k] (hl : l < r) (hb : b < t)
/-- how far a box reaches -/
def rch (l b r t : Rat) (d e : Int) : Rat := (if 0 < d then r else l) * (d : Rat) + (if 0 < e then t else b) * (e : Rat)
include hl hb
theorem rch_mx (d e : Int) : mx (mx (mx (l * (d : Rat) + b * (e : Rat)) (r * (d : Rat) + b * (e : Rat))) (r * (d : Rat) + t * (e : Rat))) (l * (d : Rat) + t * (e : Rat)) = rch l b r t d e := by
  unfold rch
  have key : ∀ (x y : Rat) (z : Int), x < y → (0 < z → x * (z : Rat) < y * (z : Rat)) ∧ (¬ 0 < z → y * (z : Rat) ≤ x * (z : Rat)) := by
    intro x y z h
    refine ⟨fun hz => ?_, fun hz => ?_⟩
    · have : (0 : Rat) < (z : Rat) := by
        have := Rat.intCast_lt_intCast.mpr hz
        simpa using this
      exact (Rat.mul_lt_mul_right this).mpr h
    · have : (z : Rat) ≤ 0 := by
        have := Rat.intCast_le_intCast.mpr (show z ≤ 0 by omega)
        simpa using this
      have : x * -(z : Rat) ≤ y * -(z : Rat) := Rat.mul_le_mul_of_nonneg_right (by grind) (by grind)
      grind
  obtain ⟨h1, h2⟩ := key l r d hl
  obtain ⟨h3, h4⟩ := key b t e hb
  clear key
  by_cases c : 0 < d
  · by_cases c2 : 0 < e
    · have p := h1 c
      have q := h3 c2
      rw [if_pos c, if_pos c2]
      clear h1 h2 h3 h4
      generalize l * (d : Rat) = L at *
      generalize r * (d : Rat) = Rr at *
      generalize b * (e : Rat) = B at *
      generalize t * (e : Rat) = T at *
      clear hl hb c c2
      unfold mx
      grind
    · have p := h1 c
      have q := h4 c2
      rw [if_pos c, if_neg c2]
      clear h1 h2 h3 h4
      generalize l * (d : Rat) = L at *
      generalize r * (d : Rat) = Rr at *
      generalize b * (e : Rat) = B at *
      generalize t * (e : Rat) = T at *
      clear hl hb c c2
      unfold mx
      grind
  · by_cases c2 : 0 < e
    · have p := h2 c
      have q := h3 c2
      rw [if_neg c, if_pos c2]
      clear h1 h2 h3 h4
      generalize l * (d : Rat) = L at *
      generalize r * (d : Rat) = Rr at *
      generalize b * (e : Rat) = B at *
      generalize t * (e : Rat) = T at *
      clear hl hb c c2
      unfold mx
      grind
    · have p := h2 c
      have q := h4 c2
      rw [if_neg c, if_neg c2]
      clear h1 h2 h3 h4
      generalize l * (d : Rat) = L at *
      generalize r * (d : Rat) = Rr at *
      generalize b * (e : Rat) = B at *
      generalize t * (e : Rat) = T at *
      clear hl hb c c2
      unfold mx
      grind
theorem ev_rch (n : Nat) (d e : Int) {j : Nat} [Bd d j] [Bd e j] (h : k + j ≤ 900) : evF pg (n + 6) i_reach_of [BC l b r t, .tuple [.int d, .int e]] = .ok (QD (rch l b r t d e)) := by
  rw [u_reach_of]
  unfold b_reach_of
  rw [← rch_mx hl hb d e]
  refine finR (seq1 (s' := ([], [some (BC l b r t), some (.tuple [.int d, .int e]), some (QD (l * (d : Rat) + b * (e : Rat))), none, none])) ?_ (seq1 (s' := ([], [some (BC l b r t), some (.tuple [.int d, .int e]), some (QD (mx (mx (mx (l * (d : Rat) + b * (e : Rat)) (r * (d : Rat) + b * (e : Rat))) (r * (d : Rat) + t * (e : Rat))) (l * (d : Rat) + t * (e : Rat)))), some (PQ l t), some (QD (l * (d : Rat) + t * (e : Rat)))])) ?_ (seqR rfl)))
  · simp! [ev_along]
  · rw [evS]
    have q : evIt (sgOf pg (n + 5)) (.e (.sl (.var 0) (.some (.int 1)) (.none))) [some (BC l b r t), some (.tuple [.int d, .int e]), some (QD (l * (d : Rat) + b * (e : Rat))), none, none] = .ok [PQ r b, PQ r t, PQ l t] := by
      simp! [slL, ct10]
    rw [q, sok]
    simp only [dl0, forGo, tgNm, List.set_cons_succ, List.set_cons_zero]
    rw [reach_step (k := k) (j := j) n _ _ _ _ _ d e h]
    simp only [List.set_cons_succ, List.set_cons_zero]
    rw [reach_step (k := k) (j := j) n _ _ _ _ _ d e h]
    simp only [List.set_cons_succ, List.set_cons_zero]
    rw [reach_step (k := k) (j := j) n _ _ _ _ _ d e h]
theorem ev_reach (n : Nat) (hk : k ≤ 150) (d e : Int) {j : Nat} [Bd d j] [Bd e j] (h : k + j ≤ 900) (hd : ¬ (d = 0 ∧ e = 0)) : evF pg (n + 7) i_reach [BC l b r t, .tuple [.int d, .int e]] = .ok (QD (rch l b r t d e)) := by
  rw [u_reach]
  unfold b_reach
  by_cases c : d = 0
  · have c2 : ¬ e = 0 := fun z => hd ⟨c, z⟩
    simp! [ev_cfd hl hb (n := n) hk, c, c2, ev_rch hl hb n d e h]
    rw [← c, ev_rch hl hb n d e h]
    rfl
  · simp! [ev_cfd hl hb n hk, c, ev_rch hl hb n d e h]
theorem ev_reach0 (n : Nat) (hk : k ≤ 150) : evF pg (n + 7) i_reach [BC l b r t, .tuple [.int 0, .int 0]] = .exc "BadPlane" 0 := by
  rw [u_reach]
  unfold b_reach
  simp! [ev_cfd hl hb n hk]
end
end k21
set_option Elab.async false
set_option linter.all false
set_option maxRecDepth 100000
set_option maxHeartbeats 4000000
namespace k21
open PySem PySem.Spec PyProof.Rows L2 Fe
/-! ### where a place is -/
def whT (m : Int) : Str := if m < 0 then "out" else if 0 < m then "in" else "on"
theorem whT_ev (m : Int) : (if m < 0 then R.ok (PyData.str "out") else if 0 < m then R.ok (.str "in") else .ok (.str "on")) = .ok (.str (whT m)) := by
  unfold whT
  split
  · rfl
  · split <;> rfl
section
variable {l b r t : Rat} {k : Nat} [BdQ l k] [BdQ b k] [BdQ r k] [BdQ t k] (hl : l < r) (hb : b < t)
include hl hb
theorem ev_where (n : Nat) (px py : Rat) {j : Nat} [BdQ px j] [BdQ py j] (h : 4 * k + 2 * j ≤ 1900) : evF pg (n + 5) i_where [BC l b r t, PQ px py] = .ok (.str (whT (leastI (sgn (px - l)) [sgn (py - b), sgn (r - px), sgn (t - py)]))) := by
  rw [u_where]
  unfold b_where
  have e0 : ta l t l b px py = (t - b) * (px - l) := by unfold ta; grind
  have e1 : ta l b r b px py = (r - l) * (py - b) := by unfold ta; grind
  have e2 : ta r b r t px py = (t - b) * (r - px) := by unfold ta; grind
  have e3 : ta r t l t px py = (r - l) * (t - py) := by unfold ta; grind
  have h1 : 0 < t - b := by grind
  have h2 : 0 < r - l := by grind
  generalize hm : leastI (sgn (px - l)) [sgn (py - b), sgn (r - px), sgn (t - py)] = m
  refine finR (seq1 (s' := ([], [some (BC l b r t), some (PQ px py), some (.list [.int (sgn (px - l)), .int (sgn (py - b)), .int (sgn (r - px)), .int (sgn (t - py))]), none])) ?_ ?_)
  · simp! [ev_ta, ev_sign, im1, e0, e1, e2, e3, sgn_mulp h1, sgn_mulp h2]
  · have hm' : biV .minL [.list [.int (sgn (px - l)), .int (sgn (py - b)), .int (sgn (r - px)), .int (sgn (t - py))]] = .ok (.int m) := by
      rw [← hm]
      rfl
    unfold whT
    by_cases c : m < 0
    · simp only [evSs, evS, evE, evEs, List.getElem?_cons_succ, List.getElem?_cons_zero, bok, sok, bO, clt, hm', c, decide_true, if_true]
    · by_cases c2 : 0 < m
      · simp only [evSs, evS, evE, evEs, List.getElem?_cons_succ, List.getElem?_cons_zero, bok, sok, bO, clt, cgt, hm', c, c2, decide_true, decide_false, if_true, if_false, Bool.false_eq_true]
      · simp only [evSs, evS, evE, evEs, List.getElem?_cons_succ, List.getElem?_cons_zero, bok, sok, bO, clt, cgt, hm', c, c2, decide_true, decide_false, if_true, if_false, Bool.false_eq_true]
theorem ev_has (n : Nat) (px py : Rat) {j : Nat} [BdQ px j] [BdQ py j] (hk : k ≤ 150) (h : 4 * k + 2 * j ≤ 1900) : evF pg (n + 7) i_has_place [BC l b r t, PQ px py] = .ok (.str (whT (leastI (sgn (px - l)) [sgn (py - b), sgn (r - px), sgn (t - py)]))) := by
  rw [u_has_place]
  unfold b_has_place
  have q : evF pg (n + 6) i_check_pair [PQ px py] = .ok .none := by
    rw [u_check_pair]
    unfold b_check_pair
    simp! [ev_ispair]
  simp! [ev_cfd hl hb (n := n) hk, q, ev_where hl hb (n + 1) px py h]
end
/-! ### edges -/
section
variable {l b r t : Rat} {k : Nat} [BdQ l k] [BdQ b k] [BdQ r k] [BdQ t k]
theorem ed0 (n : Nat) (h : k ≤ 900) : evF pg (n + 4) i_edge_of [BC l b r t, .int 0] = .ok (PQ (r - l) (b - b)) := by
  rw [u_edge_of]
  unfold b_edge_of
  simp! [ev_take]
theorem ed1 (n : Nat) (h : k ≤ 900) : evF pg (n + 4) i_edge_of [BC l b r t, .int 1] = .ok (PQ (r - r) (t - b)) := by
  rw [u_edge_of]
  unfold b_edge_of
  simp! [ev_take]
theorem ed2 (n : Nat) (h : k ≤ 900) : evF pg (n + 4) i_edge_of [BC l b r t, .int 2] = .ok (PQ (l - r) (t - t)) := by
  rw [u_edge_of]
  unfold b_edge_of
  simp! [ev_take]
theorem ed3 (n : Nat) (h : k ≤ 900) : evF pg (n + 4) i_edge_of [BC l b r t, .int 3] = .ok (PQ (l - l) (b - t)) := by
  rw [u_edge_of]
  unfold b_edge_of
  simp! [ev_take]
end
/-! ### grown -/
section
variable {l b r t u c v w : Rat} {k j : Nat} [BdQ l k] [BdQ b k] [BdQ r k] [BdQ t k] [BdQ u j] [BdQ c j] [BdQ v j] [BdQ w j]
theorem gs0 (n : Nat) (h : k + j ≤ 400) (x6 x7 x8 x9 : Option PD) : evSs (sgOf pg (n + 5)) l_grown_by_1 ([5], [some (BC l b r t), some (BC u c v w), some (.int 0), some (.int 0), some (PQ (l + u) (b + c)), some (.list []), x6, x7, x8, x9]) = .nx ([5], [some (BC l b r t), some (BC u c v w), some (.int 1), some (.int 1), some (PQ (r + v) (b + c)), some (.list [PQ (l + u) (b + c)]), some (PQ (r - l) (b - b)), some (PQ (v - u) (c - c)), some (.int 0), some (.bool true)]) := by
  unfold l_grown_by_1
  have z : (r - l) * (c - c) - (b - b) * (v - u) = 0 := by grind
  have hx : l + u + (r - l) + (v - u) = r + v := by grind
  have hy : b + c + (b - b) + (c - c) = b + c := by grind
  have q1 : Int.fmod 0 4 = 0 := rfl
  refine seq1 (app_at (x := PQ (l + u) (b + c)) ?_ rfl (by simp) rfl (by simp)) (seq1 (s' := ([5], [some (BC l b r t), some (BC u c v w), some (.int 0), some (.int 0), some (PQ (l + u) (b + c)), some (.list [PQ (l + u) (b + c)]), some (PQ (r - l) (b - b)), x7, x8, x9])) ?_ (seq1 (s' := ([5], [some (BC l b r t), some (BC u c v w), some (.int 0), some (.int 0), some (PQ (l + u) (b + c)), some (.list [PQ (l + u) (b + c)]), some (PQ (r - l) (b - b)), some (PQ (v - u) (c - c)), x8, x9])) ?_ (seq1 (s' := ([5], [some (BC l b r t), some (BC u c v w), some (.int 0), some (.int 0), some (PQ (l + u) (b + c)), some (.list [PQ (l + u) (b + c)]), some (PQ (r - l) (b - b)), some (PQ (v - u) (c - c)), some (.int 0), x9])) ?_ (seq1 (s' := ([5], [some (BC l b r t), some (BC u c v w), some (.int 0), some (.int 0), some (PQ (l + u) (b + c)), some (.list [PQ (l + u) (b + c)]), some (PQ (r - l) (b - b)), some (PQ (v - u) (c - c)), some (.int 0), some (.bool true)])) ?_ (seq1 (s' := ([5], [some (BC l b r t), some (BC u c v w), some (.int 1), some (.int 1), some (PQ (r + v) (b + c)), some (.list [PQ (l + u) (b + c)]), some (PQ (r - l) (b - b)), some (PQ (v - u) (c - c)), some (.int 0), some (.bool true)])) ?_ rfl)))))
  · simp! []
  · simp! [q1, ed0]
    rfl
  · simp! [q1, ed0]
    rfl
  · simp! [ev_turn, z, sgn_zero]
    rfl
  · simp! []
    rfl
  · simp! [ev_mvd, hx, hy]
    rfl
theorem gs1 (n : Nat) (h : k + j ≤ 400) (x6 x7 x8 x9 : Option PD) : evSs (sgOf pg (n + 5)) l_grown_by_1 ([5], [some (BC l b r t), some (BC u c v w), some (.int 1), some (.int 1), some (PQ (r + v) (b + c)), some (.list [PQ (l + u) (b + c)]), x6, x7, x8, x9]) = .nx ([5], [some (BC l b r t), some (BC u c v w), some (.int 2), some (.int 2), some (PQ (r + v) (t + w)), some (.list [PQ (l + u) (b + c), PQ (r + v) (b + c)]), some (PQ (r - r) (t - b)), some (PQ (v - v) (w - c)), some (.int 0), some (.bool true)]) := by
  unfold l_grown_by_1
  have z : (r - r) * (w - c) - (t - b) * (v - v) = 0 := by grind
  have hx : r + v + (r - r) + (v - v) = r + v := by grind
  have hy : b + c + (t - b) + (w - c) = t + w := by grind
  have q1 : Int.fmod 1 4 = 1 := rfl
  refine seq1 (app_at (x := PQ (r + v) (b + c)) ?_ rfl (by simp) rfl (by simp)) (seq1 (s' := ([5], [some (BC l b r t), some (BC u c v w), some (.int 1), some (.int 1), some (PQ (r + v) (b + c)), some (.list [PQ (l + u) (b + c), PQ (r + v) (b + c)]), some (PQ (r - r) (t - b)), x7, x8, x9])) ?_ (seq1 (s' := ([5], [some (BC l b r t), some (BC u c v w), some (.int 1), some (.int 1), some (PQ (r + v) (b + c)), some (.list [PQ (l + u) (b + c), PQ (r + v) (b + c)]), some (PQ (r - r) (t - b)), some (PQ (v - v) (w - c)), x8, x9])) ?_ (seq1 (s' := ([5], [some (BC l b r t), some (BC u c v w), some (.int 1), some (.int 1), some (PQ (r + v) (b + c)), some (.list [PQ (l + u) (b + c), PQ (r + v) (b + c)]), some (PQ (r - r) (t - b)), some (PQ (v - v) (w - c)), some (.int 0), x9])) ?_ (seq1 (s' := ([5], [some (BC l b r t), some (BC u c v w), some (.int 1), some (.int 1), some (PQ (r + v) (b + c)), some (.list [PQ (l + u) (b + c), PQ (r + v) (b + c)]), some (PQ (r - r) (t - b)), some (PQ (v - v) (w - c)), some (.int 0), some (.bool true)])) ?_ (seq1 (s' := ([5], [some (BC l b r t), some (BC u c v w), some (.int 2), some (.int 2), some (PQ (r + v) (t + w)), some (.list [PQ (l + u) (b + c), PQ (r + v) (b + c)]), some (PQ (r - r) (t - b)), some (PQ (v - v) (w - c)), some (.int 0), some (.bool true)])) ?_ rfl)))))
  · simp! []
  · simp! [q1, ed1]
    rfl
  · simp! [q1, ed1]
    rfl
  · simp! [ev_turn, z, sgn_zero]
    rfl
  · simp! []
    rfl
  · simp! [ev_mvd, hx, hy]
    rfl
theorem gs2 (n : Nat) (h : k + j ≤ 400) (x6 x7 x8 x9 : Option PD) : evSs (sgOf pg (n + 5)) l_grown_by_1 ([5], [some (BC l b r t), some (BC u c v w), some (.int 2), some (.int 2), some (PQ (r + v) (t + w)), some (.list [PQ (l + u) (b + c), PQ (r + v) (b + c)]), x6, x7, x8, x9]) = .nx ([5], [some (BC l b r t), some (BC u c v w), some (.int 3), some (.int 3), some (PQ (l + u) (t + w)), some (.list [PQ (l + u) (b + c), PQ (r + v) (b + c), PQ (r + v) (t + w)]), some (PQ (l - r) (t - t)), some (PQ (u - v) (w - w)), some (.int 0), some (.bool true)]) := by
  unfold l_grown_by_1
  have z : (l - r) * (w - w) - (t - t) * (u - v) = 0 := by grind
  have hx : r + v + (l - r) + (u - v) = l + u := by grind
  have hy : t + w + (t - t) + (w - w) = t + w := by grind
  have q1 : Int.fmod 2 4 = 2 := rfl
  refine seq1 (app_at (x := PQ (r + v) (t + w)) ?_ rfl (by simp) rfl (by simp)) (seq1 (s' := ([5], [some (BC l b r t), some (BC u c v w), some (.int 2), some (.int 2), some (PQ (r + v) (t + w)), some (.list [PQ (l + u) (b + c), PQ (r + v) (b + c), PQ (r + v) (t + w)]), some (PQ (l - r) (t - t)), x7, x8, x9])) ?_ (seq1 (s' := ([5], [some (BC l b r t), some (BC u c v w), some (.int 2), some (.int 2), some (PQ (r + v) (t + w)), some (.list [PQ (l + u) (b + c), PQ (r + v) (b + c), PQ (r + v) (t + w)]), some (PQ (l - r) (t - t)), some (PQ (u - v) (w - w)), x8, x9])) ?_ (seq1 (s' := ([5], [some (BC l b r t), some (BC u c v w), some (.int 2), some (.int 2), some (PQ (r + v) (t + w)), some (.list [PQ (l + u) (b + c), PQ (r + v) (b + c), PQ (r + v) (t + w)]), some (PQ (l - r) (t - t)), some (PQ (u - v) (w - w)), some (.int 0), x9])) ?_ (seq1 (s' := ([5], [some (BC l b r t), some (BC u c v w), some (.int 2), some (.int 2), some (PQ (r + v) (t + w)), some (.list [PQ (l + u) (b + c), PQ (r + v) (b + c), PQ (r + v) (t + w)]), some (PQ (l - r) (t - t)), some (PQ (u - v) (w - w)), some (.int 0), some (.bool true)])) ?_ (seq1 (s' := ([5], [some (BC l b r t), some (BC u c v w), some (.int 3), some (.int 3), some (PQ (l + u) (t + w)), some (.list [PQ (l + u) (b + c), PQ (r + v) (b + c), PQ (r + v) (t + w)]), some (PQ (l - r) (t - t)), some (PQ (u - v) (w - w)), some (.int 0), some (.bool true)])) ?_ rfl)))))
  · simp! []
  · simp! [q1, ed2]
    rfl
  · simp! [q1, ed2]
    rfl
  · simp! [ev_turn, z, sgn_zero]
    rfl
  · simp! []
    rfl
  · simp! [ev_mvd, hx, hy]
    rfl
theorem gs3 (n : Nat) (h : k + j ≤ 400) (x6 x7 x8 x9 : Option PD) : evSs (sgOf pg (n + 5)) l_grown_by_1 ([5], [some (BC l b r t), some (BC u c v w), some (.int 3), some (.int 3), some (PQ (l + u) (t + w)), some (.list [PQ (l + u) (b + c), PQ (r + v) (b + c), PQ (r + v) (t + w)]), x6, x7, x8, x9]) = .nx ([5], [some (BC l b r t), some (BC u c v w), some (.int 4), some (.int 4), some (PQ (l + u) (b + c)), some (.list [PQ (l + u) (b + c), PQ (r + v) (b + c), PQ (r + v) (t + w), PQ (l + u) (t + w)]), some (PQ (l - l) (b - t)), some (PQ (u - u) (c - w)), some (.int 0), some (.bool true)]) := by
  unfold l_grown_by_1
  have z : (l - l) * (c - w) - (b - t) * (u - u) = 0 := by grind
  have hx : l + u + (l - l) + (u - u) = l + u := by grind
  have hy : t + w + (b - t) + (c - w) = b + c := by grind
  have q1 : Int.fmod 3 4 = 3 := rfl
  refine seq1 (app_at (x := PQ (l + u) (t + w)) ?_ rfl (by simp) rfl (by simp)) (seq1 (s' := ([5], [some (BC l b r t), some (BC u c v w), some (.int 3), some (.int 3), some (PQ (l + u) (t + w)), some (.list [PQ (l + u) (b + c), PQ (r + v) (b + c), PQ (r + v) (t + w), PQ (l + u) (t + w)]), some (PQ (l - l) (b - t)), x7, x8, x9])) ?_ (seq1 (s' := ([5], [some (BC l b r t), some (BC u c v w), some (.int 3), some (.int 3), some (PQ (l + u) (t + w)), some (.list [PQ (l + u) (b + c), PQ (r + v) (b + c), PQ (r + v) (t + w), PQ (l + u) (t + w)]), some (PQ (l - l) (b - t)), some (PQ (u - u) (c - w)), x8, x9])) ?_ (seq1 (s' := ([5], [some (BC l b r t), some (BC u c v w), some (.int 3), some (.int 3), some (PQ (l + u) (t + w)), some (.list [PQ (l + u) (b + c), PQ (r + v) (b + c), PQ (r + v) (t + w), PQ (l + u) (t + w)]), some (PQ (l - l) (b - t)), some (PQ (u - u) (c - w)), some (.int 0), x9])) ?_ (seq1 (s' := ([5], [some (BC l b r t), some (BC u c v w), some (.int 3), some (.int 3), some (PQ (l + u) (t + w)), some (.list [PQ (l + u) (b + c), PQ (r + v) (b + c), PQ (r + v) (t + w), PQ (l + u) (t + w)]), some (PQ (l - l) (b - t)), some (PQ (u - u) (c - w)), some (.int 0), some (.bool true)])) ?_ (seq1 (s' := ([5], [some (BC l b r t), some (BC u c v w), some (.int 4), some (.int 4), some (PQ (l + u) (b + c)), some (.list [PQ (l + u) (b + c), PQ (r + v) (b + c), PQ (r + v) (t + w), PQ (l + u) (t + w)]), some (PQ (l - l) (b - t)), some (PQ (u - u) (c - w)), some (.int 0), some (.bool true)])) ?_ rfl)))))
  · simp! []
  · simp! [q1, ed3]
    rfl
  · simp! [q1, ed3]
    rfl
  · simp! [ev_turn, z, sgn_zero]
    rfl
  · simp! []
    rfl
  · simp! [ev_mvd, hx, hy]
    rfl
theorem ev_grown_by (n : Nat) (h : k + j ≤ 400) : evF pg (n + 6) i_grown_by [BC l b r t, BC u c v w] = .ok (BC (l + u) (b + c) (r + v) (t + w)) := by
  rw [u_grown_by]
  unfold b_grown_by
  refine finR (seq1 (s' := ([], [some (BC l b r t), some (BC u c v w), some (.int 0), some (.int 0), some (PQ (l + u) (b + c)), none, none, none, none, none])) ?_ (seq1 (s' := ([5], [some (BC l b r t), some (BC u c v w), some (.int 0), some (.int 0), some (PQ (l + u) (b + c)), some (.list []), none, none, none, none])) rfl (seq1 (s' := ([5], [some (BC l b r t), some (BC u c v w), some (.int 4), some (.int 4), some (PQ (l + u) (b + c)), some (.list [PQ (l + u) (b + c), PQ (r + v) (b + c), PQ (r + v) (t + w), PQ (l + u) (t + w)]), some (PQ (l - l) (b - t)), some (PQ (u - u) (c - w)), some (.int 0), some (.bool true)])) ?_ (seqR rfl))))
  · simp! [ev_mvd]
  · rw [evS]
    refine whS (n := 999999) ?_ (gs0 n h _ _ _ _) (whS (n := 999998) ?_ (gs1 n h _ _ _ _) (whS (n := 999997) ?_ (gs2 n h _ _ _ _) (whS (n := 999996) ?_ (gs3 n h _ _ _ _) (whE (n := 999995) ?_))))
    all_goals simp! []
theorem ev_grown (n : Nat) (hl : l < r) (hb : b < t) (hu : u < v) (hc : c < w) (hk : k ≤ 150) (hj : j ≤ 150) : evF pg (n + 8) i_grown [BC l b r t, BC u c v w] = .ok (BC (l + u) (b + c) (r + v) (t + w)) := by
  rw [u_grown]
  unfold b_grown
  have q : evF pg (n + 7) i_check_both [BC l b r t, BC u c v w] = .ok .none := by
    rw [u_check_both]
    unfold b_check_both
    simp! [ev_cfd hl hb (n := n) hk, ev_cf hu hc n hj]
  simp! [q, ev_grown_by (n + 1) (show k + j ≤ 400 by omega)]
end
end k21
set_option Elab.async false
set_option linter.all false
set_option maxRecDepth 100000
set_option maxHeartbeats 4000000
namespace k21
open PySem PySem.Spec PyProof.Rows L2 Fe
/-! ### lines that part -/
abbrev DI (d e : Int) : PD := .tuple [.int d, .int e]
theorem rat0n : (0 : Rat).num = 0 := rfl
theorem rat0d : (0 : Rat).den = 1 := rfl
theorem gg0l (b : Int) : gg 0 b = b.natAbs := by unfold gg; simp
theorem gg0r (b : Int) : gg b 0 = b.natAbs := by unfold gg; simp
theorem fdiv_abs (y : Rat) (h : y ≠ 0) : y.num.fdiv (y.num.natAbs : Int) = sgn y := by
  have h0 := num_ne h
  have h1 := num_gt y
  have h2 := num_lt y
  unfold sgn
  by_cases c : 0 < y
  · have c' := h1.mpr c
    rw [if_pos c, show ((y.num.natAbs : Nat) : Int) = y.num by omega]
    exact Int.fdiv_self (by omega)
  · have c2 : y < 0 := by grind
    have c' := h2.mpr c2
    rw [if_neg c, if_pos c2, show ((y.num.natAbs : Nat) : Int) = -y.num by omega]
    have := Int.mul_fdiv_cancel_left (-1) (show -y.num ≠ 0 by omega)
    have e : -y.num * -1 = y.num := by omega
    rw [e] at this
    exact this
theorem abs_ne {y : Rat} (h : y ≠ 0) : ((y.num.natAbs : Nat) : Int) ≠ 0 := by
  have := num_ne h
  omega
instance abs_bd {y : Rat} {k : Nat} [A : BdQ y k] : Bd ((y.num.natAbs : Nat) : Int) k := ⟨by rw [Int.natAbs_natCast]; exact A.n⟩
theorem one_mul' (a : Int) : 1 * a = a := by omega
theorem mul_one' (a : Int) : a * 1 = a := by omega
theorem zero_mul' (a : Int) : 0 * a = 0 := by omega
theorem zfd (a : Int) : Int.fdiv 0 a = 0 := Int.zero_fdiv a
theorem nl1 : ((1 : Nat) : Int) = 1 := rfl
theorem ev_wpy (n : Nat) (y : Rat) {k : Nat} [BdQ y k] (h : y ≠ 0) (hk : k ≤ 2000) : evF pg (n + 2) i_whole_pair [PQ 0 y] = .ok (DI 0 (sgn y)) := by
  rw [u_whole_pair]
  unfold b_whole_pair
  have h1 := abs_ne h
  have h2 : k < 9000 := by omega
  simp! [rat0n, rat0d, nl1, zero_mul', mul_one', ev_common, gg0l, zfd, fdiv_abs y h]
theorem ev_wpx (n : Nat) (y : Rat) {k : Nat} [BdQ y k] (h : y ≠ 0) (hk : k ≤ 2000) : evF pg (n + 2) i_whole_pair [PQ y 0] = .ok (DI (sgn y) 0) := by
  rw [u_whole_pair]
  unfold b_whole_pair
  have h1 := abs_ne h
  have h2 : k < 9000 := by omega
  simp! [rat0n, rat0d, nl1, zero_mul', mul_one', ev_common, gg0r, zfd, fdiv_abs y h]
section
variable {l b r t : Rat} {k : Nat} [BdQ l k] [BdQ b k] [BdQ r k] [BdQ t k] (hl : l < r) (hb : b < t)
include hl hb
theorem sub_self' (x : Rat) : x - x = 0 := by grind
theorem ow0 (n : Nat) (hk : k ≤ 150) : evF pg (n + 5) i_outward [BC l b r t, .int 0] = .ok (DI 0 (-1)) := by
  rw [u_outward]
  unfold b_outward
  have h1 : 0 - (r - l) ≠ 0 := by grind
  have h2 : sgn (0 - (r - l)) = -1 := sgn_neg (by grind)
  have z : b - b = 0 := by grind
  simp! [ed0, gZ, ev_take, z, ev_wpy, h2]
theorem ow1 (n : Nat) (hk : k ≤ 150) : evF pg (n + 5) i_outward [BC l b r t, .int 1] = .ok (DI 1 0) := by
  rw [u_outward]
  unfold b_outward
  have h1 : t - b ≠ 0 := by grind
  have h2 : sgn (t - b) = 1 := sgn_pos (by grind)
  have z : r - r = 0 := by grind
  have z2 : (0 : Rat) - 0 = 0 := by grind
  simp! [ed1, gZ, ev_take, z, z2, ev_wpx, h2]
theorem ow2 (n : Nat) (hk : k ≤ 150) : evF pg (n + 5) i_outward [BC l b r t, .int 2] = .ok (DI 0 1) := by
  rw [u_outward]
  unfold b_outward
  have h1 : 0 - (l - r) ≠ 0 := by grind
  have h2 : sgn (0 - (l - r)) = 1 := sgn_pos (by grind)
  have z : t - t = 0 := by grind
  simp! [ed2, gZ, ev_take, z, ev_wpy, h2]
theorem ow3 (n : Nat) (hk : k ≤ 150) : evF pg (n + 5) i_outward [BC l b r t, .int 3] = .ok (DI (-1) 0) := by
  rw [u_outward]
  unfold b_outward
  have h1 : b - t ≠ 0 := by grind
  have h2 : sgn (b - t) = -1 := sgn_neg (by grind)
  have z : l - l = 0 := by grind
  have z2 : (0 : Rat) - 0 = 0 := by grind
  simp! [ed3, gZ, ev_take, z, z2, ev_wpx, h2]
end
section
variable {l b r t u c v w : Rat} {k j : Nat} [BdQ l k] [BdQ b k] [BdQ r k] [BdQ t k] [BdQ u j] [BdQ c j] [BdQ v j] [BdQ w j] (hl : l < r) (hb : b < t) (hu : u < v) (hc : c < w) (hk : k ≤ 150) (hj : j ≤ 150)
instance rch_bd (l b r t : Rat) (d e : Int) {k m : Nat} [BdQ l k] [BdQ b k] [BdQ r k] [BdQ t k] [Bd d m] [Bd e m] : BdQ (rch l b r t d e) (k + (m + 1) + (k + (m + 1)) + 1) := by
  unfold rch
  have h1 : BdQ (if 0 < d then r else l) k := by split <;> assumption
  have h2 : BdQ (if 0 < e then t else b) k := by split <;> assumption
  exact inferInstance
include hl hb hu hc hk hj
theorem ev_isp (n : Nat) (d e : Int) {m : Nat} [Bd d m] [Bd e m] (hm : m ≤ 100) : evF pg (n + 7) i_is_parting [BC l b r t, BC u c v w, DI d e] = .ok (.bool (decide (rch l b r t d e + rch u c v w (-d) (-e) < 0))) := by
  rw [u_is_parting]
  unfold b_is_parting
  simp! [ev_rch hl hb n d e (j := m) (by omega), ev_rch hu hc n (-d) (-e) (j := m) (by omega), ev_add, gZ, ev_is_less]
omit hl hb hu hc hk hj in
theorem pa0 : (rch l b r t 0 (-1) + rch u c v w (-0) (-(-1)) < 0) = (w < b) := by
  unfold rch
  have a1 : ((0 : Int) : Rat) = 0 := rfl
  have a2 : (((-1) : Int) : Rat) = -1 := rfl
  have a3 : ((-(-1) : Int) : Rat) = 1 := rfl
  have a4 : ((-0 : Int) : Rat) = 0 := rfl
  rw [a1, a2, a3, a4, if_neg (by decide), if_neg (by decide), if_neg (by decide), if_pos (by decide)]
  exact propext ⟨fun h => by grind, fun h => by grind⟩
omit hl hb hu hc hk hj in
theorem pa1 : (rch l b r t 1 0 + rch u c v w (-1) (-0) < 0) = (r < u) := by
  unfold rch
  have a1 : ((0 : Int) : Rat) = 0 := rfl
  have a2 : (((-1) : Int) : Rat) = -1 := rfl
  have a3 : ((1 : Int) : Rat) = 1 := rfl
  have a4 : ((-0 : Int) : Rat) = 0 := rfl
  rw [a1, a2, a3, a4, if_pos (by decide), if_neg (by decide), if_neg (by decide), if_neg (by decide)]
  exact propext ⟨fun h => by grind, fun h => by grind⟩
omit hl hb hu hc hk hj in
theorem pa2 : (rch l b r t 0 1 + rch u c v w (-0) (-1) < 0) = (t < c) := by
  unfold rch
  have a1 : ((0 : Int) : Rat) = 0 := rfl
  have a2 : (((-1) : Int) : Rat) = -1 := rfl
  have a3 : ((1 : Int) : Rat) = 1 := rfl
  have a4 : ((-0 : Int) : Rat) = 0 := rfl
  rw [a1, a2, a3, a4, if_neg (by decide), if_pos (by decide), if_neg (by decide), if_neg (by decide)]
  exact propext ⟨fun h => by grind, fun h => by grind⟩
omit hl hb hu hc hk hj in
theorem pa3 : (rch l b r t (-1) 0 + rch u c v w (-(-1)) (-0) < 0) = (v < l) := by
  unfold rch
  have a1 : ((0 : Int) : Rat) = 0 := rfl
  have a2 : (((-1) : Int) : Rat) = -1 := rfl
  have a3 : ((-(-1) : Int) : Rat) = 1 := rfl
  have a4 : ((-0 : Int) : Rat) = 0 := rfl
  rw [a1, a2, a3, a4, if_neg (by decide), if_neg (by decide), if_pos (by decide), if_neg (by decide)]
  exact propext ⟨fun h => by grind, fun h => by grind⟩
theorem isp0 (n : Nat) : evF pg (n + 7) i_is_parting [BC l b r t, BC u c v w, DI 0 (-1)] = .ok (.bool (decide (w < b))) := by
  have := ev_isp hl hb hu hc hk hj n 0 (-1) (m := 1) (by decide)
  rw [this]
  congr 2
  simp only [pa0]
theorem isp1 (n : Nat) : evF pg (n + 7) i_is_parting [BC l b r t, BC u c v w, DI 1 0] = .ok (.bool (decide (r < u))) := by
  have := ev_isp hl hb hu hc hk hj n 1 0 (m := 1) (by decide)
  rw [this]
  congr 2
  simp only [pa1]
theorem isp2 (n : Nat) : evF pg (n + 7) i_is_parting [BC l b r t, BC u c v w, DI 0 1] = .ok (.bool (decide (t < c))) := by
  have := ev_isp hl hb hu hc hk hj n 0 1 (m := 1) (by decide)
  rw [this]
  congr 2
  simp only [pa2]
theorem isp3 (n : Nat) : evF pg (n + 7) i_is_parting [BC l b r t, BC u c v w, DI (-1) 0] = .ok (.bool (decide (v < l))) := by
  have := ev_isp hl hb hu hc hk hj n (-1) 0 (m := 1) (by decide)
  rw [this]
  congr 2
  simp only [pa3]
end
/-- the first line -/
def lin (l b r t u c v w : Rat) : Option (Int × Int) := if w < b then some (0, -1) else if r < u then some (1, 0) else if t < c then some (0, 1) else if v < l then some (-1, 0) else none
def OLn : Option (Int × Int) → PD
  | some p => DI p.1 p.2
  | none => .none
section
variable {l b r t u c v w : Rat} {k j : Nat} [BdQ l k] [BdQ b k] [BdQ r k] [BdQ t k] [BdQ u j] [BdQ c j] [BdQ v j] [BdQ w j] (hl : l < r) (hb : b < t) (hu : u < v) (hc : c < w) (hk : k ≤ 150) (hj : j ≤ 150)
include hl hb hu hc hk hj
theorem ev_parting (n : Nat) : evF pg (n + 8) i_parting [BC l b r t, BC u c v w] = .ok (OLn (lin l b r t u c v w)) := by
  rw [u_parting]
  unfold b_parting
  have o0 := ow0 hl hb (n := n + 2) hk
  have o1 := ow1 hl hb (n := n + 2) hk
  have o2 := ow2 hl hb (n := n + 2) hk
  have o3 := ow3 hl hb (n := n + 2) hk
  have p0 := ow0 hu hc (n := n + 2) hj
  have p1 := ow1 hu hc (n := n + 2) hj
  have p2 := ow2 hu hc (n := n + 2) hj
  have p3 := ow3 hu hc (n := n + 2) hj
  have i0 := isp0 hl hb hu hc hk hj n
  have i1 := isp1 hl hb hu hc hk hj n
  have i2 := isp2 hl hb hu hc hk hj n
  have i3 := isp3 hl hb hu hc hk hj n
  let ways : List PD := [DI 0 (-1), DI 1 0, DI 0 1, DI (-1) 0, DI 0 1, DI (-1) 0, DI 0 (-1), DI 1 0]
  have s1 : evS (sgOf pg (n + 7)) (.setF 2 (.comp (.call i_outward (.cons (.var 0) (.cons (.var 3) (.nil)))) (.nm 3) (.r1 (.bi .len (.cons (.var 0) (.nil)))) (.none) [3])) ([], [some (BC l b r t), some (BC u c v w), none, none, none, none, none]) = .nx ([2], [some (BC l b r t), some (BC u c v w), some (.list [DI 0 (-1), DI 1 0, DI 0 1, DI (-1) 0]), none, none, none, none]) := by
    simp! [o0, o1, o2, o3]
    rfl
  have st : ∀ (m : Int) (d e : Int) (L : List PD) (x3 x4 x5 x6 : Option PD), L.length < 10 → evF pg (n + 7) i_outward [BC u c v w, .int m] = .ok (DI d e) → evSs (sgOf pg (n + 7)) l_parting_2 ([2], [some (BC l b r t), some (BC u c v w), some (.list L), some (.int m), x4, x5, x6]) = .nx ([2], [some (BC l b r t), some (BC u c v w), some (.list (L ++ [DI (-d) (-e)])), some (.int m), some (.int d), some (.int e), x6]) := by
    intro m d e L x3 x4 x5 x6 hL hq
    unfold l_parting_2
    refine seq1 (s' := ([2], [some (BC l b r t), some (BC u c v w), some (.list L), some (.int m), some (.int d), some (.int e), x6])) ?_ (seq1 (app_at (x := DI (-d) (-e)) rfl rfl (by simp) rfl (by omega)) rfl)
    simp! [hq]
    rfl
  have s2 : evS (sgOf pg (n + 7)) (.for_ (.nm 3) (.r1 (.bi .len (.cons (.var 1) (.nil)))) (l_parting_2)) ([2], [some (BC l b r t), some (BC u c v w), some (.list [DI 0 (-1), DI 1 0, DI 0 1, DI (-1) 0]), none, none, none, none]) = .nx ([2], [some (BC l b r t), some (BC u c v w), some (.list ways), some (.int 3), some (.int (-1)), some (.int 0), none]) := by
    refine evFor (items := [.int 0, .int 1, .int 2, .int 3]) (by simp! []) rfl ?_
    exact for_nm (st 0 0 (-1) _ none _ _ _ (by simp) p0) (for_nm (st 1 1 0 _ none _ _ _ (by simp) p1) (for_nm (st 2 0 1 _ none _ _ _ (by simp) p2) (for_nm (st 3 (-1) 0 _ none _ _ _ (by simp) p3) rfl)))
  have no : ∀ (d e : Int) (x6 : Option PD), evF pg (n + 7) i_is_parting [BC l b r t, BC u c v w, DI d e] = .ok (.bool false) → evSs (sgOf pg (n + 7)) l_parting_1 ([], [some (BC l b r t), some (BC u c v w), some (.list ways), some (.int 3), some (.int (-1)), some (.int 0), some (DI d e)]) = .nx ([], [some (BC l b r t), some (BC u c v w), some (.list ways), some (.int 3), some (.int (-1)), some (.int 0), some (DI d e)]) := by
    intro d e x6 h
    unfold l_parting_1
    simp! [h]
  have yes : ∀ (d e : Int) (x6 : Option PD), evF pg (n + 7) i_is_parting [BC l b r t, BC u c v w, DI d e] = .ok (.bool true) → evSs (sgOf pg (n + 7)) l_parting_1 ([], [some (BC l b r t), some (BC u c v w), some (.list ways), some (.int 3), some (.int (-1)), some (.int 0), some (DI d e)]) = .rt (DI d e) := by
    intro d e x6 h
    unfold l_parting_1
    simp! [h]
  have it : evIt (sgOf pg (n + 7)) (.e (.var 2)) [some (BC l b r t), some (BC u c v w), some (.list ways), some (.int 3), some (.int (-1)), some (.int 0), none] = .ok ways := rfl
  unfold lin
  by_cases c0 : w < b
  · rw [decide_eq_true c0] at i0
    rw [if_pos c0]
    exact finR (seq1 s1 (seq1 s2 (seqR (evFor it rfl (for_ret (yes _ _ none i0))))))
  · rw [decide_eq_false c0] at i0
    rw [if_neg c0]
    by_cases c1 : r < u
    · rw [decide_eq_true c1] at i1
      rw [if_pos c1]
      exact finR (seq1 s1 (seq1 s2 (seqR (evFor it rfl (for_nm (no _ _ none i0) (for_ret (yes _ _ none i1)))))))
    · rw [decide_eq_false c1] at i1
      rw [if_neg c1]
      by_cases c2 : t < c
      · rw [decide_eq_true c2] at i2
        rw [if_pos c2]
        exact finR (seq1 s1 (seq1 s2 (seqR (evFor it rfl (for_nm (no _ _ none i0) (for_nm (no _ _ none i1) (for_ret (yes _ _ none i2))))))))
      · rw [decide_eq_false c2] at i2
        rw [if_neg c2]
        by_cases c3 : v < l
        · rw [decide_eq_true c3] at i3
          rw [if_pos c3]
          exact finR (seq1 s1 (seq1 s2 (seqR (evFor it rfl (for_nm (no _ _ none i0) (for_nm (no _ _ none i1) (for_nm (no _ _ none i2) (for_ret (yes _ _ none i3)))))))))
        · rw [decide_eq_false c3] at i3
          rw [if_neg c3]
          exact finR (seq1 s1 (seq1 s2 (seq1 (evFor it rfl (for_nm (no _ _ none i0) (for_nm (no _ _ none i1) (for_nm (no _ _ none i2) (for_nm (no _ _ none i3) (for_nm (no _ _ none i2) (for_nm (no _ _ none i3) (for_nm (no _ _ none i0) (for_nm (no _ _ none i1) rfl))))))))) (seqR rfl))))
theorem ev_both (n : Nat) : evF pg (n + 7) i_check_both [BC l b r t, BC u c v w] = .ok .none := by
  rw [u_check_both]
  unfold b_check_both
  simp! [ev_cfd hl hb (n := n) hk, ev_cf hu hc n hj]
theorem ev_parted (n : Nat) : evF pg (n + 9) i_parted_by [BC l b r t, BC u c v w] = .ok (OLn (lin l b r t u c v w)) := by
  rw [u_parted_by]
  unfold b_parted_by
  simp! [ev_both hl hb hu hc hk hj (n + 1), ev_parting hl hb hu hc hk hj n]
end
end k21
set_option Elab.async false
set_option linter.all false
set_option maxRecDepth 100000
set_option maxHeartbeats 4000000
namespace k21
open PySem PySem.Spec PyProof.Rows L2 Fe
/-! ### how far a place is from an edge -/
def cl1 (p : Rat) : Rat := if p < 0 then 0 else if 1 < p then 1 else p
def prt (px py sx sy gx gy : Rat) : Rat := ((px - sx) * (gx - sx) + (py - sy) * (gy - sy)) / ((gx - sx) * (gx - sx) + (gy - sy) * (gy - sy))
def farP (c px py sx sy gx gy : Rat) : Rat := (px - (sx + c * (gx - sx))) * (px - (sx + c * (gx - sx))) + (py - (sy + c * (gy - sy))) * (py - (sy + c * (gy - sy)))
def farT (px py sx sy gx gy : Rat) : Rat := farP (cl1 (prt px py sx sy gx gy)) px py sx sy gx gy
theorem cl1_01 (p : Rat) : 0 ≤ cl1 p ∧ cl1 p ≤ 1 := by
  unfold cl1
  split
  · grind
  · split <;> grind
theorem ev_far (n : Nat) (px py sx sy gx gy : Rat) {k : Nat} [BdQ px k] [BdQ py k] [BdQ sx k] [BdQ sy k] [BdQ gx k] [BdQ gy k] (hk : k ≤ 40) (h0 : (gx - sx) * (gx - sx) + (gy - sy) * (gy - sy) ≠ 0) :
    evF pg (n + 6) i_far_from [PQ px py, PQ sx sy, PQ gx gy] = .ok (QD (farT px py sx sy gx gy)) := by
  rw [u_far_from]
  unfold b_far_from
  have kk : k + k + 1 + (k + k + 1) + (k + k + 1 + (k + k + 1)) + 1 + (k + k + 1 + (k + k + 1) + (k + k + 1 + (k + k + 1)) + 1) ≤ 16 * k + 100 := by omega
  unfold farT cl1
  generalize hp : prt px py sx sy gx gy = q
  have B : BdQ q (16 * k + 10) := by
    rw [← hp]
    unfold prt
    exact (inferInstance : BdQ (((px - sx) * (gx - sx) + (py - sy) * (gy - sy)) / ((gx - sx) * (gx - sx) + (gy - sy) * (gy - sy))) _).up (by omega)
  have B0 : BdQ (0 : Rat) (16 * k + 10) := (inferInstance : BdQ (0 : Rat) 1).up (by omega)
  have B1 : BdQ (1 : Rat) (16 * k + 10) := (inferInstance : BdQ (1 : Rat) 1).up (by omega)
  have z10 : ¬ (1 : Rat) < 0 := by decide
  have fin : ∀ (c : Rat) (x6 : Option PD), BdQ c (16 * k + 10) → evSs (sgOf pg (n + 5)) (.cons (.set 6 (.call i_moved (.cons (.var 1) (.cons (.tup (.cons (.call i_times (.cons (.var 5) (.cons (.ix (.var 3) (.int 0)) (.nil)))) (.cons (.call i_times (.cons (.var 5) (.cons (.ix (.var 3) (.int 1)) (.nil)))) (.nil)))) (.nil))))) (.cons (.ret (.call i_square (.cons (.tup (.cons (.call i_take (.cons (.ix (.var 0) (.int 0)) (.cons (.ix (.var 6) (.int 0)) (.nil)))) (.cons (.call i_take (.cons (.ix (.var 0) (.int 1)) (.cons (.ix (.var 6) (.int 1)) (.nil)))) (.nil)))) (.nil)))) (.nil)))
      ([], [some (PQ px py), some (PQ sx sy), some (PQ gx gy), some (PQ (gx - sx) (gy - sy)), some (PQ (px - sx) (py - sy)), some (QD c), x6]) = .rt (QD (farP c px py sx sy gx gy)) := by
    intro c x6 hc
    simp! [ev_times, ev_mvd, ev_take, ev_square]
    rfl
  refine finR (seq1 (s' := ([], [some (PQ px py), some (PQ sx sy), some (PQ gx gy), some (PQ (gx - sx) (gy - sy)), none, none, none])) ?_ (seq1 (s' := ([], [some (PQ px py), some (PQ sx sy), some (PQ gx gy), some (PQ (gx - sx) (gy - sy)), some (PQ (px - sx) (py - sy)), none, none])) ?_ (seq1 (s' := ([], [some (PQ px py), some (PQ sx sy), some (PQ gx gy), some (PQ (gx - sx) (gy - sy)), some (PQ (px - sx) (py - sy)), some (QD q), none])) ?_ ?_)))
  · simp! [ev_take]
  · simp! [ev_take]
  · simp! [ev_times, ev_add, ev_square, ev_over]
    rw [← hp]
    rfl
  · by_cases c1 : q < 0
    · rw [if_pos c1]
      refine seq1 (s' := ([], [some (PQ px py), some (PQ sx sy), some (PQ gx gy), some (PQ (gx - sx) (gy - sy)), some (PQ (px - sx) (py - sy)), some (QD 0), none])) ?_ (seq1 (s' := ([], [some (PQ px py), some (PQ sx sy), some (PQ gx gy), some (PQ (gx - sx) (gy - sy)), some (PQ (px - sx) (py - sy)), some (QD 0), none])) ?_ (fin 0 none B0))
      · simp! [gZ, ev_is_less, c1]
      · simp! [gO, ev_is_less, z10]
    · rw [if_neg c1]
      by_cases c2 : 1 < q
      · rw [if_pos c2]
        refine seq1 (s' := ([], [some (PQ px py), some (PQ sx sy), some (PQ gx gy), some (PQ (gx - sx) (gy - sy)), some (PQ (px - sx) (py - sy)), some (QD q), none])) ?_ (seq1 (s' := ([], [some (PQ px py), some (PQ sx sy), some (PQ gx gy), some (PQ (gx - sx) (gy - sy)), some (PQ (px - sx) (py - sy)), some (QD 1), none])) ?_ (fin 1 none B1))
        · simp! [gZ, ev_is_less, c1]
        · simp! [gO, ev_is_less, c2]
      · rw [if_neg c2]
        refine seq1 (s' := ([], [some (PQ px py), some (PQ sx sy), some (PQ gx gy), some (PQ (gx - sx) (gy - sy)), some (PQ (px - sx) (py - sy)), some (QD q), none])) ?_ (seq1 (s' := ([], [some (PQ px py), some (PQ sx sy), some (PQ gx gy), some (PQ (gx - sx) (gy - sy)), some (PQ (px - sx) (py - sy)), some (QD q), none])) ?_ (fin q none B))
        · simp! [gZ, ev_is_less, c1]
        · simp! [gO, ev_is_less, c2]
instance far_bd (px py sx sy gx gy : Rat) {k : Nat} [BdQ px k] [BdQ py k] [BdQ sx k] [BdQ sy k] [BdQ gx k] [BdQ gy k] : BdQ (farT px py sx sy gx gy) (80 * k + 100) := by
  unfold farT
  generalize hc : cl1 (prt px py sx sy gx gy) = c
  have B : BdQ c (16 * k + 10) := by
    rw [← hc]
    have B2 : BdQ (prt px py sx sy gx gy) (16 * k + 10) := by
      unfold prt
      exact (inferInstance : BdQ (((px - sx) * (gx - sx) + (py - sy) * (gy - sy)) / ((gx - sx) * (gx - sx) + (gy - sy) * (gy - sy))) _).up (by omega)
    unfold cl1
    split
    · exact (inferInstance : BdQ (0 : Rat) 1).up (by omega)
    · split
      · exact (inferInstance : BdQ (1 : Rat) 1).up (by omega)
      · exact B2
  unfold farP
  exact (inferInstance : BdQ ((px - (sx + c * (gx - sx))) * (px - (sx + c * (gx - sx))) + (py - (sy + c * (gy - sy))) * (py - (sy + c * (gy - sy)))) _).up (by omega)
/-! ### the least one -/
def mn (o : Option Rat) (x : Rat) : Rat := match o with
  | none => x
  | some y => if x < y then x else y
def OQ : Option Rat → PD
  | none => .none
  | some x => QD x
theorem mn_bd {o : Option Rat} {x : Rat} {k : Nat} [B : BdQ x k] (h : ∀ y, o = some y → BdQ y k) : BdQ (mn o x) k := by
  cases o with
  | none => exact B
  | some y =>
    unfold mn
    dsimp only
    split
    · exact B
    · exact h y rfl
theorem mnF {L : List Rat} : ∀ (o : Option Rat), (∀ y, L.foldl (fun o x => some (mn o x)) o = some y → (∀ v ∈ L, y ≤ v) ∧ (∀ z, o = some z → y ≤ z) ∧ (y ∈ L ∨ o = some y)) := by
  induction L with
  | nil => intro o y h; exact ⟨fun _ h => (nomatch h), fun z hz => by rw [hz] at h; cases h; exact Rat.le_refl, .inr h⟩
  | cons x L ih =>
    intro o y h
    rw [List.foldl_cons] at h
    obtain ⟨h1, h2, h3⟩ := ih _ y h
    have h2 := h2 _ rfl
    refine ⟨fun v hv => ?_, fun z hz => ?_, ?_⟩
    · rcases List.mem_cons.mp hv with rfl | hv
      · cases o with
        | none => exact h2
        | some w =>
          unfold mn at h2
          dsimp only at h2
          split at h2 <;> grind
      · exact h1 v hv
    · subst hz
      unfold mn at h2
      dsimp only at h2
      split at h2 <;> grind
    · rcases h3 with h3 | h3
      · exact .inl (List.mem_cons_of_mem _ h3)
      · have h3 : mn o x = y := by simpa using h3
        cases o with
        | none =>
          left
          rw [← h3]
          exact List.mem_cons_self ..
        | some w =>
          unfold mn at h3
          dsimp only at h3
          split at h3
          · left; rw [← h3]; exact List.mem_cons_self ..
          · right; rw [h3]

section
variable {u c v w : Rat} {k : Nat} [BdQ u k] [BdQ c k] [BdQ v k] [BdQ w k] (hu : u < v) (hc : c < w) (hk : k ≤ 40)
include hu hc hk
theorem gap1 (n : Nat) (A B fi : PD) (o : Option Rat) (ho : ∀ y, o = some y → BdQ y (80 * k + 100)) (px py sx sy gx gy : Rat) (x7 : Option PD) (m : Int) [BdQ px k] [BdQ py k] [BdQ sx k] [BdQ sy k] [BdQ gx k] [BdQ gy k]
    (h0 : (gx - sx) * (gx - sx) + (gy - sy) * (gy - sy) ≠ 0) (f1 : ixV (BC u c v w) (.int (m - 1)) = .ok (PQ sx sy)) (f2 : ixV (BC u c v w) (.int m) = .ok (PQ gx gy)) :
    evSs (sgOf pg (n + 7)) l_gap_1 ([], [some A, some B, some (OQ o), some fi, some (BC u c v w), some (PQ px py), some (.int m), x7]) = .nx ([], [some A, some B, some (OQ (some (mn o (farT px py sx sy gx gy)))), some fi, some (BC u c v w), some (PQ px py), some (.int m), some (QD (farT px py sx sy gx gy))]) := by
  unfold l_gap_1
  have fz := far_bd px py sx sy gx gy (k := k)
  refine seq1 (s' := ([], [some A, some B, some (OQ o), some fi, some (BC u c v w), some (PQ px py), some (.int m), some (QD (farT px py sx sy gx gy))])) ?_ ?_
  · have q := ev_far (n + 1) px py sx sy gx gy hk h0
    simp only [evS, evE, evEs, List.getElem?_cons_succ, List.getElem?_cons_zero, bok, sok, vsub, f1, f2, q, List.set_cons_succ, List.set_cons_zero, dl0]
  · generalize farT px py sx sy gx gy = x at *
    cases o with
    | none => rfl
    | some y =>
      have by_ := ho y rfl
      unfold mn OQ
      dsimp only
      by_cases c1 : x < y
      · rw [if_pos c1]
        simp! [ev_is_less, c1]
      · rw [if_neg c1]
        simp! [ev_is_less, c1]
/-- the values of a place -/
def vals (u c v w px py : Rat) : List Rat := [farT px py u w u c, farT px py u c v c, farT px py v c v w, farT px py v w u w]
theorem gap2 (n : Nat) (A B fi : PD) (o : Option Rat) (ho : ∀ y, o = some y → BdQ y (80 * k + 100)) (px py : Rat) (x6 x7 : Option PD) [BdQ px k] [BdQ py k] :
    ∃ o' x7', evSs (sgOf pg (n + 7)) l_gap_2 ([], [some A, some B, some (OQ o), some fi, some (BC u c v w), some (PQ px py), x6, x7]) = .nx ([], [some A, some B, some (OQ (some o')), some fi, some (BC u c v w), some (PQ px py), some (.int 3), x7']) ∧ BdQ o' (80 * k + 100) ∧ some o' = (vals u c v w px py).foldl (fun o x => some (mn o x)) o := by
  have nz : ∀ a b : Rat, a < b → (b - a) * (b - a) + (0 : Rat) ≠ 0 ∧ (0 : Rat) + (b - a) * (b - a) ≠ 0 := by
    intro a b h
    have := Rat.mul_pos (show 0 < b - a by grind) (show 0 < b - a by grind)
    constructor <;> grind
  have h0 : (u - u) * (u - u) + (c - w) * (c - w) ≠ 0 := by have := (nz c w hc).1; grind
  have h1 : (v - u) * (v - u) + (c - c) * (c - c) ≠ 0 := by have := (nz u v hu).1; grind
  have h2 : (v - v) * (v - v) + (w - c) * (w - c) ≠ 0 := by have := (nz c w hc).1; grind
  have h3 : (u - v) * (u - v) + (w - w) * (w - w) ≠ 0 := by have := (nz u v hu).1; grind
  have b0 := far_bd px py u w u c (k := k)
  have b1 := far_bd px py u c v c (k := k)
  have b2 := far_bd px py v c v w (k := k)
  have b3 := far_bd px py v w u w (k := k)
  have e0 := mn_bd (o := o) (x := farT px py u w u c) ho
  have e1 := mn_bd (o := some (mn o (farT px py u w u c))) (x := farT px py u c v c) (fun y h => by cases h; exact e0)
  have e2 := mn_bd (o := some (mn (some (mn o (farT px py u w u c))) (farT px py u c v c))) (x := farT px py v c v w) (fun y h => by cases h; exact e1)
  have e3 := mn_bd (o := some (mn (some (mn (some (mn o (farT px py u w u c))) (farT px py u c v c))) (farT px py v c v w))) (x := farT px py v w u w) (fun y h => by cases h; exact e2)
  refine ⟨_, some (QD (farT px py v w u w)), ?_, e3, rfl⟩
  unfold l_gap_2
  refine seq1 (evFor (items := [.int 0, .int 1, .int 2, .int 3]) (by simp! []) rfl (for_nm (gap1 hu hc hk n A B fi o ho px py u w u c x7 0 h0 rfl rfl) (for_nm (gap1 hu hc hk n A B fi _ (fun y h => by cases h; exact e0) px py u c v c _ 1 h1 rfl rfl) (for_nm (gap1 hu hc hk n A B fi _ (fun y h => by cases h; exact e1) px py v c v w _ 2 h2 rfl rfl) (for_nm (gap1 hu hc hk n A B fi _ (fun y h => by cases h; exact e2) px py v w u w _ 3 h3 rfl rfl) rfl))))) rfl
end
section
variable {l b r t u c v w : Rat} {k : Nat} [BdQ l k] [BdQ b k] [BdQ r k] [BdQ t k] [BdQ u k] [BdQ c k] [BdQ v k] [BdQ w k] (hl : l < r) (hb : b < t) (hu : u < v) (hc : c < w) (hk : k ≤ 40)
def vals4 (l b r t u c v w : Rat) : List Rat := vals u c v w l b ++ (vals u c v w r b ++ (vals u c v w r t ++ vals u c v w l t))
include hl hb hu hc hk
theorem gap3 (n : Nat) (A B : PD) (o : Option Rat) (ho : ∀ y, o = some y → BdQ y (80 * k + 100)) (x5 x6 x7 : Option PD) :
    ∃ o' x7', evSs (sgOf pg (n + 7)) l_gap_3 ([], [some A, some B, some (OQ o), some (BC l b r t), some (BC u c v w), x5, x6, x7]) = .nx ([], [some A, some B, some (OQ (some o')), some (BC l b r t), some (BC u c v w), some (PQ l t), some (.int 3), x7']) ∧ BdQ o' (80 * k + 100) ∧ some o' = (vals4 l b r t u c v w).foldl (fun o x => some (mn o x)) o := by
  obtain ⟨o1, y1, s1, d1, f1⟩ := gap2 hu hc hk n A B (BC l b r t) o ho l b x6 x7
  obtain ⟨o2, y2, s2, d2, f2⟩ := gap2 hu hc hk n A B (BC l b r t) (some o1) (fun y h => by cases h; exact d1) r b (some (.int 3)) y1
  obtain ⟨o3, y3, s3, d3, f3⟩ := gap2 hu hc hk n A B (BC l b r t) (some o2) (fun y h => by cases h; exact d2) r t (some (.int 3)) y2
  obtain ⟨o4, y4, s4, d4, f4⟩ := gap2 hu hc hk n A B (BC l b r t) (some o3) (fun y h => by cases h; exact d3) l t (some (.int 3)) y3
  refine ⟨o4, y4, ?_, d4, ?_⟩
  · unfold l_gap_3
    exact seq1 (evFor (items := [PQ l b, PQ r b, PQ r t, PQ l t]) rfl rfl (for_nm s1 (for_nm s2 (for_nm s3 (for_nm s4 rfl))))) rfl
  · unfold vals4
    rw [List.foldl_append, List.foldl_append, List.foldl_append, ← f1, ← f2, ← f3, ← f4]
/-- all values -/
def vals8 (l b r t u c v w : Rat) : List Rat := vals4 l b r t u c v w ++ vals4 u c v w l b r t
theorem ev_gapN (n : Nat) (h : lin l b r t u c v w = none) : evF pg (n + 9) i_gap [BC l b r t, BC u c v w] = .ok (QD 0) := by
  rw [u_gap]
  unfold b_gap
  have hk' : k ≤ 150 := by omega
  have q := ev_parting hl hb hu hc hk' hk' n
  rw [h] at q
  have q2 : isNoneD (OLn none) = true := rfl
  simp! [ev_both hl hb hu hc hk' hk' (n + 1), q, q2, gZ]
theorem ev_gapS (n : Nat) {p : Int × Int} (h : lin l b r t u c v w = some p) : ∃ g, evF pg (n + 9) i_gap [BC l b r t, BC u c v w] = .ok (QD g) ∧ some g = (vals8 l b r t u c v w).foldl (fun o x => some (mn o x)) none := by
  rw [u_gap]
  unfold b_gap
  have hk' : k ≤ 150 := by omega
  have q := ev_parting hl hb hu hc hk' hk' n
  rw [h] at q
  have q2 : isNoneD (OLn (some p)) = false := rfl
  obtain ⟨o1, y1, s1, d1, f1⟩ := gap3 hl hb hu hc hk (n + 1) (BC l b r t) (BC u c v w) none (fun y h => by cases h) none none none
  obtain ⟨o2, y2, s2, d2, f2⟩ := gap3 hu hc hl hb hk (n + 1) (BC l b r t) (BC u c v w) (some o1) (fun y h => by cases h; exact d1) (some (PQ l t)) (some (.int 3)) y1
  refine ⟨o2, finR (seq1 (s' := ([], [some (BC l b r t), some (BC u c v w), none, none, none, none, none, none])) ?_ (seq1 (s' := ([], [some (BC l b r t), some (BC u c v w), none, none, none, none, none, none])) ?_ (seq1 (s' := ([], [some (BC l b r t), some (BC u c v w), some (OQ none), none, none, none, none, none])) rfl (seq1 (evFor (items := [.tuple [BC l b r t, BC u c v w], .tuple [BC u c v w, BC l b r t]]) rfl rfl (for_t (by simp! []) s1 (for_t (by simp! []) s2 rfl))) (seqR rfl))))), ?_⟩
  · simp! [ev_both hl hb hu hc hk' hk' (n + 1)]
  · simp! [q, q2]
  · unfold vals8
    rw [List.foldl_append, ← f1, ← f2]
end
end k21
set_option Elab.async false
set_option linter.all false
set_option maxRecDepth 100000
set_option maxHeartbeats 4000000
namespace k21
open PySem PySem.Spec PyProof.Rows L2 Fe
/-! ### the gap of two boxes -/
theorem near_in {u v s g c : Rat} (c0 : 0 ≤ c) (c1 : c ≤ 1) (s0 : u ≤ s) (s1 : s ≤ v) (g0 : u ≤ g) (g1 : g ≤ v) : u ≤ s + c * (g - s) ∧ s + c * (g - s) ≤ v := by
  have a1 : 0 ≤ c * (g - u) := Rat.mul_nonneg c0 (by grind)
  have a2 : 0 ≤ (1 - c) * (s - u) := Rat.mul_nonneg (by grind) (by grind)
  have a3 : 0 ≤ c * (v - g) := Rat.mul_nonneg c0 (by grind)
  have a4 : 0 ≤ (1 - c) * (v - s) := Rat.mul_nonneg (by grind) (by grind)
  constructor <;> grind
/-- how far two sides are -/
def sgp (l r u v : Rat) : Rat := mx (mx (l - v) (u - r)) 0
theorem sq_le {g x : Rat} (h0 : 0 ≤ g) (h : g ≤ x) : g * g ≤ x * x := by
  have a : 0 ≤ (x - g) * (x + g) := Rat.mul_nonneg (by grind) (by grind)
  grind
theorem sgp_nn (l r u v : Rat) : 0 ≤ sgp l r u v := by unfold sgp mx; grind
theorem sgp_le {l r u v p q : Rat} (p0 : l ≤ p) (p1 : p ≤ r) (q0 : u ≤ q) (q1 : q ≤ v) : sgp l r u v * sgp l r u v ≤ (p - q) * (p - q) := by
  have h0 := sgp_nn l r u v
  have h : sgp l r u v ≤ p - q ∨ sgp l r u v ≤ q - p := by unfold sgp mx; grind
  rcases h with h | h
  · exact sq_le h0 h
  · have := sq_le h0 h
    grind
theorem sgp_comm (l r u v : Rat) : sgp l r u v = sgp u v l r := by unfold sgp mx; grind
def gp (l b r t u c v w : Rat) : Rat := sgp l r u v * sgp l r u v + sgp b t c w * sgp b t c w
theorem gp_comm (l b r t u c v w : Rat) : gp l b r t u c v w = gp u c v w l b r t := by unfold gp; rw [sgp_comm l r, sgp_comm b t]
theorem far_ge {l b r t u c v w px py sx sy gx gy : Rat} (p0 : l ≤ px) (p1 : px ≤ r) (p2 : b ≤ py) (p3 : py ≤ t) (s0 : u ≤ sx) (s1 : sx ≤ v) (s2 : c ≤ sy) (s3 : sy ≤ w) (g0 : u ≤ gx) (g1 : gx ≤ v) (g2 : c ≤ gy) (g3 : gy ≤ w) :
    gp l b r t u c v w ≤ farT px py sx sy gx gy := by
  unfold farT
  obtain ⟨c0, c1⟩ := cl1_01 (prt px py sx sy gx gy)
  generalize cl1 (prt px py sx sy gx gy) = z at *
  obtain ⟨n0, n1⟩ := near_in c0 c1 s0 s1 g0 g1
  obtain ⟨n2, n3⟩ := near_in c0 c1 s2 s3 g2 g3
  have a := sgp_le p0 p1 n0 n1
  have b := sgp_le p2 p3 n2 n3
  unfold gp farP
  grind
theorem vals_ge {l b r t u c v w px py : Rat} (hu : u < v) (hc : c < w) (p0 : l ≤ px) (p1 : px ≤ r) (p2 : b ≤ py) (p3 : py ≤ t) : ∀ x ∈ vals u c v w px py, gp l b r t u c v w ≤ x := by
  intro x hx
  unfold vals at hx
  simp only [List.mem_cons, List.not_mem_nil, or_false] at hx
  rcases hx with rfl | rfl | rfl | rfl <;> exact far_ge p0 p1 p2 p3 (by grind) (by grind) (by grind) (by grind) (by grind) (by grind) (by grind) (by grind)
theorem vals4_ge {l b r t u c v w : Rat} (hl : l < r) (hb : b < t) (hu : u < v) (hc : c < w) : ∀ x ∈ vals4 l b r t u c v w, gp l b r t u c v w ≤ x := by
  intro x hx
  unfold vals4 at hx
  simp only [List.mem_append] at hx
  rcases hx with h | h | h | h <;> exact vals_ge hu hc (by grind) (by grind) (by grind) (by grind) x h
/-! ### where it is so near -/
theorem prt_h {px py x0 y x1 : Rat} (h : x0 ≠ x1) : prt px py x0 y x1 y = (px - x0) / (x1 - x0) := by
  unfold prt
  have : x1 - x0 ≠ 0 := by grind
  grind
theorem prt_v {px py x y0 y1 : Rat} (h : y0 ≠ y1) : prt px py x y0 x y1 = (py - y0) / (y1 - y0) := by
  unfold prt
  have : y1 - y0 ≠ 0 := by grind
  grind
theorem div_nn {a b : Rat} (ha : 0 ≤ a) (hb : 0 < b) : 0 ≤ a / b := by
  rw [Rat.div_def]
  exact Rat.mul_nonneg ha (by have := Rat.inv_pos.mpr hb; grind)
theorem cl_in {p : Rat} (h0 : 0 ≤ p) (h1 : p ≤ 1) : cl1 p = p := by
  unfold cl1
  rw [if_neg (by grind), if_neg (by grind)]
theorem cl_lo {p : Rat} (h0 : p ≤ 0) : cl1 p = 0 := by unfold cl1; grind
theorem cl_hi {p : Rat} (h0 : 1 ≤ p) : cl1 p = 1 := by unfold cl1; grind
/-- between the ends of a level or upright edge -/
theorem far_v {px py x y0 y1 : Rat} (h : y0 < y1 ∧ y0 ≤ py ∧ py ≤ y1 ∨ y1 < y0 ∧ y1 ≤ py ∧ py ≤ y0) : farT px py x y0 x y1 = (px - x) * (px - x) := by
  have ne : y0 ≠ y1 := by grind
  have d0 : y1 - y0 ≠ 0 := by grind
  unfold farT
  rw [prt_v ne]
  have k0 : 0 ≤ (py - y0) / (y1 - y0) := by
    rcases h with ⟨h1, h2, h3⟩ | ⟨h1, h2, h3⟩
    · exact div_nn (by grind) (by grind)
    · have := div_nn (a := y0 - py) (b := y0 - y1) (by grind) (by grind)
      have e : (py - y0) / (y1 - y0) = (y0 - py) / (y0 - y1) := by
        have : y0 - y1 ≠ 0 := by grind
        grind
      rw [e]; exact this
  have k1 : (py - y0) / (y1 - y0) ≤ 1 := by
    have e : 1 - (py - y0) / (y1 - y0) = (y1 - py) / (y1 - y0) := by grind
    have : 0 ≤ (y1 - py) / (y1 - y0) := by
      rcases h with ⟨h1, h2, h3⟩ | ⟨h1, h2, h3⟩
      · exact div_nn (by grind) (by grind)
      · have := div_nn (a := py - y1) (b := y0 - y1) (by grind) (by grind)
        have e : (y1 - py) / (y1 - y0) = (py - y1) / (y0 - y1) := by
          have : y0 - y1 ≠ 0 := by grind
          grind
        rw [e]; exact this
    grind
  rw [cl_in k0 k1]
  unfold farP
  have : (py - y0) / (y1 - y0) * (y1 - y0) = py - y0 := by grind
  rw [this]
  grind
theorem far_h {px py y x0 x1 : Rat} (h : x0 < x1 ∧ x0 ≤ px ∧ px ≤ x1 ∨ x1 < x0 ∧ x1 ≤ px ∧ px ≤ x0) : farT px py x0 y x1 y = (py - y) * (py - y) := by
  have ne : x0 ≠ x1 := by grind
  have d0 : x1 - x0 ≠ 0 := by grind
  unfold farT
  rw [prt_h ne]
  have k0 : 0 ≤ (px - x0) / (x1 - x0) := by
    rcases h with ⟨h1, h2, h3⟩ | ⟨h1, h2, h3⟩
    · exact div_nn (by grind) (by grind)
    · have := div_nn (a := x0 - px) (b := x0 - x1) (by grind) (by grind)
      have e : (px - x0) / (x1 - x0) = (x0 - px) / (x0 - x1) := by
        have : x0 - x1 ≠ 0 := by grind
        grind
      rw [e]; exact this
  have k1 : (px - x0) / (x1 - x0) ≤ 1 := by
    have e : 1 - (px - x0) / (x1 - x0) = (x1 - px) / (x1 - x0) := by grind
    have : 0 ≤ (x1 - px) / (x1 - x0) := by
      rcases h with ⟨h1, h2, h3⟩ | ⟨h1, h2, h3⟩
      · exact div_nn (by grind) (by grind)
      · have := div_nn (a := px - x1) (b := x0 - x1) (by grind) (by grind)
        have e : (x1 - px) / (x1 - x0) = (px - x1) / (x0 - x1) := by
          have : x0 - x1 ≠ 0 := by grind
          grind
        rw [e]; exact this
    grind
  rw [cl_in k0 k1]
  unfold farP
  have : (px - x0) / (x1 - x0) * (x1 - x0) = px - x0 := by grind
  rw [this]
  grind
/-- beyond an end of a level edge -/
theorem far_h0 {px py y x0 x1 : Rat} (h : px ≤ x0 ∧ x0 < x1 ∨ x0 ≤ px ∧ x1 < x0) : farT px py x0 y x1 y = (px - x0) * (px - x0) + (py - y) * (py - y) := by
  have ne : x0 ≠ x1 := by grind
  unfold farT
  rw [prt_h ne]
  have k0 : (px - x0) / (x1 - x0) ≤ 0 := by
    have : 0 ≤ (x0 - px) / (x1 - x0) := by
      rcases h with ⟨h1, h2⟩ | ⟨h1, h2⟩
      · exact div_nn (by grind) (by grind)
      · have := div_nn (a := px - x0) (b := x0 - x1) (by grind) (by grind)
        have e : (x0 - px) / (x1 - x0) = (px - x0) / (x0 - x1) := by
          have : x0 - x1 ≠ 0 := by grind
          have : x1 - x0 ≠ 0 := by grind
          grind
        rw [e]; exact this
    have e : (px - x0) / (x1 - x0) = -((x0 - px) / (x1 - x0)) := by grind
    grind
  rw [cl_lo k0]
  unfold farP
  grind
theorem far_h1 {px py y x0 x1 : Rat} (h : x1 ≤ px ∧ x0 < x1 ∨ px ≤ x1 ∧ x1 < x0) : farT px py x0 y x1 y = (px - x1) * (px - x1) + (py - y) * (py - y) := by
  have ne : x0 ≠ x1 := by grind
  have d0 : x1 - x0 ≠ 0 := by grind
  unfold farT
  rw [prt_h ne]
  have k0 : 1 ≤ (px - x0) / (x1 - x0) := by
    have : 0 ≤ (px - x1) / (x1 - x0) := by
      rcases h with ⟨h1, h2⟩ | ⟨h1, h2⟩
      · exact div_nn (by grind) (by grind)
      · have := div_nn (a := x1 - px) (b := x0 - x1) (by grind) (by grind)
        have e : (px - x1) / (x1 - x0) = (x1 - px) / (x0 - x1) := by
          have : x0 - x1 ≠ 0 := by grind
          grind
        rw [e]; exact this
    have e : (px - x0) / (x1 - x0) = 1 + (px - x1) / (x1 - x0) := by grind
    grind
  rw [cl_hi k0]
  unfold farP
  grind
theorem lin_some {l b r t u c v w : Rat} {p : Int × Int} (h : lin l b r t u c v w = some p) : w < b ∨ r < u ∨ t < c ∨ v < l := by
  unfold lin at h
  by_cases h0 : w < b
  · exact .inl h0
  · by_cases h1 : r < u
    · exact .inr (.inl h1)
    · by_cases h2 : t < c
      · exact .inr (.inr (.inl h2))
      · by_cases h3 : v < l
        · exact .inr (.inr (.inr h3))
        · rw [if_neg h0, if_neg h1, if_neg h2, if_neg h3] at h
          cases h
theorem lin_none {l b r t u c v w : Rat} (h : lin l b r t u c v w = none) : ¬ w < b ∧ ¬ r < u ∧ ¬ t < c ∧ ¬ v < l := by
  unfold lin at h
  by_cases h0 : w < b
  · rw [if_pos h0] at h; cases h
  · by_cases h1 : r < u
    · rw [if_neg h0, if_pos h1] at h; cases h
    · by_cases h2 : t < c
      · rw [if_neg h0, if_neg h1, if_pos h2] at h; cases h
      · by_cases h3 : v < l
        · rw [if_neg h0, if_neg h1, if_neg h2, if_pos h3] at h; cases h
        · exact ⟨h0, h1, h2, h3⟩
theorem sg1 {l r u v : Rat} (hl : l < r) (hu : u < v) (h : r < u) : sgp l r u v = u - r := by unfold sgp mx; grind
theorem sg2 {l r u v : Rat} (hl : l < r) (hu : u < v) (h : v < l) : sgp l r u v = l - v := by unfold sgp mx; grind
theorem sg3 {l r u v : Rat} (h : ¬ r < u) (h2 : ¬ v < l) : sgp l r u v = 0 := by unfold sgp mx; grind
theorem m8 {l b r t u c v w x : Rat} (h : x ∈ vals4 l b r t u c v w ∨ x ∈ vals4 u c v w l b r t) : x ∈ vals8 l b r t u c v w := by
  unfold vals8
  exact List.mem_append.mpr h
theorem gp_mem {l b r t u c v w : Rat} (hl : l < r) (hb : b < t) (hu : u < v) (hc : c < w) (h : w < b ∨ r < u ∨ t < c ∨ v < l) : gp l b r t u c v w ∈ vals8 l b r t u c v w := by
  have inA : ∀ x, (x = farT l b u w u c ∨ x = farT l b u c v c ∨ x = farT l b v c v w ∨ x = farT l b v w u w ∨ x = farT r b u w u c ∨ x = farT r b u c v c ∨ x = farT r b v c v w ∨ x = farT r b v w u w ∨ x = farT r t u w u c ∨ x = farT r t u c v c ∨ x = farT r t v c v w ∨ x = farT r t v w u w ∨ x = farT l t u w u c ∨ x = farT l t u c v c ∨ x = farT l t v c v w ∨ x = farT l t v w u w) → x ∈ vals4 l b r t u c v w := by
    intro x hx
    unfold vals4 vals
    simp only [List.mem_append, List.mem_cons, List.not_mem_nil, or_false, or_assoc]
    exact hx
  have inB : ∀ x, (x = farT u c l t l b ∨ x = farT u c l b r b ∨ x = farT u c r b r t ∨ x = farT u c r t l t ∨ x = farT v c l t l b ∨ x = farT v c l b r b ∨ x = farT v c r b r t ∨ x = farT v c r t l t ∨ x = farT v w l t l b ∨ x = farT v w l b r b ∨ x = farT v w r b r t ∨ x = farT v w r t l t ∨ x = farT u w l t l b ∨ x = farT u w l b r b ∨ x = farT u w r b r t ∨ x = farT u w r t l t) → x ∈ vals4 u c v w l b r t := by
    intro x hx
    unfold vals4 vals
    simp only [List.mem_append, List.mem_cons, List.not_mem_nil, or_false, or_assoc]
    exact hx
  apply m8
  unfold gp
  by_cases x1 : r < u
  · rw [sg1 hl hu x1]
    by_cases y1 : t < c
    · rw [sg1 hb hc y1]
      left
      have e := far_h0 (px := r) (py := t) (y := c) (x0 := u) (x1 := v) (by grind)
      exact inA _ (by rw [e]; grind)
    · by_cases y2 : w < b
      · rw [sg2 hb hc y2]
        left
        have e := far_h1 (px := r) (py := b) (y := w) (x0 := v) (x1 := u) (by grind)
        exact inA _ (by rw [e]; grind)
      · rw [sg3 y1 y2]
        by_cases z : t ≤ w
        · left
          have e := far_v (px := r) (py := t) (x := u) (y0 := w) (y1 := c) (by grind)
          exact inA _ (by rw [e]; grind)
        · right
          have e := far_v (px := u) (py := w) (x := r) (y0 := b) (y1 := t) (by grind)
          exact inB _ (by rw [e]; grind)
  · by_cases x2 : v < l
    · rw [sg2 hl hu x2]
      by_cases y1 : t < c
      · rw [sg1 hb hc y1]
        left
        have e := far_h1 (px := l) (py := t) (y := c) (x0 := u) (x1 := v) (by grind)
        exact inA _ (by rw [e]; grind)
      · by_cases y2 : w < b
        · rw [sg2 hb hc y2]
          left
          have e := far_h0 (px := l) (py := b) (y := w) (x0 := v) (x1 := u) (by grind)
          exact inA _ (by rw [e]; grind)
        · rw [sg3 y1 y2]
          by_cases z : t ≤ w
          · left
            have e := far_v (px := l) (py := t) (x := v) (y0 := c) (y1 := w) (by grind)
            exact inA _ (by rw [e]; grind)
          · right
            have e := far_v (px := v) (py := w) (x := l) (y0 := t) (y1 := b) (by grind)
            exact inB _ (by rw [e]; grind)
    · rw [sg3 x1 x2]
      by_cases y1 : t < c
      · rw [sg1 hb hc y1]
        by_cases z : r ≤ v
        · left
          have e := far_h (px := r) (py := t) (y := c) (x0 := u) (x1 := v) (by grind)
          exact inA _ (by rw [e]; grind)
        · right
          have e := far_h (px := v) (py := c) (y := t) (x0 := r) (x1 := l) (by grind)
          exact inB _ (by rw [e]; grind)
      · have y2 : w < b := by grind
        rw [sg2 hb hc y2]
        by_cases z : r ≤ v
        · left
          have e := far_h (px := r) (py := b) (y := w) (x0 := v) (x1 := u) (by grind)
          exact inA _ (by rw [e]; grind)
        · right
          have e := far_h (px := v) (py := w) (y := b) (x0 := l) (x1 := r) (by grind)
          exact inB _ (by rw [e]; grind)
section
variable {l b r t u c v w : Rat} {k : Nat} [BdQ l k] [BdQ b k] [BdQ r k] [BdQ t k] [BdQ u k] [BdQ c k] [BdQ v k] [BdQ w k] (hl : l < r) (hb : b < t) (hu : u < v) (hc : c < w) (hk : k ≤ 40)
include hl hb hu hc hk
theorem ev_gap (n : Nat) : evF pg (n + 9) i_gap [BC l b r t, BC u c v w] = .ok (QD (gp l b r t u c v w)) := by
  cases h : lin l b r t u c v w with
  | none =>
    obtain ⟨h0, h1, h2, h3⟩ := lin_none h
    rw [ev_gapN hl hb hu hc hk n h]
    unfold gp
    rw [sg3 h1 h3, sg3 h2 h0]
    have : (0 : Rat) * 0 + 0 * 0 = 0 := by grind
    rw [this]
  | some p =>
    obtain ⟨g, e, f⟩ := ev_gapS hl hb hu hc hk n h
    obtain ⟨m1, _, m2⟩ := mnF none g f.symm
    have hm := gp_mem hl hb hu hc (lin_some h)
    have h1 := m1 _ hm
    have h2 : gp l b r t u c v w ≤ g := by
      rcases m2 with m2 | m2
      · unfold vals8 at m2
        rcases List.mem_append.mp m2 with q | q
        · exact vals4_ge hl hb hu hc g q
        · rw [gp_comm]
          exact vals4_ge hu hc hl hb g q
      · cases m2
    have : g = gp l b r t u c v w := by grind
    rw [e, this]
end
end k21
set_option Elab.async false
set_option linter.all false
set_option maxRecDepth 100000
set_option maxHeartbeats 4000000
namespace k21
open PySem PySem.Spec PyProof.Rows L2 Fe
/-! ### what lies on the left side of an edge -/
theorem sgn_abs (x : Rat) : sgn x = 1 ∨ sgn x = 0 ∨ sgn x = -1 := by
  unfold sgn
  split
  · exact .inl rfl
  · split
    · exact .inr (.inr rfl)
    · exact .inr (.inl rfl)
instance sgn_bd (x : Rat) : Bd (sgn x) 1 := ⟨by rcases sgn_abs x with h | h | h <;> rw [h] <;> decide⟩
theorem sgn_opp {a h : Rat} (q : sgn a * sgn h < 0) : a - h ≠ 0 := by
  intro z
  have e : a = h := by grind
  subst e
  have h2 : 0 ≤ sgn a * sgn a := by rcases sgn_abs a with h | h | h <;> rw [h] <;> decide
  omega
abbrev Pt := Rat × Rat
abbrev PE' (p : Pt) : PD := PQ p.1 p.2
def crs (a h : Rat) (p q : Pt) : Pt := (p.1 + a / (a - h) * (q.1 - p.1), p.2 + a / (a - h) * (q.2 - p.2))
def stepK (f : Pt → Rat) (p q : Pt) : List Pt := (if sgn (f p) * sgn (f q) < 0 then [crs (f p) (f q) p q] else []) ++ (if 0 ≤ f q then [q] else [])
def keepGo (f : Pt → Rat) : Pt → List Pt → List Pt
  | _, [] => []
  | p, q :: r => stepK f p q ++ keepGo f q r
def lft (s g : Pt) (p : Pt) : Rat := ta s.1 s.2 g.1 g.2 p.1 p.2
def keepT (f : Pt → Rat) (ps : List Pt) : List Pt := match ps.getLast? with
  | none => []
  | some z => keepGo f z ps
theorem kstep (n : Nat) (C V s g : PD) (F : List PD) (i : Int) (a h : Rat) (p q : Pt) (x7 x8 x9 x10 x11 : Option PD) {K m : Nat} [BdQ a m] [BdQ h m] [BdQ p.1 K] [BdQ p.2 K] [BdQ q.1 K] [BdQ q.2 K] (hK : K ≤ 600) (hm : m ≤ 1500) (hF : F.length < 1000)
    (i1 : ixV V (.int (i - 1)) = .ok (QD a)) (i2 : ixV V (.int i) = .ok (QD h)) (i3 : ixV C (.int (i - 1)) = .ok (PE' p)) :
    ∃ x10', evSs (sgOf pg (n + 5)) l_kept_in_1 ([3], [some C, some s, some g, some (.list F), some V, some (PE' q), some (.int i), x7, x8, x9, x10, x11]) =
      .nx ([3], [some C, some s, some g, some (.list (F ++ ((if sgn a * sgn h < 0 then [PE' (crs a h p q)] else []) ++ (if 0 ≤ h then [PE' q] else [])))), some V, some (PE' q), some (.int i), some (QD a), some (QD h), some (PE' p), x10', x11]) := by
  unfold l_kept_in_1
  have s1 : evS (sgOf pg (n + 5)) (.unp (.tp [.nm 7, .nm 8, .nm 9]) (.tup (.cons (.ix (.var 4) (.bin .sub (.var 6) (.int 1))) (.cons (.ix (.var 4) (.var 6)) (.cons (.ix (.var 0) (.bin .sub (.var 6) (.int 1))) (.nil)))))) ([3], [some C, some s, some g, some (.list F), some V, some (PE' q), some (.int i), x7, x8, x9, x10, x11]) = .nx ([3], [some C, some s, some g, some (.list F), some V, some (PE' q), some (.int i), some (QD a), some (QD h), some (PE' p), x10, x11]) := by
    simp only [evS, evE, evEs, List.getElem?_cons_succ, List.getElem?_cons_zero, bok, sok, vsub, i1, i2, i3, tgTu, tgsC, tgNm, tgC1, tgsN, List.set_cons_succ, List.set_cons_zero]
    rfl
  have s3 : ∀ (L : List PD) (y10 : Option PD), L.length < 1010 → evSs (sgOf pg (n + 5)) (.cons (.ifs (.cmp .ge (.call i_sign (.cons (.var 8) (.nil))) (.int 0)) (.cons (.app 3 (.var 5)) (.nil)) (.nil)) (.nil)) ([3], [some C, some s, some g, some (.list L), some V, some (PE' q), some (.int i), some (QD a), some (QD h), some (PE' p), y10, x11]) = .nx ([3], [some C, some s, some g, some (.list (L ++ (if 0 ≤ h then [PE' q] else []))), some V, some (PE' q), some (.int i), some (QD a), some (QD h), some (PE' p), y10, x11]) := by
    intro L y10 hL
    by_cases c : 0 ≤ h
    · have c' := (sgn_ge h).mpr c
      rw [if_pos c]
      refine seq1 ?_ rfl
      rw [evS]
      have e : evE (sgOf pg (n + 5)) (.cmp .ge (.call i_sign (.cons (.var 8) (.nil))) (.int 0)) [some C, some s, some g, some (.list L), some V, some (PE' q), some (.int i), some (QD a), some (QD h), some (PE' p), y10, x11] = .ok (.bool true) := by
        simp! [ev_sign, c']
      rw [e, bok, bO, sok, if_pos rfl]
      exact seq1 (app_at (W := [3]) (x := PE' q) rfl rfl (by decide) rfl (by omega)) rfl
    · have c' : ¬ 0 ≤ sgn h := fun z => c ((sgn_ge h).mp z)
      rw [if_neg c, List.append_nil]
      refine seq1 ?_ rfl
      rw [evS]
      have e : evE (sgOf pg (n + 5)) (.cmp .ge (.call i_sign (.cons (.var 8) (.nil))) (.int 0)) [some C, some s, some g, some (.list L), some V, some (PE' q), some (.int i), some (QD a), some (QD h), some (PE' p), y10, x11] = .ok (.bool false) := by
        simp! [ev_sign, c']
      rw [e, bok, bO, sok, if_neg Bool.false_ne_true]
      rfl
  by_cases c : sgn a * sgn h < 0
  · rw [if_pos c]
    have nz := sgn_opp c
    refine ⟨some (QD (a / (a - h))), seq1 s1 (seq1 (s' := ([3], [some C, some s, some g, some (.list (F ++ [PE' (crs a h p q)])), some V, some (PE' q), some (.int i), some (QD a), some (QD h), some (PE' p), some (QD (a / (a - h))), x11])) ?_ ?_)⟩
    · rw [evS]
      have e : evE (sgOf pg (n + 5)) (.cmp .lt (.bin .mul (.call i_sign (.cons (.var 7) (.nil))) (.call i_sign (.cons (.var 8) (.nil)))) (.int 0)) [some C, some s, some g, some (.list F), some V, some (PE' q), some (.int i), some (QD a), some (QD h), some (PE' p), x10, x11] = .ok (.bool true) := by
        simp! [ev_sign, c]
      rw [e, bok, bO, sok, if_pos rfl]
      refine seq1 (s' := ([3], [some C, some s, some g, some (.list F), some V, some (PE' q), some (.int i), some (QD a), some (QD h), some (PE' p), some (QD (a / (a - h))), x11])) ?_ (seq1 (app_at (W := [3]) (x := PE' (crs a h p q)) ?_ rfl (by decide) rfl (by omega)) rfl)
      · simp! [ev_take, ev_over]
        rfl
      · simp! [ev_take, ev_times, ev_add]
        rfl
    · rw [← List.append_assoc]
      exact s3 _ _ (by simp; omega)
  · rw [if_neg c, List.nil_append]
    refine ⟨x10, seq1 s1 (seq1 (s' := ([3], [some C, some s, some g, some (.list F), some V, some (PE' q), some (.int i), some (QD a), some (QD h), some (PE' p), x10, x11])) ?_ (s3 _ _ (by omega)))⟩
    rw [evS]
    have e : evE (sgOf pg (n + 5)) (.cmp .lt (.bin .mul (.call i_sign (.cons (.var 7) (.nil))) (.call i_sign (.cons (.var 8) (.nil)))) (.int 0)) [some C, some s, some g, some (.list F), some V, some (PE' q), some (.int i), some (QD a), some (QD h), some (PE' p), x10, x11] = .ok (.bool false) := by
      simp! [ev_sign, c]
    rw [e, bok, bO, sok, if_neg Bool.false_ne_true]
    rfl
theorem at_next (L : List PD) (j : Nat) (d : PD) (h : L[j]? = some d) : ixV (.list L) (.int (j : Nat)) = .ok d := by
  have hj : j < L.length := by
    by_cases z : j < L.length
    · exact z
    · rw [List.getElem?_eq_none (by omega)] at h; cases h
  show (match atI L (j : Nat) with | some d => R.ok d | none => .bad) = _
  unfold atI ixN
  rw [if_pos (by omega), if_pos (by omega)]
  simp [h]
theorem at_last (L : List PD) (d : PD) (h : L.getLast? = some d) : ixV (.list L) (.int (-1)) = .ok d := by
  have hl : 0 < L.length := by
    cases L with
    | nil => cases h
    | cons a l => simp
  show (match atI L (-1) with | some d => R.ok d | none => .bad) = _
  unfold atI ixN
  rw [if_neg (by decide), if_pos (by omega)]
  rw [List.getLast?_eq_getElem?] at h
  have e : ((-1 : Int) + (L.length : Int)).toNat = L.length - 1 := by omega
  simp only [Option.bind_some]
  rw [e, h]
theorem prev_ix (L : List PD) (pre suf : List PD) (e : L = pre ++ suf) (d : PD) (h : pre.getLast? = some d ∨ pre = [] ∧ L.getLast? = some d) : ixV (.list L) (.int ((pre.length : Nat) - 1)) = .ok d := by
  rcases h with h | ⟨rfl, h⟩
  · have hp : 0 < pre.length := by
      cases pre with
      | nil => cases h
      | cons a l => simp
    have e2 : ((pre.length : Nat) : Int) - 1 = ((pre.length - 1 : Nat) : Int) := by omega
    rw [e2]
    refine at_next L _ d ?_
    rw [List.getLast?_eq_getElem?] at h
    rw [e, List.getElem?_append_left (by omega)]
    exact h
  · exact at_last L d h
structure BdL (ps : List Pt) (K : Nat) : Prop where
  b : ∀ p ∈ ps, BdQ p.1 K ∧ BdQ p.2 K
theorem kept_loop (n : Nat) (s g : PD) (f : Pt → Rat) {K m : Nat} (hK : K ≤ 600) (hm : m ≤ 1500) (hf : ∀ p : Pt, BdQ p.1 K → BdQ p.2 K → BdQ (f p) m) (ps : List Pt) (hb : BdL ps K) (hl : ps.length < 100) :
    ∀ (suf pre : List Pt) (p : Pt) (F : List PD) (x5 x6 x7 x8 x9 x10 x11 : Option PD), ps = pre ++ suf → (pre.getLast? = some p ∨ pre = [] ∧ ps.getLast? = some p) → F.length ≤ 2 * pre.length →
      ∃ y5 y6 y7 y8 y9 y10, forGo (.tp [.nm 6, .nm 5]) (evSs (sgOf pg (n + 5)) l_kept_in_1) (enumV pre.length (suf.map PE')) ([3], [some (.list (ps.map PE')), some s, some g, some (.list F), some (.list (ps.map fun p => QD (f p))), x5, x6, x7, x8, x9, x10, x11]) =
        .nx ([3], [some (.list (ps.map PE')), some s, some g, some (.list (F ++ (keepGo f p suf).map PE')), some (.list (ps.map fun p => QD (f p))), y5, y6, y7, y8, y9, y10, x11])
  | [], pre, p, F, x5, x6, x7, x8, x9, x10, x11, _, _, _ => ⟨x5, x6, x7, x8, x9, x10, by
      show SR.nx _ = _
      unfold keepGo
      simp⟩
  | q :: suf, pre, p, F, x5, x6, x7, x8, x9, x10, x11, e, hp, hF => by
    have hpm : p ∈ ps := by
      rcases hp with h | ⟨_, h⟩
      · rw [e]; exact List.mem_append_left _ (List.mem_of_getLast? h)
      · exact List.mem_of_getLast? h
    have hqm : q ∈ ps := by rw [e]; simp
    obtain ⟨p1, p2⟩ := hb.b p hpm
    obtain ⟨q1, q2⟩ := hb.b q hqm
    have fp := hf p p1 p2
    have fq := hf q q1 q2
    have hlen : pre.length + suf.length + 1 < 100 := by
      rw [e] at hl
      simp at hl
      omega
    have i1 : ixV (.list (ps.map fun p => QD (f p))) (.int ((pre.length : Nat) - 1)) = .ok (QD (f p)) := by
      have := prev_ix (ps.map fun p => QD (f p)) (pre.map fun p => QD (f p)) ((q :: suf).map fun p => QD (f p)) (by rw [e, List.map_append]) (QD (f p)) (by
        rcases hp with h | ⟨h1, h2⟩
        · left; rw [List.getLast?_map, h]; rfl
        · right; exact ⟨by rw [h1]; rfl, by rw [List.getLast?_map, h2]; rfl⟩)
      rw [List.length_map] at this
      exact this
    have i3 : ixV (.list (ps.map PE')) (.int ((pre.length : Nat) - 1)) = .ok (PE' p) := by
      have := prev_ix (ps.map PE') (pre.map PE') ((q :: suf).map PE') (by rw [e, List.map_append]) (PE' p) (by
        rcases hp with h | ⟨h1, h2⟩
        · left; rw [List.getLast?_map, h]; rfl
        · right; exact ⟨by rw [h1]; rfl, by rw [List.getLast?_map, h2]; rfl⟩)
      rw [List.length_map] at this
      exact this
    have i2 : ixV (.list (ps.map fun p => QD (f p))) (.int (pre.length : Nat)) = .ok (QD (f q)) := at_next _ _ _ (by rw [e]; simp)
    obtain ⟨z10, hs⟩ := kstep n (.list (ps.map PE')) (.list (ps.map fun p => QD (f p))) s g F (pre.length : Nat) (f p) (f q) p q x7 x8 x9 x10 x11 hK hm (by omega) i1 i2 i3
    have eF : F ++ ((if sgn (f p) * sgn (f q) < 0 then [PE' (crs (f p) (f q) p q)] else []) ++ (if 0 ≤ f q then [PE' q] else [])) = F ++ (stepK f p q).map PE' := by
      unfold stepK
      split <;> split <;> rfl
    rw [eF] at hs
    have hsl : (stepK f p q).length ≤ 2 := by
      unfold stepK
      split <;> split <;> simp
    obtain ⟨y5, y6, y7, y8, y9, y10, ih⟩ := kept_loop n s g f hK hm hf ps hb hl suf (pre ++ [q]) q (F ++ (stepK f p q).map PE') (some (PE' q)) (some (.int (pre.length : Nat))) (some (QD (f p))) (some (QD (f q))) (some (PE' p)) z10 x11 (by rw [e]; simp) (.inl (by simp)) (by simp; omega)
    rw [List.length_append, List.length_singleton] at ih
    refine ⟨y5, y6, y7, y8, y9, y10, ?_⟩
    rw [List.map_cons, enumV]
    refine for_t (ρ := [some (.list (ps.map PE')), some s, some g, some (.list F), some (.list (ps.map fun p => QD (f p))), some (PE' q), some (.int (pre.length : Nat)), x7, x8, x9, x10, x11]) ?_ hs ?_
    · simp only [tgTu, tgsC, tgNm, tgC1, tgsN, List.set_cons_succ, List.set_cons_zero]
    · rw [ih, keepGo, List.map_append, List.append_assoc]
theorem ev_kept (n : Nat) (sx sy gx gy : Rat) {k K : Nat} [BdQ sx k] [BdQ sy k] [BdQ gx k] [BdQ gy k] (ps : List Pt) (hb : BdL ps K) (hk : k ≤ 40) (hK : K ≤ 600) (hl : ps.length < 100) :
    evF pg (n + 6) i_kept_in [.list (ps.map PE'), PQ sx sy, PQ gx gy] = .ok (.list ((keepT (lft (sx, sy) (gx, gy)) ps).map PE')) := by
  rw [u_kept_in]
  unfold b_kept_in
  have hf : ∀ p : Pt, BdQ p.1 K → BdQ p.2 K → BdQ (lft (sx, sy) (gx, gy) p) (6 * k + 2 * K + 10) := by
    intro p h1 h2
    unfold lft ta
    exact (inferInstance : BdQ ((gx - sx) * (p.2 - sy) - (gy - sy) * (p.1 - sx)) _).up (by omega)
  have okl : okLen (ps.map PE').length = true := by
    rw [List.length_map]
    exact okLS _ (by omega)
  cases hz : ps.getLast? with
  | none =>
    have : ps = [] := by
      cases ps with
      | nil => rfl
      | cons a l => simp at hz
    subst this
    rfl
  | some z =>
    obtain ⟨y5, y6, y7, y8, y9, y10, q⟩ := kept_loop (n := n) (PQ sx sy) (PQ gx gy) (lft (sx, sy) (gx, gy)) hK (m := 6 * k + 2 * K + 10) (by omega) hf ps hb hl ps [] z [] none none none none none none none rfl (.inr ⟨rfl, hz⟩) (by simp)
    refine finR (seq1 (s' := ([3], [some (.list (ps.map PE')), some (PQ sx sy), some (PQ gx gy), some (.list []), none, none, none, none, none, none, none, none])) rfl (seq1 (s' := ([3], [some (.list (ps.map PE')), some (PQ sx sy), some (PQ gx gy), some (.list []), some (.list (ps.map fun p => QD (lft (sx, sy) (gx, gy) p))), none, none, none, none, none, none, none])) ?_ (seq1 (evFor (items := enumV 0 (ps.map PE')) rfl rfl q) (seqR ?_))))
    · rw [evS, evE]
      have it : evIt (sgOf pg (n + 5)) (.e (.var 0)) [some (.list (ps.map PE')), some (PQ sx sy), some (PQ gx gy), some (.list []), none, none, none, none, none, none, none, none] = .ok (ps.map PE') := rfl
      rw [it, bok, compGo_map2 (g := fun p => QD (lft (sx, sy) (gx, gy) p)) ps ?_, bok, okl]
      · rfl
      · intro p hp
        obtain ⟨h1, h2⟩ := hb.b p hp
        simp! [ev_ta]
        rfl
    · unfold keepT
      rw [hz]
      rfl
end k21
set_option Elab.async false
set_option linter.all false
set_option maxRecDepth 100000
set_option maxHeartbeats 4000000
namespace k21
open PySem PySem.Spec PyProof.Rows L2 Fe
/-! ### what a clip keeps -/
theorem keep_mem {f : Pt → Rat} {q : Pt} (h : 0 ≤ f q) : ∀ (suf : List Pt) (p : Pt), q ∈ suf → q ∈ keepGo f p suf
  | [], _, m => (nomatch m)
  | x :: suf, p, m => by
    rw [keepGo]
    rcases List.mem_cons.mp m with rfl | m
    · refine List.mem_append_left _ ?_
      unfold stepK
      rw [if_pos h]
      exact List.mem_append_right _ (List.mem_cons_self ..)
    · exact List.mem_append_right _ (keep_mem h suf x m)
theorem keep_nil {f : Pt → Rat} : ∀ (suf : List Pt) (p : Pt), f p < 0 → (∀ q ∈ suf, f q < 0) → keepGo f p suf = []
  | [], _, _, _ => rfl
  | x :: suf, p, hp, h => by
    have hx := h x (List.mem_cons_self ..)
    rw [keepGo, keep_nil suf x hx fun q hq => h q (List.mem_cons_of_mem _ hq)]
    unfold stepK
    rw [sgn_neg hp, sgn_neg hx, if_neg (by decide), if_neg (by grind)]
    rfl
theorem keep_all {f : Pt → Rat} {P : Pt → Prop} (hc : ∀ p q, P p → P q → sgn (f p) * sgn (f q) < 0 → P (crs (f p) (f q) p q)) : ∀ (suf : List Pt) (p : Pt), P p → (∀ q ∈ suf, P q) → ∀ q ∈ keepGo f p suf, P q
  | [], _, _, _, q, h => (nomatch h)
  | x :: suf, p, hp, h, q, hq => by
    have hx := h x (List.mem_cons_self ..)
    rw [keepGo] at hq
    rcases List.mem_append.mp hq with hq | hq
    · unfold stepK at hq
      rcases List.mem_append.mp hq with hq | hq
      · split at hq
        · rename_i c
          have : q = crs (f p) (f x) p x := by simpa using hq
          rw [this]
          exact hc p x hp hx c
        · cases hq
      · split at hq
        · have : q = x := by simpa using hq
          rw [this]
          exact hx
        · cases hq
    · exact keep_all hc suf x hx (fun q hq => h q (List.mem_cons_of_mem _ hq)) q hq
theorem keep_len {f : Pt → Rat} : ∀ (suf : List Pt) (p : Pt), (keepGo f p suf).length ≤ 2 * suf.length
  | [], _ => Nat.le_refl _
  | x :: suf, p => by
    have ih := keep_len (f := f) suf x
    have : (stepK f p x).length ≤ 2 := by
      unfold stepK
      split <;> split <;> simp
    rw [keepGo, List.length_append, List.length_cons]
    omega
theorem crs_part {a h : Rat} (c : sgn a * sgn h < 0) : 0 ≤ a / (a - h) ∧ a / (a - h) ≤ 1 := by
  have nz := sgn_opp c
  have cases_ : (0 < a ∧ h < 0) ∨ (a < 0 ∧ 0 < h) := by
    rcases sgn_abs a with ha | ha | ha <;> rcases sgn_abs h with hh | hh | hh <;> rw [ha, hh] at c <;> first | (exact absurd c (by decide)) | skip
    · left
      exact ⟨(sgn_gt a).mp (by rw [ha]; decide), (sgn_lt h).mp (by rw [hh]; decide)⟩
    · right
      exact ⟨(sgn_lt a).mp (by rw [ha]; decide), (sgn_gt h).mp (by rw [hh]; decide)⟩
  rcases cases_ with ⟨h1, h2⟩ | ⟨h1, h2⟩
  · refine ⟨div_nn (by grind) (by grind), ?_⟩
    have : 0 ≤ (-h) / (a - h) := div_nn (by grind) (by grind)
    have e : 1 - a / (a - h) = (-h) / (a - h) := by grind
    grind
  · have e0 : a / (a - h) = (-a) / (h - a) := by
      have : h - a ≠ 0 := by grind
      grind
    rw [e0]
    refine ⟨div_nn (by grind) (by grind), ?_⟩
    have : 0 ≤ h / (h - a) := div_nn (by grind) (by grind)
    have e : 1 - (-a) / (h - a) = h / (h - a) := by
      have : h - a ≠ 0 := by grind
      grind
    grind
/-- m stands in the list, and nothing is less in x or y -/
structure WI (ps : List Pt) (m : Pt) (K : Nat) : Prop where
  mem : m ∈ ps
  ge : ∀ p ∈ ps, m.1 ≤ p.1 ∧ m.2 ≤ p.2
  bd : BdL ps K
theorem lo_of {x m p q : Rat} (c0 : 0 ≤ x) (c1 : x ≤ 1) (hp : m ≤ p) (hq : m ≤ q) : m ≤ p + x * (q - p) := by
  have a1 : 0 ≤ x * (q - m) := Rat.mul_nonneg c0 (by grind)
  have a2 : 0 ≤ (1 - x) * (p - m) := Rat.mul_nonneg (by grind) (by grind)
  grind
theorem wi_keep {f : Pt → Rat} {ps : List Pt} {m : Pt} {K M : Nat} (h : WI ps m K) (hf : ∀ p : Pt, BdQ p.1 K → BdQ p.2 K → BdQ (f p) M) (h0 : 0 ≤ f m) : WI (keepT f ps) m (3 * M + 3 * K + 4) := by
  unfold keepT
  cases hz : ps.getLast? with
  | none =>
    have := h.mem
    cases ps with
    | nil => cases this
    | cons a l => simp at hz
  | some z =>
    have hzm : z ∈ ps := List.mem_of_getLast? hz
    dsimp only
    refine ⟨keep_mem h0 ps z h.mem, ?_, ⟨?_⟩⟩
    · refine keep_all (P := fun p => m.1 ≤ p.1 ∧ m.2 ≤ p.2) (fun p q hp hq c => ?_) ps z (h.ge z hzm) h.ge
      obtain ⟨c0, c1⟩ := crs_part c
      exact ⟨lo_of c0 c1 hp.1 hq.1, lo_of c0 c1 hp.2 hq.2⟩
    · have key : ∀ q ∈ keepGo f z ps, (BdQ q.1 K ∧ BdQ q.2 K) ∨ ∃ p x : Pt, (BdQ p.1 K ∧ BdQ p.2 K) ∧ (BdQ x.1 K ∧ BdQ x.2 K) ∧ q = crs (f p) (f x) p x := by
        have gen : ∀ (suf : List Pt) (p : Pt), (BdQ p.1 K ∧ BdQ p.2 K) → (∀ q ∈ suf, BdQ q.1 K ∧ BdQ q.2 K) → ∀ q ∈ keepGo f p suf, (BdQ q.1 K ∧ BdQ q.2 K) ∨ ∃ p x : Pt, (BdQ p.1 K ∧ BdQ p.2 K) ∧ (BdQ x.1 K ∧ BdQ x.2 K) ∧ q = crs (f p) (f x) p x := by
          intro suf
          induction suf with
          | nil => intro p _ _ q hq; cases hq
          | cons x suf ih =>
            intro p hp hs q hq
            have hx := hs x (List.mem_cons_self ..)
            rw [keepGo] at hq
            rcases List.mem_append.mp hq with hq | hq
            · unfold stepK at hq
              rcases List.mem_append.mp hq with hq | hq
              · split at hq
                · right
                  exact ⟨p, x, hp, hx, by simpa using hq⟩
                · cases hq
              · split at hq
                · left
                  have : q = x := by simpa using hq
                  rw [this]; exact hx
                · cases hq
            · exact ih x hx (fun q hq => hs q (List.mem_cons_of_mem _ hq)) q hq
        exact gen ps z (h.bd.b z hzm) h.bd.b
      intro q hq
      rcases key q hq with ⟨k1, k2⟩ | ⟨p, x, ⟨p1, p2⟩, ⟨x1, x2⟩, rfl⟩
      · exact ⟨k1.up (by omega), k2.up (by omega)⟩
      · have fp := hf p p1 p2
        have fx := hf x x1 x2
        unfold crs
        exact ⟨(inferInstance : BdQ (p.1 + f p / (f p - f x) * (x.1 - p.1)) _).up (by omega), (inferInstance : BdQ (p.2 + f p / (f p - f x) * (x.2 - p.2)) _).up (by omega)⟩
theorem nil_keep {f : Pt → Rat} {ps : List Pt} (h : ∀ p ∈ ps, f p < 0) : keepT f ps = [] := by
  unfold keepT
  cases hz : ps.getLast? with
  | none => rfl
  | some z => exact keep_nil ps z (h z (List.mem_of_getLast? hz)) h
theorem keepT_len (f : Pt → Rat) (ps : List Pt) : (keepT f ps).length ≤ 2 * ps.length := by
  unfold keepT
  cases hz : ps.getLast? with
  | none => simp
  | some z => exact keep_len ps z
/-! ### the four sides of a box -/
theorem lf0 {u c w : Rat} (p : Pt) : lft (u, w) (u, c) p = (w - c) * (p.1 - u) := by unfold lft ta; grind
theorem lf1 {u c v : Rat} (p : Pt) : lft (u, c) (v, c) p = (v - u) * (p.2 - c) := by unfold lft ta; grind
theorem lf2 {c v w : Rat} (p : Pt) : lft (v, c) (v, w) p = (w - c) * (v - p.1) := by unfold lft ta; grind
theorem lf3 {u v w : Rat} (p : Pt) : lft (v, w) (u, w) p = (v - u) * (w - p.2) := by unfold lft ta; grind
theorem mul_nn {a x : Rat} (h : 0 < a) : 0 ≤ a * x ↔ 0 ≤ x := by
  have := sgn_mulp (c := a) (x := x) h
  rw [← sgn_ge, this, sgn_ge]
theorem mul_ng {a x : Rat} (h : 0 < a) : a * x < 0 ↔ x < 0 := by
  have := sgn_mulp (c := a) (x := x) h
  rw [← sgn_lt, this, sgn_lt]
theorem crs_mul {a x y : Rat} (h : 0 < a) (p q : Pt) (hne : x - y ≠ 0) : crs (a * x) (a * y) p q = crs x y p q := by
  unfold crs
  have e : a * x / (a * x - a * y) = x / (x - y) := by
    have : a ≠ 0 := by grind
    have : a * x - a * y ≠ 0 := by
      intro z
      have : a * (x - y) = 0 := by grind
      rcases Rat.mul_eq_zero.mp this with h1 | h1 <;> grind
    grind
  rw [e]
/-- a step told by what the side's value is a multiple of -/
theorem step_mul {f g : Pt → Rat} {a : Rat} (h : 0 < a) (e : ∀ p, f p = a * g p) (p q : Pt) : stepK f p q = stepK g p q := by
  unfold stepK
  rw [e, e, sgn_mulp h, sgn_mulp h]
  congr 1
  · split
    · rename_i c
      rw [crs_mul h p q (sgn_opp c)]
    · rfl
  · simp only [mul_nn h]
theorem keepGo_mul {f g : Pt → Rat} {a : Rat} (h : 0 < a) (e : ∀ p, f p = a * g p) : ∀ (suf : List Pt) (p : Pt), keepGo f p suf = keepGo g p suf
  | [], _ => rfl
  | x :: suf, p => by rw [keepGo, keepGo, step_mul h e, keepGo_mul h e suf x]
theorem keepT_mul {f g : Pt → Rat} {a : Rat} (h : 0 < a) (e : ∀ p, f p = a * g p) (ps : List Pt) : keepT f ps = keepT g ps := by
  unfold keepT
  cases ps.getLast? with
  | none => rfl
  | some z => exact keepGo_mul h e ps z
theorem pt_ext {p q : Pt} (h1 : p.1 = q.1) (h2 : p.2 = q.2) : p = q := Prod.ext h1 h2
/-- steps by signs -/
theorem st_pp {g : Pt → Rat} {p q : Pt} (h1 : 0 ≤ g p) (h2 : 0 ≤ g q) : stepK g p q = [q] := by
  unfold stepK
  have a := (sgn_ge _).mpr h1
  have b := (sgn_ge _).mpr h2
  have : 0 ≤ sgn (g p) * sgn (g q) := Int.mul_nonneg a b
  rw [if_neg (by omega), if_pos h2]
  rfl
theorem st_nn {g : Pt → Rat} {p q : Pt} (h1 : g p < 0) (h2 : g q < 0) : stepK g p q = [] := by
  unfold stepK
  rw [sgn_neg h1, sgn_neg h2, if_neg (by decide), if_neg (by grind)]
  rfl
theorem st_np {g : Pt → Rat} {p q : Pt} (h1 : g p < 0) (h2 : 0 < g q) : stepK g p q = [crs (g p) (g q) p q, q] := by
  unfold stepK
  rw [sgn_neg h1, sgn_pos h2, if_pos (by decide), if_pos (by grind)]
  rfl
theorem st_pn {g : Pt → Rat} {p q : Pt} (h1 : 0 < g p) (h2 : g q < 0) : stepK g p q = [crs (g p) (g q) p q] := by
  unfold stepK
  rw [sgn_pos h1, sgn_neg h2, if_pos (by decide), if_neg (by grind)]
  rfl
theorem st_n0 {g : Pt → Rat} {p q : Pt} (h1 : g p < 0) (h2 : g q = 0) : stepK g p q = [q] := by
  unfold stepK
  rw [h2, sgn_zero, if_neg (by omega), if_pos (by decide)]
  rfl
theorem st_0n {g : Pt → Rat} {p q : Pt} (h1 : g p = 0) (h2 : g q < 0) : stepK g p q = [] := by
  unfold stepK
  rw [h1, sgn_zero, if_neg (by omega), if_neg (by grind)]
  rfl
abbrev BP (l b r t : Rat) : List Pt := [(l, b), (r, b), (r, t), (l, t)]
theorem k4 (g : Pt → Rat) (a b c d : Pt) : keepT g [a, b, c, d] = stepK g d a ++ (stepK g a b ++ (stepK g b c ++ (stepK g c d ++ []))) := rfl
theorem k2 (g : Pt → Rat) (a b : Pt) : keepT g [a, b] = stepK g b a ++ (stepK g a b ++ []) := rfl
theorem k0 (g : Pt → Rat) : keepT g [] = [] := rfl
/-- the first clip: x from u on -/
theorem clip_x {l b r t u : Rat} (hl : l < r) : (u < r → keepT (fun p => p.1 - u) (BP l b r t) = BP (mx l u) b r t) ∧ (u = r → keepT (fun p => p.1 - u) (BP l b r t) = [(r, b), (r, t)]) ∧ (r < u → keepT (fun p => p.1 - u) (BP l b r t) = []) := by
  refine ⟨fun h => ?_, fun h => ?_, fun h => ?_⟩
  · by_cases c : l < u
    · have e : mx l u = u := if_pos c
      rw [e, k4, st_nn (by dsimp only; grind) (by dsimp only; grind), st_np (by dsimp only; grind) (by dsimp only; grind), st_pp (by dsimp only; grind) (by dsimp only; grind), st_pn (by dsimp only; grind) (by dsimp only; grind)]
      have n1 : (l - u) - (r - u) ≠ 0 := by grind
      have n2 : (r - u) - (l - u) ≠ 0 := by grind
      have c1 : crs (l - u) (r - u) (l, b) (r, b) = (u, b) := by unfold crs; exact pt_ext (by dsimp only; grind) (by dsimp only; grind)
      have c2 : crs (r - u) (l - u) (r, t) (l, t) = (u, t) := by unfold crs; exact pt_ext (by dsimp only; grind) (by dsimp only; grind)
      dsimp only
      rw [c1, c2]
      rfl
    · have e : mx l u = l := if_neg c
      rw [e, k4, st_pp (by dsimp only; grind) (by dsimp only; grind), st_pp (by dsimp only; grind) (by dsimp only; grind), st_pp (by dsimp only; grind) (by dsimp only; grind), st_pp (by dsimp only; grind) (by dsimp only; grind)]
      rfl
  · rw [k4, st_nn (by dsimp only; grind) (by dsimp only; grind), st_n0 (by dsimp only; grind) (by dsimp only; grind), st_pp (by dsimp only; grind) (by dsimp only; grind), st_0n (by dsimp only; grind) (by dsimp only; grind)]
    rfl
  · refine nil_keep fun p hp => ?_
    simp only [List.mem_cons, List.not_mem_nil, or_false] at hp
    rcases hp with rfl | rfl | rfl | rfl <;> dsimp only <;> grind
/-- the second one, of a box: y from c on -/
theorem clip_y {l b r t c : Rat} (hb : b < t) : (c < t → keepT (fun p => p.2 - c) (BP l b r t) = BP l (mx b c) r t) ∧ (c = t → keepT (fun p => p.2 - c) (BP l b r t) = [(r, t), (l, t)]) ∧ (t < c → keepT (fun p => p.2 - c) (BP l b r t) = []) := by
  refine ⟨fun h => ?_, fun h => ?_, fun h => ?_⟩
  · by_cases d : b < c
    · have e : mx b c = c := if_pos d
      rw [e, k4, st_pn (by dsimp only; grind) (by dsimp only; grind), st_nn (by dsimp only; grind) (by dsimp only; grind), st_np (by dsimp only; grind) (by dsimp only; grind), st_pp (by dsimp only; grind) (by dsimp only; grind)]
      have n1 : (t - c) - (b - c) ≠ 0 := by grind
      have n2 : (b - c) - (t - c) ≠ 0 := by grind
      have c1 : crs (t - c) (b - c) (l, t) (l, b) = (l, c) := by unfold crs; exact pt_ext (by dsimp only; grind) (by dsimp only; grind)
      have c2 : crs (b - c) (t - c) (r, b) (r, t) = (r, c) := by unfold crs; exact pt_ext (by dsimp only; grind) (by dsimp only; grind)
      dsimp only
      rw [c1, c2]
      rfl
    · have e : mx b c = b := if_neg d
      rw [e, k4, st_pp (by dsimp only; grind) (by dsimp only; grind), st_pp (by dsimp only; grind) (by dsimp only; grind), st_pp (by dsimp only; grind) (by dsimp only; grind), st_pp (by dsimp only; grind) (by dsimp only; grind)]
      rfl
  · rw [k4, st_0n (by dsimp only; grind) (by dsimp only; grind), st_nn (by dsimp only; grind) (by dsimp only; grind), st_n0 (by dsimp only; grind) (by dsimp only; grind), st_pp (by dsimp only; grind) (by dsimp only; grind)]
    rfl
  · refine nil_keep fun p hp => ?_
    simp only [List.mem_cons, List.not_mem_nil, or_false] at hp
    rcases hp with rfl | rfl | rfl | rfl <;> dsimp only <;> grind
/-- .. of an upright edge -/
theorem clip_e {b r t c : Rat} (hb : b < t) : (c < t → keepT (fun p => p.2 - c) [(r, b), (r, t)] = [(r, b), (r, t)] ∧ mx b c = b ∨ keepT (fun p => p.2 - c) [(r, b), (r, t)] = [(r, c), (r, c), (r, t)] ∧ mx b c = c) ∧ (c = t → keepT (fun p => p.2 - c) [(r, b), (r, t)] = [(r, t)]) ∧ (t < c → keepT (fun p => p.2 - c) [(r, b), (r, t)] = []) := by
  refine ⟨fun h => ?_, fun h => ?_, fun h => ?_⟩
  · by_cases d : b < c
    · right
      refine ⟨?_, if_pos d⟩
      rw [k2, st_pn (by dsimp only; grind) (by dsimp only; grind), st_np (by dsimp only; grind) (by dsimp only; grind)]
      have n1 : (t - c) - (b - c) ≠ 0 := by grind
      have n2 : (b - c) - (t - c) ≠ 0 := by grind
      have c1 : crs (t - c) (b - c) (r, t) (r, b) = (r, c) := by unfold crs; exact pt_ext (by dsimp only; grind) (by dsimp only; grind)
      have c2 : crs (b - c) (t - c) (r, b) (r, t) = (r, c) := by unfold crs; exact pt_ext (by dsimp only; grind) (by dsimp only; grind)
      dsimp only
      rw [c1, c2]
      rfl
    · left
      refine ⟨?_, if_neg d⟩
      rw [k2, st_pp (by dsimp only; grind) (by dsimp only; grind), st_pp (by dsimp only; grind) (by dsimp only; grind)]
      rfl
  · rw [k2, st_0n (by dsimp only; grind) (by dsimp only; grind), st_n0 (by dsimp only; grind) (by dsimp only; grind)]
    rfl
  · refine nil_keep fun p hp => ?_
    simp only [List.mem_cons, List.not_mem_nil, or_false] at hp
    rcases hp with rfl | rfl <;> dsimp only <;> grind
theorem two_clips {l b r t u c : Rat} {k : Nat} [BdQ l k] [BdQ b k] [BdQ r k] [BdQ t k] [BdQ u k] [BdQ c k] (hl : l < r) (hb : b < t) :
    (u ≤ r ∧ c ≤ t ∧ WI (keepT (fun p => p.2 - c) (keepT (fun p => p.1 - u) (BP l b r t))) (mx l u, mx b c) k) ∨ ((r < u ∨ t < c) ∧ keepT (fun p => p.2 - c) (keepT (fun p => p.1 - u) (BP l b r t)) = []) := by
  obtain ⟨x1, x2, x3⟩ := clip_x (b := b) (t := t) (u := u) hl
  have wi : ∀ (ps : List Pt) (m : Pt), m ∈ ps → (∀ p ∈ ps, m.1 ≤ p.1 ∧ m.2 ≤ p.2) → (∀ p ∈ ps, BdQ p.1 k ∧ BdQ p.2 k) → WI ps m k := fun ps m h1 h2 h3 => ⟨h1, h2, ⟨h3⟩⟩
  have B1 : BdQ (mx l u) k := inferInstance
  have B2 : BdQ (mx b c) k := inferInstance
  by_cases cx : u < r
  · rw [x1 cx]
    have hm : mx l u < r := by unfold mx; grind
    obtain ⟨y1, y2, y3⟩ := clip_y (l := mx l u) (r := r) (c := c) hb
    by_cases cy : c < t
    · left
      refine ⟨by grind, by grind, ?_⟩
      have hn : mx b c < t := by unfold mx; grind
      rw [y1 cy]
      refine wi _ _ (by simp) ?_ ?_
      · intro p hp
        simp only [List.mem_cons, List.not_mem_nil, or_false] at hp
        rcases hp with rfl | rfl | rfl | rfl <;> dsimp only <;> constructor <;> grind
      · intro p hp
        simp only [List.mem_cons, List.not_mem_nil, or_false] at hp
        rcases hp with rfl | rfl | rfl | rfl <;> constructor <;> assumption
    · by_cases cy2 : c = t
      · left
        refine ⟨by grind, by grind, ?_⟩
        have hn : mx b c = t := by unfold mx; grind
        rw [y2 cy2, hn]
        refine wi _ _ (by simp) ?_ ?_
        · intro p hp
          simp only [List.mem_cons, List.not_mem_nil, or_false] at hp
          rcases hp with rfl | rfl <;> dsimp only <;> constructor <;> grind
        · intro p hp
          simp only [List.mem_cons, List.not_mem_nil, or_false] at hp
          rcases hp with rfl | rfl <;> constructor <;> assumption
      · right
        have : t < c := by grind
        exact ⟨.inr this, y3 this⟩
  · by_cases cx2 : u = r
    · rw [x2 cx2]
      have hm : mx l u = r := by unfold mx; grind
      rw [hm]
      obtain ⟨y1, y2, y3⟩ := clip_e (r := r) (c := c) hb
      by_cases cy : c < t
      · left
        refine ⟨by grind, by grind, ?_⟩
        rcases y1 cy with ⟨y, z⟩ | ⟨y, z⟩
        · rw [y, z]
          refine wi _ _ (by simp) ?_ ?_
          · intro p hp
            simp only [List.mem_cons, List.not_mem_nil, or_false] at hp
            rcases hp with rfl | rfl <;> dsimp only <;> constructor <;> grind
          · intro p hp
            simp only [List.mem_cons, List.not_mem_nil, or_false] at hp
            rcases hp with rfl | rfl <;> constructor <;> assumption
        · rw [y, z]
          refine wi _ _ (by simp) ?_ ?_
          · intro p hp
            simp only [List.mem_cons, List.not_mem_nil, or_false] at hp
            rcases hp with rfl | rfl | rfl <;> dsimp only <;> constructor <;> grind
          · intro p hp
            simp only [List.mem_cons, List.not_mem_nil, or_false] at hp
            rcases hp with rfl | rfl | rfl <;> constructor <;> assumption
      · by_cases cy2 : c = t
        · left
          refine ⟨by grind, by grind, ?_⟩
          have hn : mx b c = t := by unfold mx; grind
          rw [y2 cy2, hn]
          refine wi _ _ (by simp) ?_ ?_
          · intro p hp
            simp only [List.mem_cons, List.not_mem_nil, or_false] at hp
            subst hp
            dsimp only
            constructor <;> grind
          · intro p hp
            simp only [List.mem_cons, List.not_mem_nil, or_false] at hp
            subst hp
            constructor <;> assumption
        · right
          have : t < c := by grind
          exact ⟨.inr this, y3 this⟩
    · right
      have : r < u := by grind
      rw [x3 this]
      exact ⟨.inl this, rfl⟩
end k21
set_option Elab.async false
set_option linter.all false
set_option maxRecDepth 100000
set_option maxHeartbeats 4000000
namespace k21
open PySem PySem.Spec PyProof.Rows L2 Fe
/-! ### the meeting -/
theorem cut1 (a : PD) (L : List PD) : Fe.cutD (a :: L) (some 1) none = L := by
  unfold Fe.cutD HT.sIx
  simp only [List.length_cons]
  have e : (max 0 (min (1 : Int) ((L.length + 1 : Nat) : Int))).toNat = 1 := by omega
  simp
def minGo : Pt → List Pt → Pt
  | f, [] => f
  | f, p :: r => minGo (if bef p.1 p.2 f.1 f.2 = true then p else f) r
theorem bef_ge {p m : Pt} (h1 : m.1 ≤ p.1) (h2 : m.2 ≤ p.2) : bef p.1 p.2 m.1 m.2 = false := by
  unfold bef
  have a : ¬ p.1 < m.1 := by grind
  have b : ¬ p.2 < m.2 := by grind
  simp [a, b]
theorem bef_lt {f m : Pt} (h1 : m.1 ≤ f.1) (h2 : m.2 ≤ f.2) (h : f ≠ m) : bef m.1 m.2 f.1 f.2 = true := by
  unfold bef
  by_cases c : m.1 < f.1
  · simp [c]
  · have e : m.1 = f.1 := by grind
    have d : m.2 < f.2 := by
      by_cases d : m.2 < f.2
      · exact d
      · exact absurd (pt_ext e.symm (by grind)) h
    simp [e, d]
theorem minGo_m {m : Pt} : ∀ (suf : List Pt) (f : Pt), (f = m ∨ m ∈ suf) → (m.1 ≤ f.1 ∧ m.2 ≤ f.2) → (∀ p ∈ suf, m.1 ≤ p.1 ∧ m.2 ≤ p.2) → minGo f suf = m
  | [], f, h, _, _ => by
    rcases h with h | h
    · exact h
    · cases h
  | p :: r, f, h, hf, hs => by
    have hp := hs p (List.mem_cons_self ..)
    have hr := fun q hq => hs q (List.mem_cons_of_mem _ hq)
    rw [minGo]
    by_cases e : f = m
    · rw [e, bef_ge hp.1 hp.2]
      exact minGo_m r m (.inl rfl) ⟨Rat.le_refl, Rat.le_refl⟩ hr
    · by_cases e2 : p = m
      · rw [e2, bef_lt hf.1 hf.2 e]
        exact minGo_m r m (.inl rfl) ⟨Rat.le_refl, Rat.le_refl⟩ hr
      · have hm : m ∈ r := by
          rcases h with h | h
          · exact absurd h e
          · rcases List.mem_cons.mp h with h | h
            · exact absurd h.symm e2
            · exact h
        refine minGo_m r _ (.inr hm) ?_ hr
        split
        · exact hp
        · exact hf
theorem meet_loop (n : Nat) (A B L x3 : Option PD) {K : Nat} (hK : K ≤ 50000) : ∀ (suf : List Pt) (f : Pt) (y5 : Option PD), BdL suf K → (BdQ f.1 K ∧ BdQ f.2 K) →
    ∃ y5', forGo (.nm 5) (evSs (sgOf pg (n + 5)) l_meeting_1) (suf.map PE') ([], [A, B, L, x3, some (PE' f), y5]) = .nx ([], [A, B, L, x3, some (PE' (minGo f suf)), y5'])
  | [], f, y5, _, _ => ⟨y5, rfl⟩
  | p :: r, f, y5, hb, ⟨f1, f2⟩ => by
    obtain ⟨p1, p2⟩ := hb.b p (List.mem_cons_self ..)
    have hr : BdL r K := ⟨fun q hq => hb.b q (List.mem_cons_of_mem _ hq)⟩
    rw [List.map_cons, minGo]
    by_cases c : bef p.1 p.2 f.1 f.2 = true
    · rw [if_pos c]
      obtain ⟨y, ih⟩ := meet_loop n A B L x3 hK r p (some (PE' p)) hr ⟨p1, p2⟩
      refine ⟨y, for_nm (s' := ([], [A, B, L, x3, some (PE' p), some (PE' p)])) ?_ ih⟩
      unfold l_meeting_1
      simp! [ev_bef, c]
    · rw [if_neg c]
      obtain ⟨y, ih⟩ := meet_loop n A B L x3 hK r f (some (PE' p)) hr ⟨f1, f2⟩
      refine ⟨y, for_nm (s' := ([], [A, B, L, x3, some (PE' f), some (PE' p)])) ?_ ih⟩
      have c' : bef p.1 p.2 f.1 f.2 = false := by simpa using c
      unfold l_meeting_1
      simp! [ev_bef, c']
section
variable {l b r t u c v w : Rat} {k : Nat} [BdQ l k] [BdQ b k] [BdQ r k] [BdQ t k] [BdQ u k] [BdQ c k] [BdQ v k] [BdQ w k] (hl : l < r) (hb : b < t) (hu : u < v) (hc : c < w) (hk : k ≤ 20)
include hl hb in
omit [BdQ c k] [BdQ v k] [BdQ w k] in
theorem clip1_bd : BdL (keepT (fun p => p.1 - u) (BP l b r t)) k := by
  obtain ⟨x1, x2, x3⟩ := clip_x (b := b) (t := t) (u := u) hl
  have B1 : BdQ (mx l u) k := inferInstance
  by_cases cx : u < r
  · rw [x1 cx]
    refine ⟨fun p hp => ?_⟩
    simp only [List.mem_cons, List.not_mem_nil, or_false] at hp
    rcases hp with rfl | rfl | rfl | rfl <;> constructor <;> assumption
  · by_cases cx2 : u = r
    · rw [x2 cx2]
      refine ⟨fun p hp => ?_⟩
      simp only [List.mem_cons, List.not_mem_nil, or_false] at hp
      rcases hp with rfl | rfl <;> constructor <;> assumption
    · rw [x3 (by grind)]
      exact ⟨fun p hp => nomatch hp⟩
/-- do two boxes touch -/
def tch (l b r t u c v w : Rat) : Prop := u ≤ r ∧ l ≤ v ∧ c ≤ t ∧ b ≤ w
include hl hb hu hc hk
theorem ev_meeting (n : Nat) : ∃ o : Option Pt, evF pg (n + 8) i_meeting [BC l b r t, BC u c v w] = .ok (match o with | some p => PE' p | none => .none) ∧ (tch l b r t u c v w → o = some (mx l u, mx b c)) ∧ (¬ tch l b r t u c v w → o = none) := by
  rw [u_meeting]
  unfold b_meeting
  have hk' : k ≤ 150 := by omega
  have hwc : 0 < w - c := by grind
  have hvu : 0 < v - u := by grind
  let P1 := keepT (fun p : Pt => p.1 - u) (BP l b r t)
  let P2 := keepT (fun p : Pt => p.2 - c) P1
  let P3 := keepT (fun p : Pt => v - p.1) P2
  let P4 := keepT (fun p : Pt => w - p.2) P3
  have b0 : BdL (BP l b r t) k := ⟨fun p hp => by
    simp only [List.mem_cons, List.not_mem_nil, or_false] at hp
    rcases hp with rfl | rfl | rfl | rfl <;> constructor <;> assumption⟩
  have b1 : BdL P1 k := clip1_bd hl hb
  have tc := two_clips (k := k) (u := u) (c := c) hl hb
  have l1 : P1.length ≤ 8 := keepT_len _ _
  have l2 : P2.length ≤ 16 := Nat.le_trans (keepT_len _ _) (by omega)
  have l3 : P3.length ≤ 32 := Nat.le_trans (keepT_len _ _) (by omega)
  have l4 : P4.length ≤ 64 := Nat.le_trans (keepT_len _ _) (by omega)
  have b2 : BdL P2 k := by
    rcases tc with ⟨_, _, h⟩ | ⟨_, h⟩
    · exact h.bd
    · show BdL (keepT (fun p => p.2 - c) (keepT (fun p => p.1 - u) (BP l b r t))) k
      rw [h]; exact ⟨fun p hp => nomatch hp⟩
  have m2 : ∀ p : Pt, BdQ p.1 k → BdQ p.2 k → BdQ (v - p.1) (2 * k + 1) := fun p h1 h2 => (inferInstance : BdQ (v - p.1) (k + k + 1)).up (by omega)
  -- the third one
  have c3 : (∃ m : Pt, m = (mx l u, mx b c) ∧ u ≤ r ∧ c ≤ t ∧ l ≤ v ∧ WI P3 m (9 * k + 7)) ∨ ((r < u ∨ t < c ∨ v < l) ∧ P3 = []) := by
    rcases tc with ⟨h1, h2, h⟩ | ⟨h1, h⟩
    · by_cases d : l ≤ v
      · left
        refine ⟨_, rfl, h1, h2, d, ?_⟩
        have e0 : 0 ≤ v - mx l u := by unfold mx; grind
        have := wi_keep (f := fun p : Pt => v - p.1) h m2 e0
        exact ⟨this.mem, this.ge, ⟨fun p hp => ⟨(this.bd.b p hp).1.up (by omega), (this.bd.b p hp).2.up (by omega)⟩⟩⟩
      · right
        refine ⟨.inr (.inr (by grind)), nil_keep fun p hp => ?_⟩
        have := (h.ge p hp).1
        have e0 : v < mx l u := by unfold mx; grind
        dsimp only at this ⊢
        grind
    · right
      refine ⟨by rcases h1 with h1 | h1 <;> simp [h1], ?_⟩
      show keepT _ (keepT _ (keepT _ (BP l b r t))) = []
      rw [h]; rfl
  have b3 : BdL P3 (9 * k + 7) := by
    rcases c3 with ⟨m, _, _, _, _, h⟩ | ⟨_, h⟩
    · exact h.bd
    · rw [h]; exact ⟨fun p hp => nomatch hp⟩
  have m3 : ∀ p : Pt, BdQ p.1 (9 * k + 7) → BdQ p.2 (9 * k + 7) → BdQ (w - p.2) (10 * k + 8) := fun p h1 h2 => (inferInstance : BdQ (w - p.2) (k + (9 * k + 7) + 1)).up (by omega)
  have c4 : (tch l b r t u c v w ∧ WI P4 (mx l u, mx b c) (57 * k + 49)) ∨ (¬ tch l b r t u c v w ∧ P4 = []) := by
    rcases c3 with ⟨m, rfl, h1, h2, h3, h⟩ | ⟨h1, h⟩
    · by_cases d : b ≤ w
      · left
        refine ⟨⟨h1, h3, h2, d⟩, ?_⟩
        have e0 : 0 ≤ w - mx b c := by unfold mx; grind
        have := wi_keep (f := fun p : Pt => w - p.2) h m3 e0
        exact ⟨this.mem, this.ge, ⟨fun p hp => ⟨(this.bd.b p hp).1.up (by omega), (this.bd.b p hp).2.up (by omega)⟩⟩⟩
      · right
        refine ⟨fun z => d z.2.2.2, nil_keep fun p hp => ?_⟩
        have := (h.ge p hp).2
        have e0 : w < mx b c := by unfold mx; grind
        dsimp only at this ⊢
        grind
    · right
      refine ⟨fun z => ?_, ?_⟩
      · obtain ⟨z1, z2, z3, z4⟩ := z
        grind
      · show keepT _ P3 = []
        rw [h]; rfl
  have e1 := ev_kept (n + 1) u w u c (k := k) (BP l b r t) b0 (by omega) (by omega) (by simp)
  have e2 := ev_kept (n + 1) u c v c (k := k) P1 b1 (by omega) (by omega) (by omega)
  have e3 := ev_kept (n + 1) v c v w (k := k) P2 b2 (by omega) (by omega) (by omega)
  have e4 := ev_kept (n + 1) v w u w (k := k) P3 b3 (by omega) (by omega) (by omega)
  rw [keepT_mul hwc lf0] at e1
  rw [keepT_mul hvu lf1] at e2
  rw [keepT_mul hwc lf2] at e3
  rw [keepT_mul hvu lf3] at e4
  have st : ∀ (P Q : List Pt) (m : Int) (s g : PD) (x3 x4 x5 : Option PD), ixV (BC u c v w) (.int (m - 1)) = .ok s → ixV (BC u c v w) (.int m) = .ok g → evF pg (n + 7) i_kept_in [.list (P.map PE'), s, g] = .ok (.list (Q.map PE')) →
      evSs (sgOf pg (n + 7)) l_meeting_2 ([], [some (BC l b r t), some (BC u c v w), some (.list (P.map PE')), some (.int m), x4, x5]) = .nx ([], [some (BC l b r t), some (BC u c v w), some (.list (Q.map PE')), some (.int m), x4, x5]) := by
    intro P Q m s g x3 x4 x5 h1 h2 h3
    unfold l_meeting_2
    simp only [evSs, evS, evE, evEs, List.getElem?_cons_succ, List.getElem?_cons_zero, bok, sok, vsub, h1, h2, h3, List.set_cons_succ, List.set_cons_zero, dl0]
  have pre : ∀ z : SR, evSs (sgOf pg (n + 7)) (.cons (.ifs (.cmp .eq (.bi .len (.cons (.var 2) (.nil))) (.int 0)) (.cons (.ret (.non)) (.nil)) (.nil)) (.cons (.set 4 (.ix (.var 2) (.int 0))) (.cons (.for_ (.nm 5) (.e (.sl (.var 2) (.some (.int 1)) (.none))) (l_meeting_1)) (.cons (.ret (.var 4)) (.nil))))) ([], [some (BC l b r t), some (BC u c v w), some (.list (P4.map PE')), some (.int 3), none, none]) = z →
      evSs (sgOf pg (n + 7)) b_meeting ([], [some (BC l b r t), some (BC u c v w), none, none, none, none]) = z := by
    intro z hz
    unfold b_meeting
    refine seq1 (s' := ([], [some (BC l b r t), some (BC u c v w), none, none, none, none])) ?_ (seq1 (s' := ([], [some (BC l b r t), some (BC u c v w), some (.list ((BP l b r t).map PE')), none, none, none])) rfl (seq1 (evFor (items := [.int 0, .int 1, .int 2, .int 3]) (by simp! []) rfl (for_nm (st (BP l b r t) P1 0 _ _ none _ _ rfl rfl e1) (for_nm (st P1 P2 1 _ _ none _ _ rfl rfl e2) (for_nm (st P2 P3 2 _ _ none _ _ rfl rfl e3) (for_nm (st P3 P4 3 _ _ none _ _ rfl rfl e4) rfl))))) hz))
    simp! [ev_both hl hb hu hc hk' hk' n]
  unfold b_meeting at pre
  rcases c4 with ⟨h0, h⟩ | ⟨h0, h⟩
  · refine ⟨some (mx l u, mx b c), ?_, fun _ => rfl, fun z => absurd h0 z⟩
    refine finR (pre _ ?_)
    cases hp : P4 with
    | nil => have := h.mem; rw [hp] at this; cases this
    | cons p ps =>
      rw [hp] at h l4
      obtain ⟨y, q⟩ := meet_loop (n + 2) (some (BC l b r t)) (some (BC u c v w)) (some (.list ((p :: ps).map PE'))) (some (.int 3)) (K := 57 * k + 49) (by omega) ps p none ⟨fun x hx => h.bd.b x (List.mem_cons_of_mem _ hx)⟩ (h.bd.b p (List.mem_cons_self ..))
      rw [minGo_m (m := (mx l u, mx b c)) ps p (by rcases List.mem_cons.mp h.mem with e | e
                                                   · exact .inl e.symm
                                                   · exact .inr e) (h.ge p (List.mem_cons_self ..)) (fun x hx => h.ge x (List.mem_cons_of_mem _ hx))] at q
      have nz : ¬ ((((p :: ps).map PE').length : Nat) : Int) = 0 := by rw [List.length_map, List.length_cons]; omega
      have ct : Fe.cutD ((p :: ps).map PE') (some 1) none = ps.map PE' := cut1 _ _
      refine seq1 (s' := ([], [some (BC l b r t), some (BC u c v w), some (.list ((p :: ps).map PE')), some (.int 3), none, none])) ?_ (seq1 (s' := ([], [some (BC l b r t), some (BC u c v w), some (.list ((p :: ps).map PE')), some (.int 3), some (PE' p), none])) ?_ (seq1 (evFor (items := ps.map PE') ?_ rfl q) (seqR rfl)))
      · simp only [evSs, evS, evE, evEs, List.getElem?_cons_succ, List.getElem?_cons_zero, bok, sok, bO, blen, ceqi, nz, decide_false, Bool.false_eq_true, if_false, dl0]
      · rw [List.map_cons]
        simp! []
      · simp only [itE, evE, evEo, List.getElem?_cons_succ, List.getElem?_cons_zero, bok, iO, slL, ct, itmL]
  · refine ⟨none, ?_, fun z => absurd z h0, fun _ => rfl⟩
    refine finR (pre _ ?_)
    rw [h]
    rfl
end
end k21
set_option Elab.async false
set_option linter.all false
set_option maxRecDepth 100000
set_option maxHeartbeats 4000000
namespace k21
open PySem PySem.Spec PyProof.Rows L2 Fe
/-! ### one that goes -/
def mnn (a b : Rat) : Rat := if b < a then b else a
theorem mnn_or (a b : Rat) : mnn a b = a ∨ mnn a b = b := by unfold mnn; split <;> simp
def cst (h g : Rat) (fl : Rat × Rat) : Option (Rat × Rat) := if g = 0 then (if h < 0 then none else some fl) else if 0 < g then some (mx fl.1 ((0 - h) / g), fl.2) else some (fl.1, mnn fl.2 ((0 - h) / g))
structure BdF (fl : Rat × Rat) : Prop where
  a : BdQ fl.1 1000
  b : BdQ fl.2 1000
theorem cst_bd {h g : Rat} {fl fl' : Rat × Rat} (hb : BdF fl) (ht : BdQ ((0 - h) / g) 1000) (e : cst h g fl = some fl') : BdF fl' := by
  unfold cst at e
  have A := hb.a
  have B := hb.b
  split at e
  · split at e
    · cases e
    · cases e; exact hb
  · split at e
    · cases e
      exact ⟨inferInstance, hb.b⟩
    · cases e
      refine ⟨hb.a, ?_⟩
      show BdQ (mnn fl.2 ((0 - h) / g)) 1000
      rcases mnn_or fl.2 ((0 - h) / g) with q | q <;> rw [q] <;> assumption
abbrev cenv (A B S C : PD) (fl : Rat × Rat) (x6 x7 x8 x9 x10 x11 : Option PD) : Fe.Env := [some A, some B, some S, some C, some (QD fl.1), some (QD fl.2), x6, x7, x8, x9, x10, x11]
theorem ev_cst (n : Nat) (A B C : PD) (sx sy : Rat) (fl : Rat × Rat) (hb : BdF fl) (m : Int) (ax ay bx b_y : Rat) (x7 x8 x9 x10 x11 : Option PD) {k j : Nat} [BdQ ax k] [BdQ ay k] [BdQ bx k] [BdQ b_y k] [BdQ sx j] [BdQ sy j] (hk : k ≤ 45) (hj : j ≤ 20)
    (i1 : ixV C (.int (m - 1)) = .ok (PQ ax ay)) (i2 : ixV C (.int m) = .ok (PQ bx b_y)) (h g : Rat) (eh : ta ax ay bx b_y 0 0 = h) (eg : ta ax ay bx b_y sx sy - h = g) :
    (cst h g fl = none → evSs (sgOf pg (n + 5)) l_comes_to_1 ([], cenv A B (PQ sx sy) C fl (some (.int m)) x7 x8 x9 x10 x11) = .rt .none) ∧
    (∀ fl', cst h g fl = some fl' → BdF fl' ∧ ∃ y7 y8 y9 y10 y11, evSs (sgOf pg (n + 5)) l_comes_to_1 ([], cenv A B (PQ sx sy) C fl (some (.int m)) x7 x8 x9 x10 x11) = .nx ([], cenv A B (PQ sx sy) C fl' (some (.int m)) y7 y8 y9 y10 y11)) := by
  have Bh : BdQ h 300 := by
    rw [← eh]
    unfold ta
    exact (inferInstance : BdQ ((bx - ax) * (0 - ay) - (b_y - ay) * (0 - ax)) _).up (by omega)
  have Bs : BdQ (ta ax ay bx b_y sx sy) 350 := by
    unfold ta
    exact (inferInstance : BdQ ((bx - ax) * (sy - ay) - (b_y - ay) * (sx - ax)) _).up (by omega)
  have Bg : BdQ g 660 := by
    rw [← eg]
    exact (inferInstance : BdQ (ta ax ay bx b_y sx sy - h) (350 + 300 + 1)).up (by decide)
  have Bt : BdQ ((0 - h) / g) 1000 := (inferInstance : BdQ ((0 - h) / g) (1 + 300 + 1 + 660)).up (by decide)
  have A1 := hb.a
  have B1 := hb.b
  have s1 : evS (sgOf pg (n + 5)) (.par [7, 8] (.cons (.ix (.var 3) (.bin .sub (.var 6) (.int 1))) (.cons (.ix (.var 3) (.var 6)) (.nil)))) ([], cenv A B (PQ sx sy) C fl (some (.int m)) x7 x8 x9 x10 x11) = .nx ([], cenv A B (PQ sx sy) C fl (some (.int m)) (some (PQ ax ay)) (some (PQ bx b_y)) x9 x10 x11) := by
    simp only [evS, evE, evEs, setL, List.getElem?_cons_succ, List.getElem?_cons_zero, bok, sok, vsub, i1, i2, List.set_cons_succ, List.set_cons_zero, dl0]
  have s2 : evS (sgOf pg (n + 5)) (.set 9 (.call i_twice_area (.cons (.tup (.cons (.var 7) (.cons (.var 8) (.cons (.tup (.cons (.glob "ZERO") (.cons (.glob "ZERO") (.nil)))) (.nil))))) (.nil)))) ([], cenv A B (PQ sx sy) C fl (some (.int m)) (some (PQ ax ay)) (some (PQ bx b_y)) x9 x10 x11) = .nx ([], cenv A B (PQ sx sy) C fl (some (.int m)) (some (PQ ax ay)) (some (PQ bx b_y)) (some (QD h)) x10 x11) := by
    simp! [gZ, ev_ta, eh]
  have s3 : evS (sgOf pg (n + 5)) (.set 10 (.call i_take (.cons (.call i_twice_area (.cons (.tup (.cons (.var 7) (.cons (.var 8) (.cons (.var 2) (.nil))))) (.nil))) (.cons (.var 9) (.nil))))) ([], cenv A B (PQ sx sy) C fl (some (.int m)) (some (PQ ax ay)) (some (PQ bx b_y)) (some (QD h)) x10 x11) = .nx ([], cenv A B (PQ sx sy) C fl (some (.int m)) (some (PQ ax ay)) (some (PQ bx b_y)) (some (QD h)) (some (QD g)) x11) := by
    simp! [ev_ta, ev_take, eg]
  unfold l_comes_to_1 cst
  by_cases z : g = 0
  · have sz : sgn g = 0 := by rw [z]; rfl
    rw [if_pos z]
    by_cases z2 : h < 0
    · have sz2 := sgn_neg z2
      rw [if_pos z2]
      refine ⟨fun _ => seq1 s1 (seq1 s2 (seq1 s3 (seqR ?_))), fun fl' e => nomatch e⟩
      simp! [ev_sign, sz, sz2]
    · have sz2 : ¬ sgn h < 0 := fun q => z2 ((sgn_lt h).mp q)
      rw [if_neg z2]
      refine ⟨fun e => (nomatch e), fun fl' e => ?_⟩
      cases e
      refine ⟨hb, _, _, _, _, _, seq1 s1 (seq1 s2 (seq1 s3 (seq1 (s' := ([], cenv A B (PQ sx sy) C fl (some (.int m)) (some (PQ ax ay)) (some (PQ bx b_y)) (some (QD h)) (some (QD g)) x11)) ?_ rfl)))⟩
      simp! [ev_sign, sz, sz2]
  · have sz : ¬ sgn g = 0 := fun q => z ((sgn_eq g).mp q)
    rw [if_neg z]
    generalize ht : (0 - h) / g = tm at *
    by_cases z2 : 0 < g
    · have sz2 := sgn_pos z2
      rw [if_pos z2]
      refine ⟨fun e => (nomatch e), fun fl' e => ?_⟩
      cases e
      refine ⟨⟨inferInstance, hb.b⟩, _, _, _, _, some (QD tm), seq1 s1 (seq1 s2 (seq1 s3 (seq1 (s' := ([], cenv A B (PQ sx sy) C (mx fl.1 tm, fl.2) (some (.int m)) (some (PQ ax ay)) (some (PQ bx b_y)) (some (QD h)) (some (QD g)) (some (QD tm)))) ?_ rfl)))⟩
      unfold mx
      by_cases c : fl.1 < tm
      · simp! [ev_sign, sz, sz2, gZ, ev_take, ev_over, z, ht, ev_is_less, c]
      · simp! [ev_sign, sz, sz2, gZ, ev_take, ev_over, z, ht, ev_is_less, c]
    · have z3 : g < 0 := by grind
      have sz2 := sgn_neg z3
      rw [if_neg z2]
      refine ⟨fun e => (nomatch e), fun fl' e => ?_⟩
      cases e
      have Bm : BdQ (mnn fl.2 tm) 1000 := by rcases mnn_or fl.2 tm with q | q <;> rw [q] <;> assumption
      refine ⟨⟨hb.a, Bm⟩, _, _, _, _, some (QD tm), seq1 s1 (seq1 s2 (seq1 s3 (seq1 (s' := ([], cenv A B (PQ sx sy) C (fl.1, mnn fl.2 tm) (some (.int m)) (some (PQ ax ay)) (some (PQ bx b_y)) (some (QD h)) (some (QD g)) (some (QD tm)))) ?_ rfl)))⟩
      unfold mnn
      by_cases c : tm < fl.2
      · simp! [ev_sign, sz, sz2, gZ, ev_take, ev_over, z, ht, ev_is_less, c]
      · simp! [ev_sign, sz, sz2, gZ, ev_take, ev_over, z, ht, ev_is_less, c]
def thenS (S : Sig) (r : Ss) (z : SR) : SR → Prop
  | .nx s => evSs S r s = z
  | q => q = z
theorem seqAny {S : Sig} {a : Sm} {r : Ss} {s : Sta} {z1 z : SR} (h : evS S a s = z1) (h2 : thenS S r z z1) : evSs S (.cons a r) s = z := by
  rw [evSs, h]
  cases z1 <;> exact h2
/-- all four turns -/
def cs4 (L B R T sx sy : Rat) : Option (Rat × Rat) := (((cst ((T - B) * (0 - L)) ((T - B) * sx) (0, 1)).bind (cst ((R - L) * (0 - B)) ((R - L) * sy))).bind (cst ((T - B) * R) ((T - B) * (0 - sx)))).bind (cst ((R - L) * T) ((R - L) * (0 - sy)))
def cEnd : Option (Rat × Rat) → Option Rat
  | none => none
  | some fl => if fl.2 < fl.1 then none else some fl.1
section
variable {l b r t u c v w : Rat} {k : Nat} [BdQ l k] [BdQ b k] [BdQ r k] [BdQ t k] [BdQ u k] [BdQ c k] [BdQ v k] [BdQ w k] (hl : l < r) (hb : b < t) (hu : u < v) (hc : c < w) (hk : k ≤ 20)
include hl hb hu hc hk
theorem ev_comes (n : Nat) (sx sy : Rat) {j : Nat} [BdQ sx j] [BdQ sy j] (hj : j ≤ 20) : evF pg (n + 9) i_comes_to [BC l b r t, BC u c v w, PQ sx sy] = .ok (OQ (cEnd (cs4 (u + (0 - r)) (c + (0 - t)) (v + (0 - l)) (w + (0 - b)) sx sy))) := by
  rw [u_comes_to]
  unfold b_comes_to
  have hk' : k ≤ 150 := by omega
  have q0 := ev_opp hl hb (n := n + 2) hk'
  have q1 := ev_grown_by (l := u) (b := c) (r := v) (t := w) (u := 0 - r) (c := 0 - t) (v := 0 - l) (w := 0 - b) (k := k) (j := 1 + k + 1) (n + 2) (by omega)
  have q2 : evF pg (n + 8) i_check_pair [PQ sx sy] = .ok .none := by
    rw [u_check_pair]
    unfold b_check_pair
    simp! [ev_ispair]
  generalize eL : u + (0 - r) = L at *
  generalize eB : c + (0 - t) = B at *
  generalize eR : v + (0 - l) = R at *
  generalize eT : w + (0 - b) = T at *
  have bL : BdQ L 45 := by rw [← eL]; exact (inferInstance : BdQ (u + (0 - r)) _).up (by omega)
  have bB : BdQ B 45 := by rw [← eB]; exact (inferInstance : BdQ (c + (0 - t)) _).up (by omega)
  have bR : BdQ R 45 := by rw [← eR]; exact (inferInstance : BdQ (v + (0 - l)) _).up (by omega)
  have bT : BdQ T 45 := by rw [← eT]; exact (inferInstance : BdQ (w + (0 - b)) _).up (by omega)
  have f0 : BdF (0, 1) := ⟨(inferInstance : BdQ (0 : Rat) 1).up (by decide), (inferInstance : BdQ (1 : Rat) 1).up (by decide)⟩
  have a0 : ta L T L B 0 0 = (T - B) * (0 - L) := by unfold ta; grind
  have a1 : ta L B R B 0 0 = (R - L) * (0 - B) := by unfold ta; grind
  have a2 : ta R B R T 0 0 = (T - B) * R := by unfold ta; grind
  have a3 : ta R T L T 0 0 = (R - L) * T := by unfold ta; grind
  have g0 : ta L T L B sx sy - (T - B) * (0 - L) = (T - B) * sx := by unfold ta; grind
  have g1 : ta L B R B sx sy - (R - L) * (0 - B) = (R - L) * sy := by unfold ta; grind
  have g2 : ta R B R T sx sy - (T - B) * R = (T - B) * (0 - sx) := by unfold ta; grind
  have g3 : ta R T L T sx sy - (R - L) * T = (R - L) * (0 - sy) := by unfold ta; grind
  have pre : ∀ z : SR, (∀ (z1 : SR), forGo (.nm 6) (evSs (sgOf pg (n + 8)) l_comes_to_1) [.int 0, .int 1, .int 2, .int 3] ([], cenv (BC l b r t) (BC u c v w) (PQ sx sy) (BC L B R T) (0, 1) none none none none none none) = z1 → thenS (sgOf pg (n + 8)) (.cons (.ret (.ite (.call i_is_less (.cons (.var 5) (.cons (.var 4) (.nil)))) (.non) (.var 4))) (.nil)) z z1) → evSs (sgOf pg (n + 8)) b_comes_to ([], [some (BC l b r t), some (BC u c v w), some (PQ sx sy), none, none, none, none, none, none, none, none, none]) = z := by
    intro z hz
    have hz := hz _ rfl
    unfold b_comes_to
    refine seq1 (s' := ([], [some (BC l b r t), some (BC u c v w), some (PQ sx sy), none, none, none, none, none, none, none, none, none])) ?_ (seq1 (s' := ([], [some (BC l b r t), some (BC u c v w), some (PQ sx sy), none, none, none, none, none, none, none, none, none])) ?_ (seq1 (s' := ([], [some (BC l b r t), some (BC u c v w), some (PQ sx sy), some (BC L B R T), none, none, none, none, none, none, none, none])) ?_ (seq1 (s' := ([], cenv (BC l b r t) (BC u c v w) (PQ sx sy) (BC L B R T) (0, 1) none none none none none none)) ?_ ?_)))
    · simp! [ev_both hl hb hu hc hk' hk' (n + 1)]
    · simp! [q2]
    · simp! [q0, q1]
    · simp! [gZ, gO]
    · exact seqAny (evFor (W' := []) (items := [.int 0, .int 1, .int 2, .int 3]) (by simp! []) rfl rfl) hz
  unfold b_comes_to at pre
  obtain ⟨n0, s0⟩ := ev_cst (n + 3) (BC l b r t) (BC u c v w) (BC L B R T) sx sy (0, 1) f0 0 L T L B none none none none none (k := 45) (j := j) (by omega) hj rfl rfl _ _ a0 g0
  unfold cs4
  cases e0 : cst ((T - B) * (0 - L)) ((T - B) * sx) (0, 1) with
  | none =>
    rw [for_ret (n0 e0)] at pre
    exact finR (pre _ fun z1 h => by subst h; rfl)
  | some x0 =>
    obtain ⟨d0, p7, p8, p9, p10, p11, s0⟩ := s0 x0 e0
    obtain ⟨n1, s1⟩ := ev_cst (n + 3) (BC l b r t) (BC u c v w) (BC L B R T) sx sy x0 d0 1 L B R B p7 p8 p9 p10 p11 (k := 45) (j := j) (by omega) hj rfl rfl _ _ a1 g1
    rw [Option.bind_some]
    cases e1 : cst ((R - L) * (0 - B)) ((R - L) * sy) x0 with
    | none =>
      rw [for_nm s0 (for_ret (n1 e1))] at pre
      exact finR (pre _ fun z1 h => by subst h; rfl)
    | some x1 =>
      obtain ⟨d1, p7, p8, p9, p10, p11, s1⟩ := s1 x1 e1
      obtain ⟨n2, s2⟩ := ev_cst (n + 3) (BC l b r t) (BC u c v w) (BC L B R T) sx sy x1 d1 2 R B R T p7 p8 p9 p10 p11 (k := 45) (j := j) (by omega) hj rfl rfl _ _ a2 g2
      rw [Option.bind_some]
      cases e2 : cst ((T - B) * R) ((T - B) * (0 - sx)) x1 with
      | none =>
        rw [for_nm s0 (for_nm s1 (for_ret (n2 e2)))] at pre
        exact finR (pre _ fun z1 h => by subst h; rfl)
      | some x2 =>
        obtain ⟨d2, p7, p8, p9, p10, p11, s2⟩ := s2 x2 e2
        obtain ⟨n3, s3⟩ := ev_cst (n + 3) (BC l b r t) (BC u c v w) (BC L B R T) sx sy x2 d2 3 R T L T p7 p8 p9 p10 p11 (k := 45) (j := j) (by omega) hj rfl rfl _ _ a3 g3
        rw [Option.bind_some]
        cases e3 : cst ((R - L) * T) ((R - L) * (0 - sy)) x2 with
        | none =>
          rw [for_nm s0 (for_nm s1 (for_nm s2 (for_ret (n3 e3))))] at pre
          exact finR (pre _ fun z1 h => by subst h; rfl)
        | some x3 =>
          obtain ⟨d3, p7, p8, p9, p10, p11, s3⟩ := s3 x3 e3
          rw [for_nm s0 (for_nm s1 (for_nm s2 (for_nm s3 for_nil)))] at pre
          refine finR (pre _ fun z1 h => by
            subst h
            have A1 := d3.a
            have B1 := d3.b
            show evSs _ _ _ = SR.rt (OQ (if x3.2 < x3.1 then none else some x3.1))
            by_cases c : x3.2 < x3.1
            · rw [if_pos c]
              simp! [ev_is_less, c]
              rfl
            · rw [if_neg c]
              simp! [ev_is_less, c]
              rfl)
end
end k21
set_option Elab.async false
set_option linter.all false
set_option maxRecDepth 100000
set_option maxHeartbeats 4000000
set_option exponentiation.threshold 20000
namespace k21
open PySem PySem.Spec PyProof.Rows L2 Fe
theorem ev_ladd (n : Nat) (x y : Rat) {i j : Nat} [A : BdQ x i] [B : BdQ y j] (h : i + j ≤ 200) : evF pg (n + 3) i__law_add [QD x, QD y] = .ok (QD (x + y)) := by
  rw [u__law_add]
  unfold b__law_add
  have h0 := mul_ne (den_ne x) (den_ne y)
  have h1 : i + j < 1000000 := by omega
  have h2 : j + i < 1000000 := by omega
  simp! [ev_lw]
  rw [rat_add x y]
theorem ev_ltake (n : Nat) (x y : Rat) {i j : Nat} [A : BdQ x i] [B : BdQ y j] (h : i + j ≤ 200) : evF pg (n + 3) i__law_take [QD x, QD y] = .ok (QD (x - y)) := by
  rw [u__law_take]
  unfold b__law_take
  have h0 := mul_ne (den_ne x) (den_ne y)
  have h1 : i + j < 1000000 := by omega
  have h2 : j + i < 1000000 := by omega
  simp! [ev_lw]
  rw [rat_sub x y]
theorem ev_ltimes (n : Nat) (x y : Rat) {i j : Nat} [A : BdQ x i] [B : BdQ y j] (h : i + j ≤ 200) : evF pg (n + 3) i__law_times [QD x, QD y] = .ok (QD (x * y)) := by
  rw [u__law_times]
  unfold b__law_times
  have h0 := mul_ne (den_ne x) (den_ne y)
  have h1 : i + j < 1000000 := by omega
  have h2 : j + i < 1000000 := by omega
  simp! [ev_lw]
  rw [rat_mul x y]
theorem ev_lover (n : Nat) (x y : Rat) {i j : Nat} [A : BdQ x i] [B : BdQ y j] (hy : y ≠ 0) (h : i + j ≤ 200) : evF pg (n + 3) i__law_over [QD x, QD y] = .ok (QD (x / y)) := by
  rw [u__law_over]
  unfold b__law_over
  have hn := num_ne hy
  have h0 := mul_ne (den_ne x) hn
  have h1 : i + j < 1000000 := by omega
  have h2 : j + i < 1000000 := by omega
  simp! [ev_lw, hn]
  rw [rat_div x y hy]
theorem ev_lless (n : Nat) (x y : Rat) {i j : Nat} [A : BdQ x i] [B : BdQ y j] (h : i + j ≤ 400000) : evF pg (n + 1) i__law_less [QD x, QD y] = .ok (.bool (decide (x < y))) := by
  rw [u__law_less]
  unfold b__law_less
  have h1 : i + j < 1000000 := by omega
  have h2 : j + i < 1000000 := by omega
  simp! [Rat.lt_iff]
theorem ev_lleast (n : Nat) (x y : Rat) {i j : Nat} [A : BdQ x i] [B : BdQ y j] (h : i + j ≤ 400000) : evF pg (n + 2) i__law_least [QD x, QD y] = .ok (QD (if y < x then y else x)) := by
  rw [u__law_least]
  unfold b__law_least
  have h2 : j + i ≤ 400000 := by omega
  by_cases c : y < x <;> simp! [ev_lless, c]
theorem ev_lgreatest (n : Nat) (x y : Rat) {i j : Nat} [A : BdQ x i] [B : BdQ y j] (h : i + j ≤ 400000) : evF pg (n + 2) i__law_greatest [QD x, QD y] = .ok (QD (if x < y then y else x)) := by
  rw [u__law_greatest]
  unfold b__law_greatest
  by_cases c : x < y <;> simp! [ev_lless, c]

/-! ### what the law draws -/
theorem t01 : PyData.tuple [.int 0, .int 1] = QD 0 := rfl
theorem t11 : PyData.tuple [.int 1, .int 1] = QD 1 := rfl
/-- a fraction of sixths -/
def Sx (x : Rat) (N : Nat) : Prop := ∃ n : Int, x = (n : Rat) / 6 ∧ n.natAbs ≤ N
theorem Sx.add {x y : Rat} {N M : Nat} (a : Sx x N) (b : Sx y M) : Sx (x + y) (N + M) := by
  obtain ⟨n, e, h⟩ := a
  obtain ⟨m, f, g⟩ := b
  refine ⟨n + m, ?_, by omega⟩
  rw [e, f, Rat.intCast_add]
  grind
theorem Sx.sub {x y : Rat} {N M : Nat} (a : Sx x N) (b : Sx y M) : Sx (x - y) (N + M) := by
  obtain ⟨n, e, h⟩ := a
  obtain ⟨m, f, g⟩ := b
  refine ⟨n - m, ?_, by omega⟩
  rw [e, f, Rat.intCast_sub]
  grind
theorem Sx.up {x : Rat} {N M : Nat} (a : Sx x N) (h : N ≤ M) : Sx x M := by
  obtain ⟨n, e, g⟩ := a
  exact ⟨n, e, by omega⟩
theorem Sx.zero : Sx 0 0 := ⟨0, by rw [Rat.intCast_zero]; grind, by decide⟩
theorem Sx.bd {x : Rat} {N : Nat} (a : Sx x N) {k : Nat} (h : N < 2 ^ k) (h2 : 6 < 2 ^ k) : BdQ x k := by
  obtain ⟨n, e, g⟩ := a
  exact BdQ.of_div (n := n) (d := 6) (by decide) e (by omega) h2
theorem sx1 {a : Int} {N : Nat} (h : (a * 6).natAbs ≤ N) : Sx ((a : Rat) / ((1 : Int) : Rat)) N := by
  refine ⟨a * 6, ?_, h⟩
  have e1 : ((1 : Int) : Rat) = 1 := rfl
  have e6 : ((6 : Int) : Rat) = 6 := rfl
  rw [Rat.intCast_mul, e1, e6]
  grind
theorem sx2 {a : Int} {N : Nat} (h : (a * 3).natAbs ≤ N) : Sx ((a : Rat) / ((2 : Int) : Rat)) N := by
  refine ⟨a * 3, ?_, h⟩
  have e1 : ((2 : Int) : Rat) = 2 := rfl
  have e6 : ((3 : Int) : Rat) = 3 := rfl
  rw [Rat.intCast_mul, e1, e6]
  grind
theorem sx3 {a : Int} {N : Nat} (h : (a * 2).natAbs ≤ N) : Sx ((a : Rat) / ((3 : Int) : Rat)) N := by
  refine ⟨a * 2, ?_, h⟩
  have e1 : ((3 : Int) : Rat) = 3 := rfl
  have e6 : ((2 : Int) : Rat) = 2 := rfl
  rw [Rat.intCast_mul, e1, e6]
  grind
theorem div_pos_int {a : Int} {b : Int} (ha : 0 < a) (hb : 0 < b) : (0 : Rat) < (a : Rat) / (b : Rat) := by
  have h1 : ((0 : Int) : Rat) < (a : Rat) := Rat.intCast_lt_intCast.mpr ha
  have h2 : ((0 : Int) : Rat) < (b : Rat) := Rat.intCast_lt_intCast.mpr hb
  rw [Rat.div_def]
  exact Rat.mul_pos h1 (Rat.inv_pos.mpr h2)
theorem mix4 (ds : List Int) (k : Int) : mixF ds k 4 = 0 ∨ mixF ds k 4 = 1 ∨ mixF ds k 4 = 2 ∨ mixF ds k 4 = 3 := by
  have := mix0 ds k 4
  have := mixL ds k 4 (by decide)
  omega
theorem mix5 (ds : List Int) (k : Int) : mixF ds k 5 = 0 ∨ mixF ds k 5 = 1 ∨ mixF ds k 5 = 2 ∨ mixF ds k 5 = 3 ∨ mixF ds k 5 = 4 := by
  have := mix0 ds k 5
  have := mixL ds k 5 (by decide)
  omega
theorem ev_lfr (n : Nat) {ds : List Int} (hd : okD ds) (k most : Int) (hk : 0 ≤ k) (hk2 : k < 9000) (m0 : 0 < most) (m1 : most ≤ 1000) : ∃ q, evF pg (n + 3) i__law_fraction [Ld ds, .int k, .int most] = .ok (QD q) ∧ Sx q 6000 := by
  have B : Bd most 10 := Bd.of 10 (show most.natAbs ≤ 1000 by omega) (by decide)
  rcases mix4 ds k with q | q | q | q
  · have a0 := mix0 ds (k + 1) (2 * most * 1 + 1)
    have a1 := mixL ds (k + 1) (2 * most * 1 + 1) (by omega)
    refine ⟨_, ?_, sx1 (a := mixF ds (k + 1) (2 * most * 1 + 1) - most * 1) (by omega)⟩
    rw [u__law_fraction]
    unfold b__law_fraction
    simp! [ev_mix, hd, q, ev_lw]
  · have a0 := mix0 ds (k + 1) (2 * most * 1 + 1)
    have a1 := mixL ds (k + 1) (2 * most * 1 + 1) (by omega)
    refine ⟨_, ?_, sx1 (a := mixF ds (k + 1) (2 * most * 1 + 1) - most * 1) (by omega)⟩
    rw [u__law_fraction]
    unfold b__law_fraction
    simp! [ev_mix, hd, q, ev_lw]
  · have a0 := mix0 ds (k + 1) (2 * most * 2 + 1)
    have a1 := mixL ds (k + 1) (2 * most * 2 + 1) (by omega)
    refine ⟨_, ?_, sx2 (a := mixF ds (k + 1) (2 * most * 2 + 1) - most * 2) (by omega)⟩
    rw [u__law_fraction]
    unfold b__law_fraction
    simp! [ev_mix, hd, q, ev_lw]
  · have a0 := mix0 ds (k + 1) (2 * most * 3 + 1)
    have a1 := mixL ds (k + 1) (2 * most * 3 + 1) (by omega)
    refine ⟨_, ?_, sx3 (a := mixF ds (k + 1) (2 * most * 3 + 1) - most * 3) (by omega)⟩
    rw [u__law_fraction]
    unfold b__law_fraction
    simp! [ev_mix, hd, q, ev_lw]
end k21
set_option Elab.async false
set_option linter.all false
set_option maxRecDepth 100000
set_option maxHeartbeats 4000000
set_option exponentiation.threshold 20000
namespace k21
open PySem PySem.Spec PyProof.Rows L2 Fe
/-! ### the law's boxes -/
theorem lowsz (n : Nat) {ds : List Int} (hd : okD ds) (k most : Int) (hk : 0 ≤ k) (hk2 : k < 9000) (m0 : 0 < most) (m1 : most ≤ 1000) {L : Int} (hL : L = 1 ∨ L = 2 ∨ L = 3) : ∃ q, evF pg (n + 2) i__law_low [.int (1 + mixF ds k (2 * most)), .int L] = .ok (QD q) ∧ 0 < q ∧ Sx q 12000 := by
  have a0 := mix0 ds k (2 * most)
  have a1 := mixL ds k (2 * most) (by omega)
  rcases hL with rfl | rfl | rfl
  · exact ⟨_, ev_lw n _ _ (by decide) (by decide), div_pos_int (by omega) (by omega), sx1 (by omega)⟩
  · exact ⟨_, ev_lw n _ _ (by decide) (by decide), div_pos_int (by omega) (by omega), sx2 (by omega)⟩
  · exact ⟨_, ev_lw n _ _ (by decide) (by decide), div_pos_int (by omega) (by omega), sx3 (by omega)⟩
theorem lowix (ds : List Int) (k : Int) : ∃ L : Int, ixV (.list [.int 1, .int 1, .int 2, .int 3]) (.int (mixF ds k 4)) = .ok (.int L) ∧ (L = 1 ∨ L = 2 ∨ L = 3) := by
  rcases mix4 ds k with q | q | q | q <;> rw [q]
  · exact ⟨1, rfl, by decide⟩
  · exact ⟨1, rfl, by decide⟩
  · exact ⟨2, rfl, by decide⟩
  · exact ⟨3, rfl, by decide⟩
theorem box_step (n : Nat) {ds : List Int} (hd : okD ds) (k most : Int) (hk : 0 ≤ k) (hk2 : k < 8000) (m0 : 0 < most) (m1 : most ≤ 1000) (t : Int) (ht : t = 0 ∨ t = 1) (L : List PD) (hl : L.length < 100) (x5 x6 : Option PD) :
    ∃ p q y5 y6, evSs (sgOf pg (n + 3)) l__law_box_1 ([3], [some (Ld ds), some (.int k), some (.int most), some (.list L), some (.int t), x5, x6]) = .nx ([3], [some (Ld ds), some (.int k), some (.int most), some (.list (L ++ [PQ p q])), some (.int t), y5, y6]) ∧ p < q ∧ Sx p 6000 ∧ Sx q 18000 := by
  have Bm : Bd most 10 := Bd.of 10 (show most.natAbs ≤ 1000 by omega) (by decide)
  have Bt : Bd t 1 := Bd.of 1 (show t.natAbs ≤ 1 by omega) (by decide)
  obtain ⟨lo, l1, l2⟩ := lowix ds (k + 4 * t)
  obtain ⟨p, p1, p2⟩ := ev_lfr n hd (k + 4 * t + 1) most (by omega) (by omega) m0 m1
  obtain ⟨s, s1, s2, s3⟩ := lowsz (n + 1) hd (k + 4 * t + 3) most (by omega) (by omega) m0 m1 l2
  have A := p2.bd (k := 15) (by decide) (by decide)
  have B := s3.bd (k := 15) (by decide) (by decide)
  refine ⟨p, p + s, some (.int lo), some (QD p), ?_, by grind, p2, (p2.add s3).up (by decide)⟩
  unfold l__law_box_1
  refine seq1 (s' := ([3], [some (Ld ds), some (.int k), some (.int most), some (.list L), some (.int t), some (.int lo), x6])) ?_ (seq1 (s' := ([3], [some (Ld ds), some (.int k), some (.int most), some (.list L), some (.int t), some (.int lo), some (QD p)])) ?_ (seq1 (app_at (x := PQ p (p + s)) ?_ rfl (by simp) rfl (by omega)) rfl))
  · simp! [ev_mix, hd, l1]
    rfl
  · simp! [p1]
    rfl
  · simp! [ev_mix, hd, s1, ev_ladd]
abbrev BX (l b r t : Rat) : PD := .list [PQ l r, PQ b t]
theorem box_run (n : Nat) {ds : List Int} (hd : okD ds) (k most : Int) (hk : 0 ≤ k) (hk2 : k < 8000) (m0 : 0 < most) (m1 : most ≤ 1000) :
    ∃ l b r t, evSs (sgOf pg (n + 3)) b__law_box ([], [some (Ld ds), some (.int k), some (.int most), none, none, none, none]) = .rf (BX l b r t) ∧ l < r ∧ b < t ∧ Sx l 6000 ∧ Sx r 18000 ∧ Sx b 6000 ∧ Sx t 18000 := by
  obtain ⟨l, r, y5, y6, h1, h2, h3, h4⟩ := box_step n hd k most hk hk2 m0 m1 0 (by decide) [] (by decide) none none
  obtain ⟨b, t, z5, z6, g1, g2, g3, g4⟩ := box_step n hd k most hk hk2 m0 m1 1 (by decide) [PQ l r] (by simp) y5 y6
  refine ⟨l, b, r, t, ?_, h2, g2, h3, h4, g3, g4⟩
  unfold b__law_box
  refine seq1 (s' := ([3], [some (Ld ds), some (.int k), some (.int most), some (.list []), none, none, none])) rfl (seq1 (evFor (items := [.int 0, .int 1]) (W' := [3]) ?_ rfl (for_nm h1 (for_nm g1 for_nil))) ?_)
  · simp! []
  · rfl
theorem ev_lbox (n : Nat) {ds : List Int} (hd : okD ds) (k most : Int) (hk : 0 ≤ k) (hk2 : k < 8000) (m0 : 0 < most) (m1 : most ≤ 1000) :
    ∃ l b r t, evF pg (n + 4) i__law_box [Ld ds, .int k, .int most] = .ok (BX l b r t) ∧ evFf pg (n + 4) i__law_box [Ld ds, .int k, .int most] = .ok (BX l b r t) ∧ l < r ∧ b < t ∧ Sx l 6000 ∧ Sx r 18000 ∧ Sx b 6000 ∧ Sx t 18000 := by
  obtain ⟨l, b, r, t, h, h'⟩ := box_run n hd k most hk hk2 m0 m1
  exact ⟨l, b, r, t, by rw [u__law_box, h, frf], by rw [uF__law_box, h, fFf], h'⟩
/-! ### the box beside -/
theorem bes0 (n : Nat) {ds : List Int} (hd : okD ds) (k : Int) (hk : 0 ≤ k) (hk2 : k < 8000) (M Y Z : PD) {l r p q : Rat} (h1 : p < q) (h2 : Sx p 6000) (h3 : Sx q 18000) (h0 : l < r) (h4 : Sx l 6000) (h5 : Sx r 18000) (x6 x7 : Option PD) :
    ∃ p' q' y6 y7, evSs (sgOf pg (n + 3)) l__law_beside_1 ([4], [some (Ld ds), some (.int k), some (.list [PQ l r, Z]), some M, some (.list [PQ p q, Y]), some (.int 0), x6, x7]) = .nx ([4], [some (Ld ds), some (.int k), some (.list [PQ l r, Z]), some M, some (.list [PQ p' q', Y]), some (.int 0), y6, y7]) ∧ p' < q' ∧ Sx p' 42000 ∧ Sx q' 42000 := by
  have A1 := h2.bd (k := 16) (by decide) (by decide)
  have A2 := h3.bd (k := 16) (by decide) (by decide)
  have A3 := h4.bd (k := 16) (by decide) (by decide)
  have A4 := h5.bd (k := 16) (by decide) (by decide)
  have hs := h3.sub h2
  have A5 := hs.bd (k := 16) (by decide) (by decide)
  unfold l__law_beside_1
  rcases mix5 ds (k + 20 + 0) with c | c | c | c | c
  · refine ⟨r, r + (q - p), some (.int 0), some (QD (q - p)), seq1 (s' := ([4], [some (Ld ds), some (.int k), some (.list [PQ l r, Z]), some M, some (.list [PQ p q, Y]), some (.int 0), some (.int 0), some (QD (q - p))])) ?_ (seq1 (s' := ([4], [some (Ld ds), some (.int k), some (.list [PQ l r, Z]), some M, some (.list [PQ r (r + (q - p)), Y]), some (.int 0), some (.int 0), some (QD (q - p))])) ?_ rfl), by grind, h5.up (by decide), (h5.add hs).up (by decide)⟩
    · simp! [ev_mix, hd, c, ev_ltake]
      rfl
    · simp! [ev_ladd]
      rfl
  · refine ⟨l - (q - p), l, some (.int 1), some (QD (q - p)), seq1 (s' := ([4], [some (Ld ds), some (.int k), some (.list [PQ l r, Z]), some M, some (.list [PQ p q, Y]), some (.int 0), some (.int 1), some (QD (q - p))])) ?_ (seq1 (s' := ([4], [some (Ld ds), some (.int k), some (.list [PQ l r, Z]), some M, some (.list [PQ (l - (q - p)) l, Y]), some (.int 0), some (.int 1), some (QD (q - p))])) ?_ rfl), by grind, (h4.sub hs).up (by decide), h4.up (by decide)⟩
    · simp! [ev_mix, hd, c, ev_ltake]
      rfl
    · simp! [ev_ltake]
      rfl
  · refine ⟨l, l + (q - p), some (.int 2), some (QD (q - p)), seq1 (s' := ([4], [some (Ld ds), some (.int k), some (.list [PQ l r, Z]), some M, some (.list [PQ p q, Y]), some (.int 0), some (.int 2), some (QD (q - p))])) ?_ (seq1 (s' := ([4], [some (Ld ds), some (.int k), some (.list [PQ l r, Z]), some M, some (.list [PQ l (l + (q - p)), Y]), some (.int 0), some (.int 2), some (QD (q - p))])) ?_ rfl), by grind, h4.up (by decide), (h4.add hs).up (by decide)⟩
    · simp! [ev_mix, hd, c, ev_ltake]
      rfl
    · simp! [ev_ladd]
      rfl
  · refine ⟨p, q, some (.int 3), some (QD (q - p)), seq1 (s' := ([4], [some (Ld ds), some (.int k), some (.list [PQ l r, Z]), some M, some (.list [PQ p q, Y]), some (.int 0), some (.int 3), some (QD (q - p))])) ?_ (seq1 (s' := ([4], [some (Ld ds), some (.int k), some (.list [PQ l r, Z]), some M, some (.list [PQ p q, Y]), some (.int 0), some (.int 3), some (QD (q - p))])) ?_ rfl), h1, h2.up (by decide), h3.up (by decide)⟩
    · simp! [ev_mix, hd, c, ev_ltake]
      rfl
    · simp! []
      rfl
  · refine ⟨p, q, some (.int 4), some (QD (q - p)), seq1 (s' := ([4], [some (Ld ds), some (.int k), some (.list [PQ l r, Z]), some M, some (.list [PQ p q, Y]), some (.int 0), some (.int 4), some (QD (q - p))])) ?_ (seq1 (s' := ([4], [some (Ld ds), some (.int k), some (.list [PQ l r, Z]), some M, some (.list [PQ p q, Y]), some (.int 0), some (.int 4), some (QD (q - p))])) ?_ rfl), h1, h2.up (by decide), h3.up (by decide)⟩
    · simp! [ev_mix, hd, c, ev_ltake]
      rfl
    · simp! []
      rfl
theorem bes1 (n : Nat) {ds : List Int} (hd : okD ds) (k : Int) (hk : 0 ≤ k) (hk2 : k < 8000) (M Y Z : PD) {l r p q : Rat} (h1 : p < q) (h2 : Sx p 6000) (h3 : Sx q 18000) (h0 : l < r) (h4 : Sx l 6000) (h5 : Sx r 18000) (x6 x7 : Option PD) :
    ∃ p' q' y6 y7, evSs (sgOf pg (n + 3)) l__law_beside_1 ([4], [some (Ld ds), some (.int k), some (.list [Z, PQ l r]), some M, some (.list [Y, PQ p q]), some (.int 1), x6, x7]) = .nx ([4], [some (Ld ds), some (.int k), some (.list [Z, PQ l r]), some M, some (.list [Y, PQ p' q']), some (.int 1), y6, y7]) ∧ p' < q' ∧ Sx p' 42000 ∧ Sx q' 42000 := by
  have A1 := h2.bd (k := 16) (by decide) (by decide)
  have A2 := h3.bd (k := 16) (by decide) (by decide)
  have A3 := h4.bd (k := 16) (by decide) (by decide)
  have A4 := h5.bd (k := 16) (by decide) (by decide)
  have hs := h3.sub h2
  have A5 := hs.bd (k := 16) (by decide) (by decide)
  unfold l__law_beside_1
  rcases mix5 ds (k + 20 + 1) with c | c | c | c | c
  · refine ⟨r, r + (q - p), some (.int 0), some (QD (q - p)), seq1 (s' := ([4], [some (Ld ds), some (.int k), some (.list [Z, PQ l r]), some M, some (.list [Y, PQ p q]), some (.int 1), some (.int 0), some (QD (q - p))])) ?_ (seq1 (s' := ([4], [some (Ld ds), some (.int k), some (.list [Z, PQ l r]), some M, some (.list [Y, PQ r (r + (q - p))]), some (.int 1), some (.int 0), some (QD (q - p))])) ?_ rfl), by grind, h5.up (by decide), (h5.add hs).up (by decide)⟩
    · simp! [ev_mix, hd, c, ev_ltake]
      rfl
    · simp! [ev_ladd]
      rfl
  · refine ⟨l - (q - p), l, some (.int 1), some (QD (q - p)), seq1 (s' := ([4], [some (Ld ds), some (.int k), some (.list [Z, PQ l r]), some M, some (.list [Y, PQ p q]), some (.int 1), some (.int 1), some (QD (q - p))])) ?_ (seq1 (s' := ([4], [some (Ld ds), some (.int k), some (.list [Z, PQ l r]), some M, some (.list [Y, PQ (l - (q - p)) l]), some (.int 1), some (.int 1), some (QD (q - p))])) ?_ rfl), by grind, (h4.sub hs).up (by decide), h4.up (by decide)⟩
    · simp! [ev_mix, hd, c, ev_ltake]
      rfl
    · simp! [ev_ltake]
      rfl
  · refine ⟨l, l + (q - p), some (.int 2), some (QD (q - p)), seq1 (s' := ([4], [some (Ld ds), some (.int k), some (.list [Z, PQ l r]), some M, some (.list [Y, PQ p q]), some (.int 1), some (.int 2), some (QD (q - p))])) ?_ (seq1 (s' := ([4], [some (Ld ds), some (.int k), some (.list [Z, PQ l r]), some M, some (.list [Y, PQ l (l + (q - p))]), some (.int 1), some (.int 2), some (QD (q - p))])) ?_ rfl), by grind, h4.up (by decide), (h4.add hs).up (by decide)⟩
    · simp! [ev_mix, hd, c, ev_ltake]
      rfl
    · simp! [ev_ladd]
      rfl
  · refine ⟨p, q, some (.int 3), some (QD (q - p)), seq1 (s' := ([4], [some (Ld ds), some (.int k), some (.list [Z, PQ l r]), some M, some (.list [Y, PQ p q]), some (.int 1), some (.int 3), some (QD (q - p))])) ?_ (seq1 (s' := ([4], [some (Ld ds), some (.int k), some (.list [Z, PQ l r]), some M, some (.list [Y, PQ p q]), some (.int 1), some (.int 3), some (QD (q - p))])) ?_ rfl), h1, h2.up (by decide), h3.up (by decide)⟩
    · simp! [ev_mix, hd, c, ev_ltake]
      rfl
    · simp! []
      rfl
  · refine ⟨p, q, some (.int 4), some (QD (q - p)), seq1 (s' := ([4], [some (Ld ds), some (.int k), some (.list [Z, PQ l r]), some M, some (.list [Y, PQ p q]), some (.int 1), some (.int 4), some (QD (q - p))])) ?_ (seq1 (s' := ([4], [some (Ld ds), some (.int k), some (.list [Z, PQ l r]), some M, some (.list [Y, PQ p q]), some (.int 1), some (.int 4), some (QD (q - p))])) ?_ rfl), h1, h2.up (by decide), h3.up (by decide)⟩
    · simp! [ev_mix, hd, c, ev_ltake]
      rfl
    · simp! []
      rfl
theorem ev_lbeside (n : Nat) {ds : List Int} (hd : okD ds) (k most : Int) (hk : 0 ≤ k) (hk2 : k < 8000) (m0 : 0 < most) (m1 : most ≤ 1000) {l b r t : Rat} (h1 : l < r) (h2 : b < t) (h3 : Sx l 6000) (h4 : Sx r 18000) (h5 : Sx b 6000) (h6 : Sx t 18000) :
    ∃ u c v w, evF pg (n + 5) i__law_beside [Ld ds, .int k, BX l b r t, .int most] = .ok (BX u c v w) ∧ u < v ∧ c < w ∧ Sx u 42000 ∧ Sx v 42000 ∧ Sx c 42000 ∧ Sx w 42000 := by
  obtain ⟨u, c, v, w, _, e, g1, g2, g3, g4, g5, g6⟩ := ev_lbox n hd k most hk hk2 m0 m1
  obtain ⟨u', v', y6, y7, f1, f2, f3, f4⟩ := bes0 (n + 1) hd k hk hk2 (.int most) (PQ c w) (PQ b t) g1 g3 g4 h1 h3 h4 none none
  obtain ⟨c', w', z6, z7, e1, e2, e3, e4⟩ := bes1 (n + 1) hd k hk hk2 (.int most) (PQ u' v') (PQ l r) g2 g5 g6 h2 h5 h6 y6 y7
  refine ⟨u', c', v', w', ?_, f2, e2, f3, f4, e3, e4⟩
  rw [u__law_beside]
  unfold b__law_beside
  refine finR (seq1 (s' := ([4], [some (Ld ds), some (.int k), some (BX l b r t), some (.int most), some (BX u c v w), none, none, none])) ?_ (seq1 (evFor (items := [.int 0, .int 1]) (W' := [4]) ?_ rfl (for_nm f1 (for_nm e1 for_nil))) (seqR rfl)))
  · simp! [e]
    rfl
  · simp! []
end k21
set_option Elab.async false
set_option linter.all false
set_option maxRecDepth 100000
set_option maxHeartbeats 4000000
set_option exponentiation.threshold 20000
namespace k21
open PySem PySem.Spec PyProof.Rows L2 Fe
theorem QDi (d : Int) : PyData.tuple [.int d, .int 1] = QD (d : Rat) := rfl
theorem ev_lcorners (n : Nat) (l b r t : Rat) : evF pg (n + 1) i__law_corners [BX l b r t] = .ok (BC l b r t) := rfl
theorem ifsT {S : Sig} {c : E} {a b : Ss} {W : List Nat} {ρ : Fe.Env} {z : SR} (h : evE S c ρ = .ok (.bool true)) (hd : Fe.dl W (pk c) = W) (h2 : evSs S a (W, ρ) = z) : evS S (.ifs c a b) (W, ρ) = z := by
  rw [evS]
  dsimp only
  rw [h, hd, ← h2]
  rfl
theorem ifsF {S : Sig} {c : E} {a b : Ss} {W : List Nat} {ρ : Fe.Env} {z : SR} (h : evE S c ρ = .ok (.bool false)) (hd : Fe.dl W (pk c) = W) (h2 : evSs S b (W, ρ) = z) : evS S (.ifs c a b) (W, ρ) = z := by
  rw [evS]
  dsimp only
  rw [h, hd, ← h2]
  rfl
section
variable {l b r t u c v w : Rat} {k : Nat} [BdQ l k] [BdQ b k] [BdQ r k] [BdQ t k] [BdQ u k] [BdQ c k] [BdQ v k] [BdQ w k]
theorem ev_lreach (n : Nat) (d e : Int) {j : Nat} [Bd d j] [Bd e j] (h : k + j ≤ 90) : evF pg (n + 4) i__law_reach [BX l b r t, DI d e] = .ok (QD (rch l b r t d e)) := by
  rw [u__law_reach]
  unfold b__law_reach rch
  by_cases c1 : 0 < d <;> by_cases c2 : 0 < e <;> simp! [c1, c2, QDi, ev_ladd, ev_ltimes]
theorem ev_lside (n : Nat) (h : k ≤ 90) : evF pg (n + 4) i__law_side_gap [PQ l r, PQ u v] = .ok (QD (sgp l r u v)) := by
  rw [u__law_side_gap]
  unfold b__law_side_gap
  have e1 : ∀ a b : Rat, (if a < b then b else a) = mx a b := fun _ _ => rfl
  simp! [t01, ev_ltake, ev_lgreatest, e1]
  rfl

variable (hk : k ≤ 40)
include hk
theorem ls0 (n : Nat) (L : List PD) (hL : L.length < 100) (x4 : Option PD) : evSs (sgOf pg (n + 4)) l__law_line_1 ([2], [some (BX l b r t), some (BX u c v w), some (.list (L)), some (DI 0 (-1)), x4]) = .nx ([2], [some (BX l b r t), some (BX u c v w), some (.list (L ++ (if w < b then [DI 0 (-1)] else []))), some (DI 0 (-1)), some (QD (rch u c v w (-0) 1))]) := by
  unfold l__law_line_1
  have z : (rch l b r t 0 (-1) + rch u c v w (-0) 1 < 0) = (w < b) := pa0
  have y : evF pg (n + 4) i__law_reach [BX l b r t, QD 0] = .ok (QD (rch l b r t 0 1)) := ev_lreach n 0 1 (j := 1) (by omega)
  refine seq1 (s' := ([2], [some (BX l b r t), some (BX u c v w), some (.list (L)), some (DI 0 (-1)), some (QD (rch u c v w (-0) 1))])) ?_ (seq1 (s' := ([2], [some (BX l b r t), some (BX u c v w), some (.list (L ++ (if w < b then [DI 0 (-1)] else []))), some (DI 0 (-1)), some (QD (rch u c v w (-0) 1))])) ?_ rfl)
  · simp! [ev_lreach]
    rfl
  · by_cases c : w < b
    · rw [if_pos c]
      refine ifsT ?_ rfl (seq1 (app_at (x := DI 0 (-1)) rfl rfl (by simp) rfl (by omega)) rfl)
      simp! [t01, ev_lreach, ev_ladd, ev_lless, y, z, c]
    · rw [if_neg c, List.append_nil]
      refine ifsF ?_ rfl rfl
      simp! [t01, ev_lreach, ev_ladd, ev_lless, y, z, c]
theorem ls1 (n : Nat) (L : List PD) (hL : L.length < 100) (x4 : Option PD) : evSs (sgOf pg (n + 4)) l__law_line_1 ([2], [some (BX l b r t), some (BX u c v w), some (.list (L)), some (DI 1 0), x4]) = .nx ([2], [some (BX l b r t), some (BX u c v w), some (.list (L ++ (if r < u then [DI 1 0] else []))), some (DI 1 0), some (QD (rch u c v w (-1) (-0)))]) := by
  unfold l__law_line_1
  have z : (rch l b r t 1 0 + rch u c v w (-1) (-0) < 0) = (r < u) := pa1
  have y : evF pg (n + 4) i__law_reach [BX l b r t, QD 0] = .ok (QD (rch l b r t 0 1)) := ev_lreach n 0 1 (j := 1) (by omega)
  refine seq1 (s' := ([2], [some (BX l b r t), some (BX u c v w), some (.list (L)), some (DI 1 0), some (QD (rch u c v w (-1) (-0)))])) ?_ (seq1 (s' := ([2], [some (BX l b r t), some (BX u c v w), some (.list (L ++ (if r < u then [DI 1 0] else []))), some (DI 1 0), some (QD (rch u c v w (-1) (-0)))])) ?_ rfl)
  · simp! [ev_lreach]
    rfl
  · by_cases c : r < u
    · rw [if_pos c]
      refine ifsT ?_ rfl (seq1 (app_at (x := DI 1 0) rfl rfl (by simp) rfl (by omega)) rfl)
      simp! [t01, ev_lreach, ev_ladd, ev_lless, y, z, c]
    · rw [if_neg c, List.append_nil]
      refine ifsF ?_ rfl rfl
      simp! [t01, ev_lreach, ev_ladd, ev_lless, y, z, c]
theorem ls2 (n : Nat) (L : List PD) (hL : L.length < 100) (x4 : Option PD) : evSs (sgOf pg (n + 4)) l__law_line_1 ([2], [some (BX l b r t), some (BX u c v w), some (.list (L)), some (DI 0 1), x4]) = .nx ([2], [some (BX l b r t), some (BX u c v w), some (.list (L ++ (if t < c then [DI 0 1] else []))), some (DI 0 1), some (QD (rch u c v w (-0) (-1)))]) := by
  unfold l__law_line_1
  have z : (rch l b r t 0 1 + rch u c v w (-0) (-1) < 0) = (t < c) := pa2
  have y : evF pg (n + 4) i__law_reach [BX l b r t, QD 0] = .ok (QD (rch l b r t 0 1)) := ev_lreach n 0 1 (j := 1) (by omega)
  refine seq1 (s' := ([2], [some (BX l b r t), some (BX u c v w), some (.list (L)), some (DI 0 1), some (QD (rch u c v w (-0) (-1)))])) ?_ (seq1 (s' := ([2], [some (BX l b r t), some (BX u c v w), some (.list (L ++ (if t < c then [DI 0 1] else []))), some (DI 0 1), some (QD (rch u c v w (-0) (-1)))])) ?_ rfl)
  · simp! [ev_lreach]
    rfl
  · by_cases c : t < c
    · rw [if_pos c]
      refine ifsT ?_ rfl (seq1 (app_at (x := DI 0 1) rfl rfl (by simp) rfl (by omega)) rfl)
      simp! [t01, ev_lreach, ev_ladd, ev_lless, y, z, c]
    · rw [if_neg c, List.append_nil]
      refine ifsF ?_ rfl rfl
      simp! [t01, ev_lreach, ev_ladd, ev_lless, y, z, c]
theorem ls3 (n : Nat) (L : List PD) (hL : L.length < 100) (x4 : Option PD) : evSs (sgOf pg (n + 4)) l__law_line_1 ([2], [some (BX l b r t), some (BX u c v w), some (.list (L)), some (DI (-1) 0), x4]) = .nx ([2], [some (BX l b r t), some (BX u c v w), some (.list (L ++ (if v < l then [DI (-1) 0] else []))), some (DI (-1) 0), some (QD (rch u c v w 1 (-0)))]) := by
  unfold l__law_line_1
  have z : (rch l b r t (-1) 0 + rch u c v w 1 (-0) < 0) = (v < l) := pa3
  have y : evF pg (n + 4) i__law_reach [BX l b r t, QD 0] = .ok (QD (rch l b r t 0 1)) := ev_lreach n 0 1 (j := 1) (by omega)
  refine seq1 (s' := ([2], [some (BX l b r t), some (BX u c v w), some (.list (L)), some (DI (-1) 0), some (QD (rch u c v w 1 (-0)))])) ?_ (seq1 (s' := ([2], [some (BX l b r t), some (BX u c v w), some (.list (L ++ (if v < l then [DI (-1) 0] else []))), some (DI (-1) 0), some (QD (rch u c v w 1 (-0)))])) ?_ rfl)
  · simp! [ev_lreach]
    rfl
  · by_cases c : v < l
    · rw [if_pos c]
      refine ifsT ?_ rfl (seq1 (app_at (x := DI (-1) 0) rfl rfl (by simp) rfl (by omega)) rfl)
      simp! [t01, ev_lreach, ev_ladd, ev_lless, y, z, c]
    · rw [if_neg c, List.append_nil]
      refine ifsF ?_ rfl rfl
      simp! [t01, ev_lreach, ev_ladd, ev_lless, y, z, c]
theorem ev_lline (n : Nat) : evF pg (n + 5) i__law_line [BX l b r t, BX u c v w] = .ok (OLn (lin l b r t u c v w)) := by
  rw [u__law_line]
  unfold b__law_line
  have h0 := ls0 (l := l) (b := b) (r := r) (t := t) (u := u) (c := c) (v := v) (w := w) hk n [] (by simp) none
  have h1 := fun L hL x4 => ls1 (l := l) (b := b) (r := r) (t := t) (u := u) (c := c) (v := v) (w := w) hk n L hL x4
  have h2 := fun L hL x4 => ls2 (l := l) (b := b) (r := r) (t := t) (u := u) (c := c) (v := v) (w := w) hk n L hL x4
  have h3 := fun L hL x4 => ls3 (l := l) (b := b) (r := r) (t := t) (u := u) (c := c) (v := v) (w := w) hk n L hL x4
  have len : ∀ (p : Prop) [Decidable p] (d : PD), (if p then [d] else []).length ≤ 1 := fun p _ d => by split <;> simp
  have n0 := len (w < b) (DI 0 (-1))
  have n1 := len (r < u) (DI 1 0)
  have n2 := len (t < c) (DI 0 1)
  refine finR (seq1 (s' := ([2], [some (BX l b r t), some (BX u c v w), some (.list ([])), none, none])) rfl (seq1 (evFor (items := [DI 0 (-1), DI 1 0, DI 0 1, DI (-1) 0]) (W' := [2]) rfl rfl (for_nm h0 (for_nm (h1 _ (by simp only [List.length_append, List.length_nil]; omega) _) (for_nm (h2 _ (by simp only [List.length_append, List.length_nil]; omega) _) (for_nm (h3 _ (by simp only [List.length_append, List.length_nil]; omega) _) for_nil))))) (seqR ?_)))
  unfold lin
  by_cases c0 : w < b <;> by_cases c1 : r < u <;> by_cases c2 : t < c <;> by_cases c3 : v < l <;> simp only [c0, c1, c2, c3, if_true, if_false] <;> rfl
end
end k21
set_option Elab.async false
set_option linter.all false
set_option maxRecDepth 100000
set_option maxHeartbeats 4000000
set_option exponentiation.threshold 20000
namespace k21
open PySem PySem.Spec PyProof.Rows L2 Fe
/-! ### when the law has one come -/
def OP : Option (Rat × Rat) → PD
  | none => .none
  | some p => PQ p.1 p.2
def chk2 (p : Rat × Rat) : Option (Rat × Rat) := if p.2 < p.1 then none else some p
def ax (L R s : Rat) : Option (Rat × Rat) := if s = 0 then (if 0 < L ∨ R < 0 then none else some (0, 1)) else if 0 < s then some (mx (L / s) 0, mnn (R / s) 1) else some (mx (R / s) 0, mnn (L / s) 1)
def told (L R s : Rat) : Option (Rat × Rat) := (ax L R s).bind chk2
theorem div_lt {a b s : Rat} (h : a < b) (hs : 0 < s) : a / s < b / s := by
  rw [Rat.div_def, Rat.div_def]
  exact Rat.mul_lt_mul_of_pos_right h (Rat.inv_pos.mpr hs)
theorem div_gt {a b s : Rat} (h : a < b) (hs : s < 0) : b / s < a / s := by
  have h1 : 0 < -s := by grind
  have h2 := div_lt h h1
  have e : ∀ x : Rat, x / -s = -(x / s) := fun x => by
    have : s ≠ 0 := by grind
    grind
  rw [e, e] at h2
  grind
section
variable {l r u v : Rat} {k : Nat} [BdQ l k] [BdQ r k] [BdQ u k] [BdQ v k] (hl : l < r) (hu : u < v) (hk : k ≤ 20)
include hl hu hk
theorem sgp0 : (sgp l r u v = 0) = ¬ (0 < u - r ∨ v - l < 0) := by
  unfold sgp mx
  apply propext
  constructor
  · intro h
    grind
  · intro h
    grind
theorem ev_told (n : Nat) (s : Rat) {j : Nat} [BdQ s j] (hj : j ≤ 20) : evF pg (n + 5) i__law_times_told [PQ l r, PQ u v, QD s] = .ok (OP (told (u - r) (v - l) s)) := by
  rw [u__law_times_told]
  unfold b__law_times_told told ax
  have e1 : ∀ a b : Rat, (if a < b then b else a) = mx a b := fun _ _ => rfl
  have e2 : ∀ a b : Rat, (if b < a then b else a) = mnn a b := fun _ _ => rfl
  have bm1 : ∀ a b : Rat, BdQ a (k + k + 1 + j) → BdQ b 1 → BdQ (mx a b) (k + k + 1 + j) := fun a b A B => by
    rcases mx_or a b with q | q <;> rw [q]
    · exact A
    · exact B.up (by omega)
  have bm2 : ∀ a b : Rat, BdQ a (k + k + 1 + j) → BdQ b 1 → BdQ (mnn a b) (k + k + 1 + j) := fun a b A B => by
    rcases mnn_or a b with q | q <;> rw [q]
    · exact A
    · exact B.up (by omega)
  by_cases c : s = 0
  · rw [if_pos c]
    have z := sgp0 hl hu hk
    by_cases c2 : 0 < u - r ∨ v - l < 0
    · have c3 : ¬ sgp l r u v = 0 := by rw [z]; exact fun h => h c2
      rw [if_pos c2]
      simp! [t01, t11, c, ev_lside, c3]
      rfl
    · have c3 : sgp l r u v = 0 := by rw [z]; exact c2
      rw [if_neg c2]
      simp! [t01, t11, c, ev_lside, c3]
      rfl
  · rw [if_neg c]
    have hlr : u - r < v - l := by grind
    by_cases c1 : 0 < s
    · rw [if_pos c1]
      have c2 : ¬ ((v - l) / s < (u - r) / s) := by have := div_lt hlr c1; grind
      have A := bm1 ((u - r) / s) 0 inferInstance inferInstance
      have B := bm2 ((v - l) / s) 1 inferInstance inferInstance
      by_cases c3 : mnn ((v - l) / s) 1 < mx ((u - r) / s) 0
      · have q : chk2 (mx ((u - r) / s) 0, mnn ((v - l) / s) 1) = none := if_pos c3
        simp! [t01, t11, c, ev_ltake, ev_lover, ev_lless, c2, ev_lgreatest, ev_lleast, e1, e2, c3, Option.bind_some, q]
        rfl
      · have q : chk2 (mx ((u - r) / s) 0, mnn ((v - l) / s) 1) = some _ := if_neg c3
        simp! [t01, t11, c, ev_ltake, ev_lover, ev_lless, c2, ev_lgreatest, ev_lleast, e1, e2, c3, Option.bind_some, q]
        rfl
    · rw [if_neg c1]
      have c2 : (v - l) / s < (u - r) / s := div_gt hlr (by grind)
      have A := bm1 ((v - l) / s) 0 inferInstance inferInstance
      have B := bm2 ((u - r) / s) 1 inferInstance inferInstance
      by_cases c3 : mnn ((u - r) / s) 1 < mx ((v - l) / s) 0
      · have q : chk2 (mx ((v - l) / s) 0, mnn ((u - r) / s) 1) = none := if_pos c3
        simp! [t01, t11, c, ev_ltake, ev_lover, ev_lless, c2, ev_lgreatest, ev_lleast, e1, e2, c3, Option.bind_some, q]
        rfl
      · have q : chk2 (mx ((v - l) / s) 0, mnn ((u - r) / s) 1) = some _ := if_neg c3
        simp! [t01, t11, c, ev_ltake, ev_lover, ev_lless, c2, ev_lgreatest, ev_lleast, e1, e2, c3, Option.bind_some, q]
        rfl
end
/-! ### both sides -/
def both (p q : Option (Rat × Rat)) : Option Rat := match p, q with
  | some a, some b => if mnn a.2 b.2 < mx a.1 b.1 then none else some (mx a.1 b.1)
  | _, _ => none
theorem isNOP (o : Option (Rat × Rat)) : (OP o = .none) = (o = none) := by
  cases o with
  | none => simp [OP]
  | some a => apply propext; constructor <;> intro h <;> cases h
section
variable {l b r t u c v w : Rat} {k : Nat} [BdQ l k] [BdQ b k] [BdQ r k] [BdQ t k] [BdQ u k] [BdQ c k] [BdQ v k] [BdQ w k] (hl : l < r) (hb : b < t) (hu : u < v) (hc : c < w) (hk : k ≤ 20)
include hl hb hu hc hk
theorem ax_bd (n : Nat) {l r u v s : Rat} {j : Nat} [BdQ l k] [BdQ r k] [BdQ u k] [BdQ v k] [BdQ s j] {p : Rat × Rat} (h : told (u - r) (v - l) s = some p) : BdQ p.1 (k + k + 1 + j) ∧ BdQ p.2 (k + k + 1 + j) := by
  have bm1 : ∀ a b : Rat, BdQ a (k + k + 1 + j) → BdQ b 1 → BdQ (mx a b) (k + k + 1 + j) := fun a b A B => by
    rcases mx_or a b with q | q <;> rw [q]
    · exact A
    · exact B.up (by omega)
  have bm2 : ∀ a b : Rat, BdQ a (k + k + 1 + j) → BdQ b 1 → BdQ (mnn a b) (k + k + 1 + j) := fun a b A B => by
    rcases mnn_or a b with q | q <;> rw [q]
    · exact A
    · exact B.up (by omega)
  unfold told at h
  cases e : ax (u - r) (v - l) s with
  | none => rw [e] at h; cases h
  | some q =>
    rw [e] at h
    have h : chk2 q = some p := h
    unfold chk2 at h
    split at h
    · cases h
    · cases h
      unfold ax at e
      split at e
      · split at e
        · cases e
        · cases e
          exact ⟨(inferInstance : BdQ (0 : Rat) 1).up (by omega), (inferInstance : BdQ (1 : Rat) 1).up (by omega)⟩
      · split at e
        · cases e
          exact ⟨bm1 _ _ inferInstance inferInstance, bm2 _ _ inferInstance inferInstance⟩
        · cases e
          exact ⟨bm1 _ _ inferInstance inferInstance, bm2 _ _ inferInstance inferInstance⟩
theorem ev_lcomes (n : Nat) (sx sy : Rat) {j : Nat} [BdQ sx j] [BdQ sy j] (hj : j ≤ 20) : evF pg (n + 6) i__law_comes [BX l b r t, BX u c v w, .list [QD sx, QD sy]] = .ok (OQ (both (told (u - r) (v - l) sx) (told (c - t) (w - b) sy))) := by
  rw [u__law_comes]
  unfold b__law_comes
  have h1 := ev_told hl hu hk n sx hj
  have h2 := ev_told hb hc hk n sy hj
  have e1 : ∀ a b : Rat, (if a < b then b else a) = mx a b := fun _ _ => rfl
  have e2 : ∀ a b : Rat, (if b < a then b else a) = mnn a b := fun _ _ => rfl
  refine finR (seq1 (s' := ([], [some (BX l b r t), some (BX u c v w), some (.list [QD sx, QD sy]), some (.list [OP (told (u - r) (v - l) sx), OP (told (c - t) (w - b) sy)]), none, none, none])) ?_ ?_)
  · simp! [h1, h2]
  · have hp : ∀ p, told (u - r) (v - l) sx = some p → BdQ p.1 (k + k + 1 + j) ∧ BdQ p.2 (k + k + 1 + j) := fun p h => ax_bd hl hb hu hc hk n h
    have hq : ∀ p, told (c - t) (w - b) sy = some p → BdQ p.1 (k + k + 1 + j) ∧ BdQ p.2 (k + k + 1 + j) := fun p h => ax_bd hl hb hu hc hk n h
    generalize told (u - r) (v - l) sx = p at *
    generalize told (c - t) (w - b) sy = q at *
    cases p with
    | none => cases q <;> rfl
    | some p =>
      cases q with
      | none => rfl
      | some q =>
        obtain ⟨p1, p2⟩ := hp p rfl
        obtain ⟨q1, q2⟩ := hq q rfl
        have m1 : BdQ (mx p.1 q.1) (k + k + 1 + j) := by rcases mx_or p.1 q.1 with z | z <;> rw [z] <;> assumption
        have m2 : BdQ (mnn p.2 q.2) (k + k + 1 + j) := by rcases mnn_or p.2 q.2 with z | z <;> rw [z] <;> assumption
        have n0 : ∀ x : Rat × Rat, evE (sgOf pg (n + 5)) (.isN (.ix (.var 3) (.int 0))) [] = evE (sgOf pg (n + 5)) (.isN (.ix (.var 3) (.int 0))) [] := fun _ => rfl
        unfold both OP
        by_cases c3 : mnn p.2 q.2 < mx p.1 q.1
        · simp! [ev_lgreatest, ev_lleast, e1, e2, ev_lless, c3]
          rfl
        · simp! [ev_lgreatest, ev_lleast, e1, e2, ev_lless, c3]
          rfl
end
end k21
set_option Elab.async false
set_option linter.all false
set_option maxRecDepth 100000
set_option maxHeartbeats 4000000
namespace k21
open PySem PySem.Spec PyProof.Rows L2 Fe
theorem cst_z {h g : Rat} {fl : Rat × Rat} (hg : g = 0) : cst h g fl = if h < 0 then none else some fl := by unfold cst; rw [if_pos hg]
theorem cst_p {h g : Rat} {fl : Rat × Rat} (hg : 0 < g) : cst h g fl = some (mx fl.1 ((0 - h) / g), fl.2) := by
  unfold cst
  rw [if_neg (by grind), if_pos hg]
theorem cst_n {h g : Rat} {fl : Rat × Rat} (hg : g < 0) : cst h g fl = some (fl.1, mnn fl.2 ((0 - h) / g)) := by
  unfold cst
  rw [if_neg (by grind), if_neg (by grind)]
/-- the lower edge L, at the size D > 0 -/
theorem lo_z {D L s : Rat} {fl : Rat × Rat} (hD : 0 < D) (hs : s = 0) : cst (D * (0 - L)) (D * s) fl = if 0 < L then none else some fl := by
  rw [cst_z (by rw [hs]; grind)]
  have : (D * (0 - L) < 0) = (0 < L) := by
    apply propext
    constructor
    · intro h
      by_cases c : 0 < L
      · exact c
      · have := Rat.mul_nonneg (Rat.le_of_lt hD) (show (0 : Rat) ≤ 0 - L by grind)
        grind
    · intro h
      have := Rat.mul_pos hD h
      grind
  simp only [this]
theorem lo_p {D L s : Rat} {fl : Rat × Rat} (hD : 0 < D) (hs : 0 < s) : cst (D * (0 - L)) (D * s) fl = some (mx fl.1 (L / s), fl.2) := by
  rw [cst_p (Rat.mul_pos hD hs)]
  have : (0 - D * (0 - L)) / (D * s) = L / s := by
    have h1 : D ≠ 0 := by grind
    have h2 : s ≠ 0 := by grind
    grind
  rw [this]
theorem lo_n {D L s : Rat} {fl : Rat × Rat} (hD : 0 < D) (hs : s < 0) : cst (D * (0 - L)) (D * s) fl = some (fl.1, mnn fl.2 (L / s)) := by
  have hp := Rat.mul_pos hD (show 0 < -s by grind)
  rw [cst_n (by grind)]
  have : (0 - D * (0 - L)) / (D * s) = L / s := by
    have h1 : D ≠ 0 := by grind
    have h2 : s ≠ 0 := by grind
    grind
  rw [this]
theorem hi_z {D R s : Rat} {fl : Rat × Rat} (hD : 0 < D) (hs : s = 0) : cst (D * R) (D * (0 - s)) fl = if R < 0 then none else some fl := by
  have e : D * R = D * (0 - (-R)) := by grind
  rw [e, lo_z hD (by grind)]
  have : (0 < -R) = (R < 0) := by apply propext; constructor <;> intro h <;> grind
  simp only [this]
theorem hi_p {D R s : Rat} {fl : Rat × Rat} (hD : 0 < D) (hs : 0 < s) : cst (D * R) (D * (0 - s)) fl = some (fl.1, mnn fl.2 (R / s)) := by
  have e : D * R = D * (0 - (-R)) := by grind
  rw [e, lo_n hD (by grind)]
  have : -R / (0 - s) = R / s := by
    have h2 : s ≠ 0 := by grind
    grind
  rw [this]
theorem hi_n {D R s : Rat} {fl : Rat × Rat} (hD : 0 < D) (hs : s < 0) : cst (D * R) (D * (0 - s)) fl = some (mx fl.1 (R / s), fl.2) := by
  have e : D * R = D * (0 - (-R)) := by grind
  rw [e, lo_p hD (by grind)]
  have : -R / (0 - s) = R / s := by
    have h2 : s ≠ 0 := by grind
    grind
  rw [this]
/-- the order of the four turns does not matter -/
theorem fin4 (p q p' q' : Rat) : cEnd (some (mx (mx 0 p) q, mnn (mnn 1 p') q')) = both ((some (mx p 0, mnn p' 1)).bind chk2) ((some (mx q 0, mnn q' 1)).bind chk2) := by
  have e1 : mx (mx p 0) (mx q 0) = mx (mx 0 p) q := by unfold mx; grind
  have e2 : mnn (mnn p' 1) (mnn q' 1) = mnn (mnn 1 p') q' := by unfold mnn; grind
  have a1 : mx p 0 ≤ mx (mx 0 p) q := by unfold mx; grind
  have a2 : mx q 0 ≤ mx (mx 0 p) q := by unfold mx; grind
  have a3 : mnn (mnn 1 p') q' ≤ mnn p' 1 := by unfold mnn; grind
  have a4 : mnn (mnn 1 p') q' ≤ mnn q' 1 := by unfold mnn; grind
  simp only [Option.bind_some, chk2, cEnd]
  by_cases c1 : mnn p' 1 < mx p 0
  · rw [if_pos c1, if_pos (by grind)]
    rfl
  · rw [if_neg c1]
    by_cases c2 : mnn q' 1 < mx q 0
    · rw [if_pos c2, if_pos (by grind)]
      rfl
    · rw [if_neg c2]
      simp only [both, e1, e2]
theorem fin2 (p p' : Rat) : cEnd (some (mx 0 p, mnn 1 p')) = both ((some (mx p 0, mnn p' 1)).bind chk2) ((some ((0 : Rat), (1 : Rat))).bind chk2) := by
  have e1 : mx (mx p 0) 0 = mx 0 p := by unfold mx; grind
  have e2 : mnn (mnn p' 1) 1 = mnn 1 p' := by unfold mnn; grind
  have e3 : mx p 0 = mx 0 p := by unfold mx; grind
  have e4 : mnn p' 1 = mnn 1 p' := by unfold mnn; grind
  have c : ¬ ((1 : Rat) < 0) := by decide
  simp only [Option.bind_some, chk2, cEnd, c, if_false]
  by_cases c1 : mnn 1 p' < mx 0 p
  · rw [if_pos c1, if_pos (by rw [e3, e4]; exact c1)]
    rfl
  · rw [if_neg c1, if_neg (by rw [e3, e4]; exact c1)]
    simp only [both, e1, e2, c1, if_false]
theorem fin2' (p p' : Rat) : cEnd (some (mx 0 p, mnn 1 p')) = both ((some ((0 : Rat), (1 : Rat))).bind chk2) ((some (mx p 0, mnn p' 1)).bind chk2) := by
  have e1 : mx 0 (mx p 0) = mx 0 p := by unfold mx; grind
  have e2 : mnn 1 (mnn p' 1) = mnn 1 p' := by unfold mnn; grind
  have e3 : mx p 0 = mx 0 p := by unfold mx; grind
  have e4 : mnn p' 1 = mnn 1 p' := by unfold mnn; grind
  have c : ¬ ((1 : Rat) < 0) := by decide
  simp only [Option.bind_some, chk2, cEnd, c, if_false]
  by_cases c1 : mnn 1 p' < mx 0 p
  · rw [if_pos c1, if_pos (by rw [e3, e4]; exact c1)]
    rfl
  · rw [if_neg c1, if_neg (by rw [e3, e4]; exact c1)]
    simp only [both, e1, e2, c1, if_false]
theorem both_n (p : Option (Rat × Rat)) : both none p = none := rfl
theorem both_n' (p : Option (Rat × Rat)) : both p none = none := by cases p <;> rfl
theorem fin4g {p q p' q' F G : Rat} (hF : F = mx (mx 0 p) q) (hG : G = mnn (mnn 1 p') q') : cEnd (some (F, G)) = both ((some (mx p 0, mnn p' 1)).bind chk2) ((some (mx q 0, mnn q' 1)).bind chk2) := by
  rw [hF, hG]
  exact fin4 p q p' q'
theorem mx3 (a b c : Rat) : mx (mx a b) c = mx (mx a c) b := by unfold mx; grind
theorem mnn3 (a b c : Rat) : mnn (mnn a b) c = mnn (mnn a c) b := by unfold mnn; grind
theorem comes_law {L B R T sx sy : Rat} (hx : L < R) (hy : B < T) : cEnd (cs4 L B R T sx sy) = both (told L R sx) (told B T sy) := by
  have dx : 0 < R - L := by grind
  have dy : 0 < T - B := by grind
  unfold cs4 told ax
  have zz : ¬ ((1 : Rat) < 0) := by decide
  have cz : cEnd (some ((0 : Rat), (1 : Rat))) = some 0 := by show (if (1 : Rat) < 0 then none else some (0 : Rat)) = some 0; rw [if_neg zz]
  have bz : both ((some ((0 : Rat), (1 : Rat))).bind chk2) ((some ((0 : Rat), (1 : Rat))).bind chk2) = some 0 := by simp only [Option.bind_some, chk2, zz, if_false]; rfl
  have bn : (none : Option (Rat × Rat)).bind chk2 = none := rfl
  have nb : ∀ f : Rat × Rat → Option (Rat × Rat), (none : Option (Rat × Rat)).bind f = none := fun _ => rfl
  have cn : cEnd none = none := rfl
  have tri : ∀ s : Rat, s < 0 ∨ s = 0 ∨ 0 < s := fun s => by grind
  rcases tri sx with h | h | h <;> rcases tri sy with g | g | g
  · have p1 : ¬ sx = 0 := by grind
    have p2 : ¬ 0 < sx := by grind
    have q1 : ¬ sy = 0 := by grind
    have q2 : ¬ 0 < sy := by grind
    simp only [lo_n dy h, hi_n dy h, lo_n dx g, hi_n dx g, Option.bind_some, if_neg p1, if_neg p2, if_neg q1, if_neg q2]
    refine fin4g (p := (R / sx)) (q := (T / sy)) (p' := (L / sx)) (q' := (B / sy)) ?_ ?_ <;> first | rfl | exact mx3 _ _ _ | exact mnn3 _ _ _
  · have p1 : ¬ sx = 0 := by grind
    have p2 : ¬ 0 < sx := by grind
    skip
    by_cases w1 : 0 < B
    all_goals by_cases w2 : T < 0
    all_goals simp only [lo_n dy h, hi_n dy h, lo_z dx g, hi_z dx g, Option.bind_some, if_neg p1, if_neg p2, if_pos g, w1, w2, true_or, or_true, or_self, if_false, if_true, bn, nb, cn, both_n, both_n']
    exact fin2 (R / sx) (L / sx)
  · have p1 : ¬ sx = 0 := by grind
    have p2 : ¬ 0 < sx := by grind
    have q1 : ¬ sy = 0 := by grind
    simp only [lo_n dy h, hi_n dy h, lo_p dx g, hi_p dx g, Option.bind_some, if_neg p1, if_neg p2, if_neg q1, if_pos g]
    refine fin4g (p := (R / sx)) (q := (B / sy)) (p' := (L / sx)) (q' := (T / sy)) ?_ ?_ <;> first | rfl | exact mx3 _ _ _ | exact mnn3 _ _ _
  · skip
    have q1 : ¬ sy = 0 := by grind
    have q2 : ¬ 0 < sy := by grind
    by_cases u1 : 0 < L <;> by_cases u2 : R < 0
    all_goals simp only [lo_z dy h, hi_z dy h, lo_n dx g, hi_n dx g, Option.bind_some, if_pos h, if_neg q1, if_neg q2, u1, u2, true_or, or_true, or_self, if_false, if_true, bn, nb, cn, both_n, both_n']
    exact fin2' (T / sy) (B / sy)
  · skip
    skip
    by_cases u1 : 0 < L <;> by_cases u2 : R < 0
    all_goals by_cases w1 : 0 < B
    all_goals by_cases w2 : T < 0
    all_goals simp only [lo_z dy h, hi_z dy h, lo_z dx g, hi_z dx g, Option.bind_some, if_pos h, if_pos g, u1, u2, w1, w2, true_or, or_true, or_self, if_false, if_true, bn, nb, cn, both_n, both_n', cz]
    all_goals exact bz.symm
  · skip
    have q1 : ¬ sy = 0 := by grind
    by_cases u1 : 0 < L <;> by_cases u2 : R < 0
    all_goals simp only [lo_z dy h, hi_z dy h, lo_p dx g, hi_p dx g, Option.bind_some, if_pos h, if_neg q1, if_pos g, u1, u2, true_or, or_true, or_self, if_false, if_true, bn, nb, cn, both_n, both_n']
    exact fin2' (B / sy) (T / sy)
  · have p1 : ¬ sx = 0 := by grind
    have q1 : ¬ sy = 0 := by grind
    have q2 : ¬ 0 < sy := by grind
    simp only [lo_p dy h, hi_p dy h, lo_n dx g, hi_n dx g, Option.bind_some, if_neg p1, if_pos h, if_neg q1, if_neg q2]
    refine fin4g (p := (L / sx)) (q := (T / sy)) (p' := (R / sx)) (q' := (B / sy)) ?_ ?_ <;> first | rfl | exact mx3 _ _ _ | exact mnn3 _ _ _
  · have p1 : ¬ sx = 0 := by grind
    skip
    by_cases w1 : 0 < B
    all_goals by_cases w2 : T < 0
    all_goals simp only [lo_p dy h, hi_p dy h, lo_z dx g, hi_z dx g, Option.bind_some, if_neg p1, if_pos h, if_pos g, w1, w2, true_or, or_true, or_self, if_false, if_true, bn, nb, cn, both_n, both_n']
    exact fin2 (L / sx) (R / sx)
  · have p1 : ¬ sx = 0 := by grind
    have q1 : ¬ sy = 0 := by grind
    simp only [lo_p dy h, hi_p dy h, lo_p dx g, hi_p dx g, Option.bind_some, if_neg p1, if_pos h, if_neg q1, if_pos g]
    refine fin4g (p := (L / sx)) (q := (B / sy)) (p' := (R / sx)) (q' := (T / sy)) ?_ ?_ <;> first | rfl | exact mx3 _ _ _ | exact mnn3 _ _ _
end k21
set_option Elab.async false
set_option linter.all false
set_option maxRecDepth 100000
set_option maxHeartbeats 4000000
set_option exponentiation.threshold 20000
namespace k21
open PySem PySem.Spec PyProof.Rows L2 Fe
theorem p17 : PyData.tuple [.int 1, .int 7] = QD (1 / 7) := by
  have := QD_eq (n := 1) (d := 7) (by decide) (by decide)
  have e1 : ((1 : Int) : Rat) = 1 := rfl
  have e7 : ((7 : Int) : Rat) = 7 := rfl
  rw [e1, e7] at this
  exact this
def sd (p lo hi : Rat) : Int := if sgn (hi - p) < sgn (p - lo) then sgn (hi - p) else sgn (p - lo)
theorem sgn0 {x : Rat} (h : x = 0) : sgn x = 0 := by rw [h]; rfl
/-! ### a place by the box -/
theorem plc0 (n : Nat) {ds : List Int} (hd : okD ds) (k : Int) (hk : 0 ≤ k) (hk2 : k < 8000) (Z : PD) {lo hi : Rat} {m : Nat} [BdQ lo m] [BdQ hi m] (h : lo < hi) (hm : m ≤ 20) (L S : List PD) (hL : L.length < 100) (hS : S.length < 100) (x6 x7 x8 x9 : Option PD) :
    ∃ p y6 y7 y8 y9, evSs (sgOf pg (n + 3)) l__law_place_1 ([4, 3], [some (Ld ds), some (.int k), some (.list [PQ lo hi, Z]), some (.list (L)), some (.list (S)), some (.int 0), x6, x7, x8, x9]) = .nx ([4, 3], [some (Ld ds), some (.int k), some (.list [PQ lo hi, Z]), some (.list (L ++ [QD p])), some (.list (S ++ [.int (sd p lo hi)])), some (.int 0), y6, y7, y8, y9]) ∧ BdQ p 60 := by
  have a0 := mix0 ds (k + 2 + 0) 9
  have a1 := mixL ds (k + 2 + 0) 9 (by decide)
  have BM : Bd (1 + mixF ds (k + 2 + 0) 9) 5 := Bd.of 5 (show _ ≤ 9 by omega) (by decide)
  have hB : (0 : Rat) < ((1 + mixF ds (k + 2 + 0) 9 : Int) : Rat) := by
    have : ((0 : Int) : Rat) < ((1 + mixF ds (k + 2 + 0) 9 : Int) : Rat) := Rat.intCast_lt_intCast.mpr (by omega)
    exact this
  have key : ∀ (c : Int) (p : Rat) (s : Int), mixF ds (k + 0) 5 = c → BdQ p 60 → sd p lo hi = s → ixV (.list [QD lo, QD hi, QD ((lo + hi) * (1 / 2)), QD (lo - 1 / 7), QD (hi + ((1 + mixF ds (k + 2 + 0) 9 : Int) : Rat))]) (.int c) = .ok (QD p) → ixV (.list [.int 0, .int 0, .int 1, .int (-1), .int (-1)]) (.int c) = .ok (.int s) →
      ∃ p y6 y7 y8 y9, evSs (sgOf pg (n + 3)) l__law_place_1 ([4, 3], [some (Ld ds), some (.int k), some (.list [PQ lo hi, Z]), some (.list (L)), some (.list (S)), some (.int 0), x6, x7, x8, x9]) = .nx ([4, 3], [some (Ld ds), some (.int k), some (.list [PQ lo hi, Z]), some (.list (L ++ [QD p])), some (.list (S ++ [.int (sd p lo hi)])), some (.int 0), y6, y7, y8, y9]) ∧ BdQ p 60 := fun c p s hc bp hs i1 i2 => by
    refine ⟨p, some (QD lo), some (QD hi), some (QD ((lo + hi) * (1 / 2))), some (.int c), ?_, bp⟩
    rw [hs]
    unfold l__law_place_1
    refine seq1 (s' := ([4, 3], [some (Ld ds), some (.int k), some (.list [PQ lo hi, Z]), some (.list (L)), some (.list (S)), some (.int 0), some (QD lo), some (QD hi), x8, x9])) ?_ (seq1 (s' := ([4, 3], [some (Ld ds), some (.int k), some (.list [PQ lo hi, Z]), some (.list (L)), some (.list (S)), some (.int 0), some (QD lo), some (QD hi), some (QD ((lo + hi) * (1 / 2))), x9])) ?_ (seq1 (s' := ([4, 3], [some (Ld ds), some (.int k), some (.list [PQ lo hi, Z]), some (.list (L)), some (.list (S)), some (.int 0), some (QD lo), some (QD hi), some (QD ((lo + hi) * (1 / 2))), some (.int c)])) ?_ (seq1 (app_at (x := QD p) ?_ rfl (by simp) rfl (by omega)) (seq1 (app_at (x := .int s) ?_ rfl (by simp) rfl (by omega)) rfl))))
    · simp! []
      rfl
    · simp! [half, ev_ladd, ev_ltimes]
      rfl
    · simp! [ev_mix, hd, hc]
      rfl
    · simp! [p17, ev_ltake, ev_ladd, ev_mix, hd, QDi, i1]
    · show (ixV (.list [.int 0, .int 0, .int 1, .int (-1), .int (-1)]) (.int c) : R PD) = _
      rw [i2]
  have s1 : ∀ x : Rat, 0 < x → sgn x = 1 := fun x hx => by unfold sgn; rw [if_pos hx] <;> grind
  have s2 : ∀ x : Rat, x < 0 → sgn x = -1 := fun x hx => by unfold sgn; grind
  rcases mix5 ds (k + 0) with c | c | c | c | c
  · refine key 0 lo 0 c ((inferInstance : BdQ lo m).up (by omega)) ?_ rfl rfl
    unfold sd
    rw [s1 (hi - lo) (by grind), sgn0 (show lo - lo = 0 by grind)]
    rfl
  · refine key 1 hi 0 c ((inferInstance : BdQ hi m).up (by omega)) ?_ rfl rfl
    unfold sd
    rw [s1 (hi - lo) (by grind), sgn0 (show hi - hi = 0 by grind)]
    rfl
  · refine key 2 ((lo + hi) * (1 / 2)) 1 c ((inferInstance : BdQ ((lo + hi) * (1 / 2)) _).up (by omega)) ?_ rfl rfl
    unfold sd
    rw [s1 (hi - (lo + hi) * (1 / 2)) (by grind), s1 ((lo + hi) * (1 / 2) - lo) (by grind)]
    rfl
  · refine key 3 (lo - 1 / 7) (-1) c ((inferInstance : BdQ (lo - 1 / 7) _).up (by omega)) ?_ rfl rfl
    unfold sd
    rw [s1 (hi - (lo - 1 / 7)) (by grind), s2 (lo - 1 / 7 - lo) (by grind)]
    rfl
  · refine key 4 (hi + ((1 + mixF ds (k + 2 + 0) 9 : Int) : Rat)) (-1) c ((inferInstance : BdQ (hi + ((1 + mixF ds (k + 2 + 0) 9 : Int) : Rat)) _).up (by omega)) ?_ rfl rfl
    unfold sd
    rw [s2 (hi - (hi + ((1 + mixF ds (k + 2 + 0) 9 : Int) : Rat))) (by grind), s1 (hi + ((1 + mixF ds (k + 2 + 0) 9 : Int) : Rat) - lo) (by grind)]
    rfl
theorem plc1 (n : Nat) {ds : List Int} (hd : okD ds) (k : Int) (hk : 0 ≤ k) (hk2 : k < 8000) (Z : PD) {lo hi : Rat} {m : Nat} [BdQ lo m] [BdQ hi m] (h : lo < hi) (hm : m ≤ 20) (L S : List PD) (hL : L.length < 100) (hS : S.length < 100) (x6 x7 x8 x9 : Option PD) :
    ∃ p y6 y7 y8 y9, evSs (sgOf pg (n + 3)) l__law_place_1 ([4, 3], [some (Ld ds), some (.int k), some (.list [Z, PQ lo hi]), some (.list (L)), some (.list (S)), some (.int 1), x6, x7, x8, x9]) = .nx ([4, 3], [some (Ld ds), some (.int k), some (.list [Z, PQ lo hi]), some (.list (L ++ [QD p])), some (.list (S ++ [.int (sd p lo hi)])), some (.int 1), y6, y7, y8, y9]) ∧ BdQ p 60 := by
  have a0 := mix0 ds (k + 2 + 1) 9
  have a1 := mixL ds (k + 2 + 1) 9 (by decide)
  have BM : Bd (1 + mixF ds (k + 2 + 1) 9) 5 := Bd.of 5 (show _ ≤ 9 by omega) (by decide)
  have hB : (0 : Rat) < ((1 + mixF ds (k + 2 + 1) 9 : Int) : Rat) := by
    have : ((0 : Int) : Rat) < ((1 + mixF ds (k + 2 + 1) 9 : Int) : Rat) := Rat.intCast_lt_intCast.mpr (by omega)
    exact this
  have key : ∀ (c : Int) (p : Rat) (s : Int), mixF ds (k + 1) 5 = c → BdQ p 60 → sd p lo hi = s → ixV (.list [QD lo, QD hi, QD ((lo + hi) * (1 / 2)), QD (lo - 1 / 7), QD (hi + ((1 + mixF ds (k + 2 + 1) 9 : Int) : Rat))]) (.int c) = .ok (QD p) → ixV (.list [.int 0, .int 0, .int 1, .int (-1), .int (-1)]) (.int c) = .ok (.int s) →
      ∃ p y6 y7 y8 y9, evSs (sgOf pg (n + 3)) l__law_place_1 ([4, 3], [some (Ld ds), some (.int k), some (.list [Z, PQ lo hi]), some (.list (L)), some (.list (S)), some (.int 1), x6, x7, x8, x9]) = .nx ([4, 3], [some (Ld ds), some (.int k), some (.list [Z, PQ lo hi]), some (.list (L ++ [QD p])), some (.list (S ++ [.int (sd p lo hi)])), some (.int 1), y6, y7, y8, y9]) ∧ BdQ p 60 := fun c p s hc bp hs i1 i2 => by
    refine ⟨p, some (QD lo), some (QD hi), some (QD ((lo + hi) * (1 / 2))), some (.int c), ?_, bp⟩
    rw [hs]
    unfold l__law_place_1
    refine seq1 (s' := ([4, 3], [some (Ld ds), some (.int k), some (.list [Z, PQ lo hi]), some (.list (L)), some (.list (S)), some (.int 1), some (QD lo), some (QD hi), x8, x9])) ?_ (seq1 (s' := ([4, 3], [some (Ld ds), some (.int k), some (.list [Z, PQ lo hi]), some (.list (L)), some (.list (S)), some (.int 1), some (QD lo), some (QD hi), some (QD ((lo + hi) * (1 / 2))), x9])) ?_ (seq1 (s' := ([4, 3], [some (Ld ds), some (.int k), some (.list [Z, PQ lo hi]), some (.list (L)), some (.list (S)), some (.int 1), some (QD lo), some (QD hi), some (QD ((lo + hi) * (1 / 2))), some (.int c)])) ?_ (seq1 (app_at (x := QD p) ?_ rfl (by simp) rfl (by omega)) (seq1 (app_at (x := .int s) ?_ rfl (by simp) rfl (by omega)) rfl))))
    · simp! []
      rfl
    · simp! [half, ev_ladd, ev_ltimes]
      rfl
    · simp! [ev_mix, hd, hc]
      rfl
    · simp! [p17, ev_ltake, ev_ladd, ev_mix, hd, QDi, i1]
    · show (ixV (.list [.int 0, .int 0, .int 1, .int (-1), .int (-1)]) (.int c) : R PD) = _
      rw [i2]
  have s1 : ∀ x : Rat, 0 < x → sgn x = 1 := fun x hx => by unfold sgn; rw [if_pos hx] <;> grind
  have s2 : ∀ x : Rat, x < 0 → sgn x = -1 := fun x hx => by unfold sgn; grind
  rcases mix5 ds (k + 1) with c | c | c | c | c
  · refine key 0 lo 0 c ((inferInstance : BdQ lo m).up (by omega)) ?_ rfl rfl
    unfold sd
    rw [s1 (hi - lo) (by grind), sgn0 (show lo - lo = 0 by grind)]
    rfl
  · refine key 1 hi 0 c ((inferInstance : BdQ hi m).up (by omega)) ?_ rfl rfl
    unfold sd
    rw [s1 (hi - lo) (by grind), sgn0 (show hi - hi = 0 by grind)]
    rfl
  · refine key 2 ((lo + hi) * (1 / 2)) 1 c ((inferInstance : BdQ ((lo + hi) * (1 / 2)) _).up (by omega)) ?_ rfl rfl
    unfold sd
    rw [s1 (hi - (lo + hi) * (1 / 2)) (by grind), s1 ((lo + hi) * (1 / 2) - lo) (by grind)]
    rfl
  · refine key 3 (lo - 1 / 7) (-1) c ((inferInstance : BdQ (lo - 1 / 7) _).up (by omega)) ?_ rfl rfl
    unfold sd
    rw [s1 (hi - (lo - 1 / 7)) (by grind), s2 (lo - 1 / 7 - lo) (by grind)]
    rfl
  · refine key 4 (hi + ((1 + mixF ds (k + 2 + 1) 9 : Int) : Rat)) (-1) c ((inferInstance : BdQ (hi + ((1 + mixF ds (k + 2 + 1) 9 : Int) : Rat)) _).up (by omega)) ?_ rfl rfl
    unfold sd
    rw [s2 (hi - (hi + ((1 + mixF ds (k + 2 + 1) 9 : Int) : Rat))) (by grind), s1 (hi + ((1 + mixF ds (k + 2 + 1) 9 : Int) : Rat) - lo) (by grind)]
    rfl
theorem sd_r {p lo hi : Rat} : sd p lo hi = -1 ∨ sd p lo hi = 0 ∨ sd p lo hi = 1 := by
  unfold sd
  have a := sgn_abs (hi - p)
  have b := sgn_abs (p - lo)
  split <;> omega
def wch (m : Int) : Str := if m < 0 then "out" else if 0 < m then "in" else "on"
theorem ix3 {m : Int} (h : m = -1 ∨ m = 0 ∨ m = 1) : ixV (.list [.str "out", .str "on", .str "in"]) (.int (m + 1)) = .ok (.str (whT m)) := by
  rcases h with rfl | rfl | rfl <;> rfl
section
variable {l b r t : Rat} {m : Nat} [BdQ l m] [BdQ b m] [BdQ r m] [BdQ t m] (hl : l < r) (hb : b < t) (hm : m ≤ 20)
include hl hb hm
theorem sd4 {x y : Rat} : leastI (sgn (x - l)) [sgn (y - b), sgn (r - x), sgn (t - y)] = (if sd y b t < sd x l r then sd y b t else sd x l r) := by
  unfold sd
  simp only [leastI]
  generalize sgn (x - l) = p
  generalize sgn (y - b) = q
  generalize sgn (r - x) = p'
  generalize sgn (t - y) = q'
  grind
theorem ev_lplace (n : Nat) {ds : List Int} (hd : okD ds) (k : Int) (hk : 0 ≤ k) (hk2 : k < 8000) : ∃ x y : Rat, evF pg (n + 4) i__law_place [Ld ds, .int k, BX l b r t] = .ok (.tuple [PQ x y, .str (whT (leastI (sgn (x - l)) [sgn (y - b), sgn (r - x), sgn (t - y)]))]) ∧ BdQ x 60 ∧ BdQ y 60 := by
  obtain ⟨x, y6, y7, y8, y9, h1, h2⟩ := plc0 n hd k hk hk2 (PQ b t) hl hm [] [] (by decide) (by decide) none none none none
  obtain ⟨y, z6, z7, z8, z9, g1, g2⟩ := plc1 n hd k hk hk2 (PQ l r) hb hm [QD x] [.int (sd x l r)] (by simp) (by simp) y6 y7 y8 y9
  refine ⟨x, y, ?_, h2, g2⟩
  rw [u__law_place, sd4 hl hb hm]
  unfold b__law_place
  have a1 : sd x l r = -1 ∨ sd x l r = 0 ∨ sd x l r = 1 := sd_r
  have a2 : sd y b t = -1 ∨ sd y b t = 0 ∨ sd y b t = 1 := sd_r
  have a3 := ix3 (m := if sd y b t < sd x l r then sd y b t else sd x l r) (by split <;> assumption)
  refine finR (seq1 (s' := ([4, 3], [some (Ld ds), some (.int k), some (BX l b r t), some (.list []), some (.list []), none, none, none, none, none])) rfl (seq1 (evFor (items := [.int 0, .int 1]) (W' := [4, 3]) ?_ rfl (for_nm h1 (for_nm g1 for_nil))) (seqR ?_)))
  · simp! []
  · simp! [a3]
end
end k21
set_option Elab.async false
set_option linter.all false
set_option maxRecDepth 100000
set_option maxHeartbeats 4000000
set_option exponentiation.threshold 20000
namespace k21
open PySem PySem.Spec PyProof.Rows L2 Fe
theorem in1_3 (a0 a1 a2 : PD) : ixV (.list [a0, a1, a2]) (.int (-1)) = .ok a2 := rfl
theorem in2_3 (a0 a1 a2 : PD) : ixV (.list [a0, a1, a2]) (.int (-2)) = .ok a1 := rfl
theorem in1_5 (a0 a1 a2 a3 a4 : PD) : ixV (.list [a0, a1, a2, a3, a4]) (.int (-1)) = .ok a4 := rfl
theorem in2_5 (a0 a1 a2 a3 a4 : PD) : ixV (.list [a0, a1, a2, a3, a4]) (.int (-2)) = .ok a3 := rfl
theorem in1_8 (a0 a1 a2 a3 a4 a5 a6 a7 : PD) : ixV (.list [a0, a1, a2, a3, a4, a5, a6, a7]) (.int (-1)) = .ok a7 := rfl
theorem in2_8 (a0 a1 a2 a3 a4 a5 a6 a7 : PD) : ixV (.list [a0, a1, a2, a3, a4, a5, a6, a7]) (.int (-2)) = .ok a6 := rfl
theorem r12 : rng2R 1 2 = .ok [.int 1] := rfl
theorem r23 : rng2R 2 3 = .ok [.int 2] := rfl
section
variable {l b r t : Rat} {k : Nat} [BdQ l k] [BdQ b k] [BdQ r k] [BdQ t k] (hl : l < r) (hb : b < t)
include hl hb
theorem tb1 : ta r t r b l b = -((r - l) * (t - b)) := by unfold ta; grind
theorem tb2 : ta l b r b r b = 0 := by unfold ta; grind
theorem tb3 : ta r b r t l b = (r - l) * (t - b) := by unfold ta; grind
theorem tb4 : ta r t l b r b = (r - l) * (t - b) := by unfold ta; grind
theorem tb5 : ta r t l b l t = -((r - l) * (t - b)) := by unfold ta; grind
theorem tb6 : ta r b r t r b = 0 := by unfold ta; grind
theorem tb7 : ta l b r b l t = (r - l) * (t - b) := by unfold ta; grind
theorem tb8 : ta r b r t l t = (r - l) * (t - b) := by unfold ta; grind
theorem be1 : bef r b r t = true := by unfold bef; simp [hb]
theorem be2 : bef r b l t = false := by
  unfold bef
  have h1 : ¬ r < l := by grind
  have h2 : ¬ r = l := by grind
  simp [h1, h2]
theorem be3 : bef l b l b = false := by
  unfold bef
  have h1 : ¬ l < l := by grind
  have h2 : ¬ b < b := by grind
  simp [h1, h2]
theorem sgn_ng : sgn (-((r - l) * (t - b))) = -1 := by
  have := ar_pos hl hb
  unfold sgn
  grind
variable (hk : k ≤ 150)
include hk
theorem nfl0 (n : Nat) : evF pg (n + 5) i_is_flat [.list [PQ r b, PQ r t, PQ l t, PQ l b]] = .ok (.bool false) := by
  rw [u_is_flat]
  unfold b_is_flat l_is_flat_1 l_is_flat_2
  have w := sgn_pos (ar_pos hl hb)
  have w2 := sgn_ng hl hb
  simp! [gMC, ev_ispair, ev_ta, ev_sign, ev_bef, im1, im2, r13, r12, in1_3, in2_3, in1_5, in2_5, in1_8, in2_8, ta0 hl hb, ta1 hl hb, ta2 hl hb, ta3 hl hb, ta4 hl hb, tb1 hl hb, tb2 hl hb, tb3 hl hb, tb4 hl hb, w, w2, sgn_zero, bef1 hl hb, bef2 hl hb, bef3 hl hb, be1 hl hb, be2 hl hb, be3 hl hb]
theorem nfl1 (n : Nat) : evF pg (n + 5) i_is_flat [.list [PQ l b, PQ l t, PQ r t, PQ r b]] = .ok (.bool false) := by
  rw [u_is_flat]
  unfold b_is_flat l_is_flat_1 l_is_flat_2
  have w := sgn_pos (ar_pos hl hb)
  have w2 := sgn_ng hl hb
  simp! [gMC, ev_ispair, ev_ta, ev_sign, ev_bef, im1, im2, r13, r12, in1_3, in2_3, in1_5, in2_5, in1_8, in2_8, ta0 hl hb, ta1 hl hb, ta2 hl hb, ta3 hl hb, ta4 hl hb, tb1 hl hb, tb2 hl hb, tb3 hl hb, tb4 hl hb, w, w2, sgn_zero, bef1 hl hb, bef2 hl hb, bef3 hl hb, be1 hl hb, be2 hl hb, be3 hl hb]
theorem nfl2 (n : Nat) : evF pg (n + 5) i_is_flat [.list [PQ l b, PQ r b, PQ r b, PQ r t, PQ l t]] = .ok (.bool false) := by
  rw [u_is_flat]
  unfold b_is_flat l_is_flat_1 l_is_flat_2
  have w := sgn_pos (ar_pos hl hb)
  have w2 := sgn_ng hl hb
  simp! [gMC, ev_ispair, ev_ta, ev_sign, ev_bef, im1, im2, r13, r12, in1_3, in2_3, in1_5, in2_5, in1_8, in2_8, ta0 hl hb, ta1 hl hb, ta2 hl hb, ta3 hl hb, ta4 hl hb, tb1 hl hb, tb2 hl hb, tb3 hl hb, tb4 hl hb, w, w2, sgn_zero, bef1 hl hb, bef2 hl hb, bef3 hl hb, be1 hl hb, be2 hl hb, be3 hl hb]
theorem nfl3 (n : Nat) : evF pg (n + 5) i_is_flat [.list [PQ l b, PQ r b, PQ r t, PQ l t, PQ l b, PQ r b, PQ r t, PQ l t]] = .ok (.bool false) := by
  rw [u_is_flat]
  unfold b_is_flat l_is_flat_1 l_is_flat_2
  have w := sgn_pos (ar_pos hl hb)
  have w2 := sgn_ng hl hb
  simp! [gMC, ev_ispair, ev_ta, ev_sign, ev_bef, im1, im2, r13, r12, in1_3, in2_3, in1_5, in2_5, in1_8, in2_8, ta0 hl hb, ta1 hl hb, ta2 hl hb, ta3 hl hb, ta4 hl hb, tb1 hl hb, tb2 hl hb, tb3 hl hb, tb4 hl hb, w, w2, sgn_zero, bef1 hl hb, bef2 hl hb, bef3 hl hb, be1 hl hb, be2 hl hb, be3 hl hb]
theorem nfl4 (n : Nat) : evF pg (n + 5) i_is_flat [.list [PQ l b, PQ r b]] = .ok (.bool false) := by
  rw [u_is_flat]
  unfold b_is_flat l_is_flat_1 l_is_flat_2
  have w := sgn_pos (ar_pos hl hb)
  have w2 := sgn_ng hl hb
  simp! [gMC, ev_ispair, ev_ta, ev_sign, ev_bef, im1, im2, r13, r12, in1_3, in2_3, in1_5, in2_5, in1_8, in2_8, ta0 hl hb, ta1 hl hb, ta2 hl hb, ta3 hl hb, ta4 hl hb, tb1 hl hb, tb2 hl hb, tb3 hl hb, tb4 hl hb, w, w2, sgn_zero, bef1 hl hb, bef2 hl hb, bef3 hl hb, be1 hl hb, be2 hl hb, be3 hl hb]
theorem hfl (n : Nat) : evF pg (n + 5) i_is_flat [.list [PQ l b, PQ r b, PQ r t]] = .ok (.bool true) := by
  rw [u_is_flat]
  unfold b_is_flat l_is_flat_1 l_is_flat_2
  have w := sgn_pos (ar_pos hl hb)
  have w2 := sgn_ng hl hb
  simp! [gMC, ev_ispair, ev_ta, ev_sign, ev_bef, im1, im2, r13, r12, in1_3, in2_3, in1_5, in2_5, in1_8, in2_8, ta0 hl hb, ta1 hl hb, ta2 hl hb, ta3 hl hb, ta4 hl hb, tb1 hl hb, tb2 hl hb, tb3 hl hb, tb4 hl hb, w, w2, sgn_zero, bef1 hl hb, bef2 hl hb, bef3 hl hb, be1 hl hb, be2 hl hb, be3 hl hb]
theorem hcf (n : Nat) : evF pg (n + 6) i_check_flat_d [.list [PQ l b, PQ r b, PQ r t]] = .ok .none := by
  rw [u_check_flat_d]
  unfold b_check_flat
  simp! [hfl hl hb hk n]
theorem har (n : Nat) : evF pg (n + 7) i_area [.list [PQ l b, PQ r b, PQ r t]] = .ok (QD ((r - l) * (t - b) * (1 / 2))) := by
  rw [u_area]
  unfold b_area l_area_1
  have e : (0 + (r - l) * (t - b)) * (1 / 2 : Rat) = (r - l) * (t - b) * (1 / 2) := by grind
  simp! [gZ, hcf hl hb hk n, ev_ta, ev_add, ev_times, r23, half, ta2 hl hb]
  rw [e]
theorem hou (n : Nat) : evF pg (n + 7) i_has_place [.list [PQ l b, PQ r b, PQ r t], PQ l t] = .ok (.str "out") := by
  rw [u_has_place]
  unfold b_has_place
  have q : evF pg (n + 6) i_check_pair [PQ l t] = .ok .none := by
    rw [u_check_pair]
    unfold b_check_pair
    simp! [ev_ispair]
  have w := sgn_pos (ar_pos hl hb)
  have w2 := sgn_ng hl hb
  have q2 : evF pg (n + 6) i_where [.list [PQ l b, PQ r b, PQ r t], PQ l t] = .ok (.str "out") := by
    rw [u_where]
    unfold b_where
    simp! [ev_ta, ev_sign, in1_3, tb5 hl hb, tb7 hl hb, tb8 hl hb, w, w2]
  simp! [hcf hl hb hk n, q, q2]
theorem hon (n : Nat) : evF pg (n + 7) i_has_place [.list [PQ l b, PQ r b, PQ r t], PQ r b] = .ok (.str "on") := by
  rw [u_has_place]
  unfold b_has_place
  have q : evF pg (n + 6) i_check_pair [PQ r b] = .ok .none := by
    rw [u_check_pair]
    unfold b_check_pair
    simp! [ev_ispair]
  have w := sgn_pos (ar_pos hl hb)
  have w2 := sgn_ng hl hb
  have q2 : evF pg (n + 6) i_where [.list [PQ l b, PQ r b, PQ r t], PQ r b] = .ok (.str "on") := by
    rw [u_where]
    unfold b_where
    simp! [ev_ta, ev_sign, in1_3, tb4 hl hb, tb2 hl hb, tb6 hl hb, w, w2, sgn_zero]
  simp! [hcf hl hb hk n, q, q2]
theorem ref1 (n : Nat) : evF pg (n + 8) i__law_refused [.int 1, BC l b r t, .tuple [.int 0, .int 0]] = .ok (.tuple [.str "plane", .int 0]) := by
  rw [u__law_refused]
  unfold b__law_refused
  have q := ev_reach0 hl hb n hk
  refine finR (seqR ?_)
  rw [evS, show evSs (sgOf pg (n + 7)) (.cons (.ifs (.cmp .eq (.var 0) (.int 1)) (.cons (.ex (.call i_reach (.cons (.var 1) (.cons (.var 2) (.nil))))) (.nil)) (.cons (.ifs (.cmp .eq (.var 0) (.int 2)) (.cons (.ex (.call i_grown (.cons (.var 1) (.cons (.var 2) (.nil))))) (.nil)) (.cons (.ifs (.cmp .eq (.var 0) (.int 3)) (.cons (.ex (.call i_has_place (.cons (.var 1) (.cons (.var 2) (.nil))))) (.nil)) (.cons (.ifs (.cmp .eq (.var 0) (.int 4)) (.cons (.ex (.call i_gap (.cons (.var 1) (.cons (.var 2) (.nil))))) (.nil)) (.cons (.ifs (.cmp .eq (.var 0) (.int 5)) (.cons (.ex (.call i_comes_to (.cons (.var 1) (.cons (.var 1) (.cons (.var 2) (.nil)))))) (.nil)) (.nil)) (.nil))) (.nil))) (.nil))) (.nil))) (.nil)) ([], [some (.int 1), some (BC l b r t), some (.tuple [.int 0, .int 0]), none]) = .exc "BadPlane" 0 ([], [some (.int 1), some (BC l b r t), some (.tuple [.int 0, .int 0]), none]) from by
    simp! [q]]
  rfl
end
end k21
set_option Elab.async false
set_option linter.all false
set_option maxRecDepth 100000
set_option maxHeartbeats 4000000
set_option exponentiation.threshold 20000
namespace k21
open PySem PySem.Spec PyProof.Rows L2 Fe
theorem ceqD (d e : Int) : cmpV .eq (DI d e) (DI 0 0) = .ok (.bool (decide (d = 0 ∧ e = 0))) := by
  rw [ceqG rfl]
  congr 2
  by_cases c : d = 0 <;> by_cases c2 : e = 0 <;> simp [PyData.eqv, PyData.eqvAll, eqv_int, c, c2]
theorem rch_opp (l b r t : Rat) (d e : Int) : rch (0 - r) (0 - t) (0 - l) (0 - b) d e = rch l b r t (-d) (-e) := by
  have key : ∀ (p q : Rat) (a : Int), (if 0 < a then 0 - p else 0 - q) * (a : Rat) = (if 0 < -a then q else p) * ((-a : Int) : Rat) := fun p q a => by
    have e1 : ((-a : Int) : Rat) = -(a : Rat) := Rat.intCast_neg a
    rw [e1]
    by_cases c : 0 < a
    · rw [if_pos c, if_neg (by omega)]
      grind
    · rw [if_neg c]
      by_cases c2 : a = 0
      · subst c2
        have z : ((0 : Int) : Rat) = 0 := rfl
        rw [z]
        grind
      · rw [if_pos (by omega)]
        grind
  unfold rch
  rw [key, key]
theorem nePl : cmpV .ne (.tuple [.str "plane", .int 0]) (.tuple [.str "plane", .int 0]) = .ok (.bool false) := rfl
section
variable {l b r t : Rat} {m : Nat} [BdQ l m] [BdQ b m] [BdQ r m] [BdQ t m] (hl : l < r) (hb : b < t) (hm : m ≤ 20)
include hl hb hm
theorem sg_step (n : Nat) {ds : List Int} (hd : okD ds) (k : Int) (hk : 0 ≤ k) (hk2 : k < 7000) (T : Int) (h0 : 0 ≤ T) (h1 : T ≤ 5) (x4 x5 x6 x7 x9 x10 x11 x12 : Option PD) :
    ∃ y9 y10 y11, evSs (sgOf pg (n + 8)) l__law_single_1 ([], [some (Ld ds), some (.int k), some (BX l b r t), some (BC l b r t), x4, x5, x6, x7, some (.int T), x9, x10, x11, x12]) = .nx ([], [some (Ld ds), some (.int k), some (BX l b r t), some (BC l b r t), x4, x5, x6, x7, some (.int T), y9, y10, y11, x12]) := by
  obtain ⟨x, y, q, bx, b_y⟩ := ev_lplace hl hb hm (n + 4) hd (k + 20 + 5 * T) (by omega) (by omega)
  have a0 := mix0 ds (k + 2 * T) 9
  have a1 := mixL ds (k + 2 * T) 9 (by decide)
  have a2 := mix0 ds (k + 1 + 2 * T) 9
  have a3 := mixL ds (k + 1 + 2 * T) 9 (by decide)
  have BT : Bd T 3 := Bd.of 3 (show _ ≤ 5 by omega) (by decide)
  generalize ed : mixF ds (k + 2 * T) 9 - 4 = d
  generalize ee : mixF ds (k + 1 + 2 * T) 9 - 4 = e
  have Bd' : Bd d 3 := Bd.of 3 (show _ ≤ 4 by omega) (by decide)
  have Be' : Bd e 3 := Bd.of 3 (show _ ≤ 4 by omega) (by decide)
  have op := ev_opposite hl hb (n + 1) (k := m) (by omega)
  have hm150 : m ≤ 150 := by omega
  refine ⟨some (DI d e), some (PQ x y), some (.str (whT (leastI (sgn (x - l)) [sgn (y - b), sgn (r - x), sgn (t - y)]))), ?_⟩
  unfold l__law_single_1
  refine seq1 (s' := ([], [some (Ld ds), some (.int k), some (BX l b r t), some (BC l b r t), x4, x5, x6, x7, some (.int T), some (DI d e), x10, x11, x12])) ?_ (seq1 (s' := ([], [some (Ld ds), some (.int k), some (BX l b r t), some (BC l b r t), x4, x5, x6, x7, some (.int T), some (DI d e), x10, x11, x12])) ?_ (seq1 (s' := ([], [some (Ld ds), some (.int k), some (BX l b r t), some (BC l b r t), x4, x5, x6, x7, some (.int T), some (DI d e), some (PQ x y), some (.str (whT (leastI (sgn (x - l)) [sgn (y - b), sgn (r - x), sgn (t - y)]))), x12])) ?_ (seq1 (s' := ([], [some (Ld ds), some (.int k), some (BX l b r t), some (BC l b r t), x4, x5, x6, x7, some (.int T), some (DI d e), some (PQ x y), some (.str (whT (leastI (sgn (x - l)) [sgn (y - b), sgn (r - x), sgn (t - y)]))), x12])) ?_ rfl)))
  · simp! [ev_mix, hd, ed, ee]
  · by_cases c : d = 0 ∧ e = 0
    · obtain ⟨rfl, rfl⟩ := c
      have rf := ref1 hl hb hm150 n
      have z : cmpV .eq (DI 0 0) (DI 0 0) = .ok (.bool true) := rfl
      refine ifsT (by simp! [z]) rfl (seq1 (ifsF (by simp! [rf, nePl]) rfl rfl) rfl)
    · have c' : ¬ (-d = 0 ∧ -e = 0) := by omega
      have r1 := ev_reach hl hb (n + 1) hm150 d e (j := 3) (by omega) c
      have r2 := ev_reach (l := 0 - r) (b := 0 - t) (r := 0 - l) (t := 0 - b) (k := 1 + m + 1) (by grind) (by grind) (n + 1) (by omega) d e (j := 3) (by omega) c
      have r3 := ev_reach hl hb (n + 1) hm150 (-d) (-e) (j := 3) (by omega) c'
      have r4 := ev_lreach (l := l) (b := b) (r := r) (t := t) (k := m) (n + 4) d e (j := 3) (by omega)
      rw [rch_opp] at r2
      refine ifsF (by simp! [ceqD, c]) rfl (seq1 (ifsF ?_ rfl rfl) rfl)
      simp! [r1, r2, r3, r4, op]
  · simp! [q]
  · have hs := ev_has hl hb (n + 1) x y (k := m) (j := 60) (by omega) (by omega)
    refine ifsF (by simp! [hs]) rfl rfl
end
theorem ct03 (a b c d : PD) : cutD [a, b, c, d] none (some 3) = [a, b, c] := rfl
theorem ct01 (a b c d : PD) : cutD [a, b, c, d] none (some 1) = [a] := rfl
theorem stx (a b c d : PD) : stV (.list [a, b, c, d]) none (some 0) (some (-1)) = .ok (.list [d, c, b]) := by
  have e : sliceRange (sliceBounds none (some 0) (some (-1)) 4).1 (sliceBounds none (some 0) (some (-1)) 4).2.1 (-1) = [3, 2, 1] := by decide
  show (if decide ((-1 : Int) ≠ 0) = true then R.ok (PyData.list ((sliceRange (sliceBounds none (some 0) (some (-1)) 4).1 (sliceBounds none (some 0) (some (-1)) 4).2.1 (-1)).filterMap ([a, b, c, d][·]?))) else .bad) = _
  rw [e]
  rfl
theorem fm5 : binV .mul (.list [.bool false]) (.int 5) = .ok (.list [.bool false, .bool false, .bool false, .bool false, .bool false]) := rfl
theorem nef : cmpV .ne (.list [.bool false, .bool false, .bool false, .bool false, .bool false]) (.list [.bool false, .bool false, .bool false, .bool false, .bool false]) = .ok (.bool false) := rfl
theorem addL (a b : List PD) : binV .add (.list a) (.list b) = (if okLen (a.length + b.length) = true then .ok (.list (a ++ b)) else .bad) := rfl
section
variable {l b r t : Rat} {m : Nat} [BdQ l m] [BdQ b m] [BdQ r m] [BdQ t m] (hl : l < r) (hb : b < t) (hm : m ≤ 20)
include hl hb hm
theorem ev_lsingle (n : Nat) {ds : List Int} (hd : okD ds) (k : Int) (hk : 0 ≤ k) (hk2 : k < 7000) : evF pg (n + 9) i__law_single [Ld ds, .int k, BX l b r t] = .ok (.bool true) := by
  rw [u__law_single]
  unfold b__law_single
  have hm150 : m ≤ 150 := by omega
  have a1 := ev_flat hl hb (n + 3) hm150
  have a2 := ev_area hl hb (n + 1) hm150
  have f0 := nfl0 hl hb hm150 (n + 3)
  have f1 := nfl1 hl hb hm150 (n + 3)
  have f2 := nfl2 hl hb hm150 (n + 3)
  have f3 := nfl3 hl hb hm150 (n + 3)
  have f4 := nfl4 hl hb hm150 (n + 3)
  have op := ev_opposite hl hb (n + 1) hm150
  have op2 := ev_opposite (l := 0 - r) (b := 0 - t) (r := 0 - l) (t := 0 - b) (k := 1 + m + 1) (by grind) (by grind) (n + 1) (by omega)
  have e0 : ∀ x : Rat, 0 - (0 - x) = x := fun x => by grind
  rw [e0, e0, e0, e0] at op2
  have h1 := har hl hb hm150 (n + 1)
  have h2 := hou hl hb hm150 (n + 1)
  have h3 := hon hl hb hm150 (n + 1)
  obtain ⟨p9, p10, p11, s0⟩ := sg_step hl hb hm n hd k hk hk2 0 (by decide) (by decide) (some (.list [QD (r - l), QD (t - b)])) none none (some (BX (0 - r) (0 - t) (0 - l) (0 - b))) none none none none
  obtain ⟨q9, q10, q11, s1⟩ := sg_step hl hb hm n hd k hk hk2 1 (by decide) (by decide) (some (.list [QD (r - l), QD (t - b)])) none none (some (BX (0 - r) (0 - t) (0 - l) (0 - b))) p9 p10 p11 none
  obtain ⟨r9, r10, r11, s2⟩ := sg_step hl hb hm n hd k hk hk2 2 (by decide) (by decide) (some (.list [QD (r - l), QD (t - b)])) none none (some (BX (0 - r) (0 - t) (0 - l) (0 - b))) q9 q10 q11 none
  obtain ⟨t9, t10, t11, s3⟩ := sg_step hl hb hm n hd k hk hk2 3 (by decide) (by decide) (some (.list [QD (r - l), QD (t - b)])) none none (some (BX (0 - r) (0 - t) (0 - l) (0 - b))) r9 r10 r11 none
  obtain ⟨u9, u10, u11, s4⟩ := sg_step hl hb hm n hd k hk hk2 4 (by decide) (by decide) (some (.list [QD (r - l), QD (t - b)])) none none (some (BX (0 - r) (0 - t) (0 - l) (0 - b))) t9 t10 t11 none
  obtain ⟨v9, v10, v11, s5⟩ := sg_step hl hb hm n hd k hk hk2 5 (by decide) (by decide) (some (.list [QD (r - l), QD (t - b)])) none none (some (BX (0 - r) (0 - t) (0 - l) (0 - b))) u9 u10 u11 none
  refine finR (seq1 (s' := ([], [some (Ld ds), some (.int k), some (BX l b r t), some (BC l b r t), none, none, none, none, none, none, none, none, none])) ?_ (seq1 (s' := ([], [some (Ld ds), some (.int k), some (BX l b r t), some (BC l b r t), some (.list [QD (r - l), QD (t - b)]), none, none, none, none, none, none, none, none])) ?_ (seq1 (ifsF ?_ rfl rfl) (seq1 (ifsF ?_ rfl rfl) (seq1 (s' := ([], [some (Ld ds), some (.int k), some (BX l b r t), some (BC l b r t), some (.list [QD (r - l), QD (t - b)]), none, none, some (BX (0 - r) (0 - t) (0 - l) (0 - b)), none, none, none, none, none])) ?_ (seq1 (ifsF ?_ rfl rfl) (seq1 (evFor (items := [.int 0, .int 1, .int 2, .int 3, .int 4, .int 5]) (W' := []) ?_ rfl (for_nm s0 (for_nm s1 (for_nm s2 (for_nm s3 (for_nm s4 (for_nm s5 for_nil))))))) (seq1 (s' := ([], [some (Ld ds), some (.int k), some (BX l b r t), some (BC l b r t), some (.list [QD (r - l), QD (t - b)]), none, none, some (BX (0 - r) (0 - t) (0 - l) (0 - b)), some (.int 5), v9, v10, v11, some (.list [PQ l b, PQ r b, PQ r t])])) ?_ (seqR ?_)))))))))
  · simp! [ev_lcorners]
  · simp! [ev_ltake]
  · simp! [a1, a2, ev_ltimes]
  · simp! [f0, f1, f2, f3, f4, slL, ct10, ct01, ct02, stx, addL, fm5, nef, okLS]
  · simp! [t01, ev_ltake]
  · have n1 : cmpV .ne (BC l b r t) (BC l b r t) = .ok (.bool false) := cneS rfl
    have n2 : cmpV .ne (BC (0 - r) (0 - t) (0 - l) (0 - b)) (BC (0 - r) (0 - t) (0 - l) (0 - b)) = .ok (.bool false) := cneS rfl
    simp! [op, op2, ev_lcorners, n1, n2]
  · simp! []
  · simp! [slL, ct03]
  · simp! [h1, h2, h3, ev_ltimes, half]
end
end k21
set_option Elab.async false
set_option linter.all false
set_option maxRecDepth 100000
set_option maxHeartbeats 4000000
set_option exponentiation.threshold 20000
namespace k21
open PySem PySem.Spec PyProof.Rows L2 Fe
/-! ### what the law says of two boxes, plainly -/
section
variable {l b r t u c v w : Rat}
theorem lin_tch : lin l b r t u c v w = none ↔ tch l b r t u c v w := by
  unfold lin tch
  constructor
  · intro h
    by_cases a0 : w < b
    · simp [a0] at h
    · by_cases a1 : r < u
      · simp [a0, a1] at h
      · by_cases a2 : t < c
        · simp [a0, a1, a2] at h
        · by_cases a3 : v < l
          · simp [a0, a1, a2, a3] at h
          · grind
  · intro h
    have a0 : ¬ w < b := by grind
    have a1 : ¬ r < u := by grind
    have a2 : ¬ t < c := by grind
    have a3 : ¬ v < l := by grind
    simp [a0, a1, a2, a3]
theorem sq_z {x : Rat} (h : x * x = 0) : x = 0 := by
  rcases Rat.mul_eq_zero.mp h with z | z <;> exact z
theorem sgp_z : sgp l r u v = 0 ↔ u ≤ r ∧ l ≤ v := by
  unfold sgp mx
  constructor
  · intro h
    grind
  · intro h
    grind
theorem gp_tch : gp l b r t u c v w = 0 ↔ tch l b r t u c v w := by
  have n0 := sgp_nn l r u v
  have n1 := sgp_nn b t c w
  have m0 := Rat.mul_nonneg n0 n0
  have m1 := Rat.mul_nonneg n1 n1
  have z0 : sgp l r u v = 0 ↔ u ≤ r ∧ l ≤ v := sgp_z
  have z1 : sgp b t c w = 0 ↔ c ≤ t ∧ b ≤ w := sgp_z
  unfold gp tch
  constructor
  · intro h
    have a : sgp l r u v * sgp l r u v = 0 := by grind
    have a' : sgp b t c w * sgp b t c w = 0 := by grind
    have := z0.mp (sq_z a)
    have := z1.mp (sq_z a')
    grind
  · intro h
    have a := z0.mpr ⟨h.1, h.2.1⟩
    have a' := z1.mpr ⟨h.2.2.1, h.2.2.2⟩
    rw [a, a']
    grind
theorem out_tch {L B R T : Rat} : ¬ (whT (leastI (sgn (0 - L)) [sgn (0 - B), sgn (R - 0), sgn (T - 0)]) = "out") ↔ L ≤ 0 ∧ B ≤ 0 ∧ 0 ≤ R ∧ 0 ≤ T := by
  have key : ∀ x : Rat, 0 ≤ sgn x ↔ 0 ≤ x := fun x => by
    unfold sgn
    by_cases a : 0 < x
    · rw [if_pos a]; constructor <;> intro _ <;> first | decide | grind
    · rw [if_neg a]
      by_cases a2 : x < 0
      · rw [if_pos a2]
        constructor
        · intro h; exact absurd h (by decide)
        · intro h; grind
      · rw [if_neg a2]; constructor <;> intro _ <;> first | decide | grind
  have k0 := key (0 - L)
  have k1 := key (0 - B)
  have k2 := key (R - 0)
  have k3 := key (T - 0)
  simp only [leastI]
  generalize sgn (0 - L) = p at *
  generalize sgn (0 - B) = q at *
  generalize sgn (R - 0) = p' at *
  generalize sgn (T - 0) = q' at *
  have wo : ∀ m : Int, ¬ (whT m = "out") ↔ 0 ≤ m := fun m => by
    unfold whT
    by_cases a : m < 0
    · rw [if_pos a]; constructor
      · intro h; exact absurd rfl h
      · intro h; omega
    · rw [if_neg a]
      by_cases a2 : 0 < m
      · rw [if_pos a2]; constructor
        · intro _; omega
        · intro _; decide
      · rw [if_neg a2]; constructor
        · intro _; omega
        · intro _; decide
  rw [wo]
  constructor
  · intro h
    have : 0 ≤ p ∧ 0 ≤ q ∧ 0 ≤ p' ∧ 0 ≤ q' := by grind
    grind
  · intro h
    have : 0 ≤ p ∧ 0 ≤ q ∧ 0 ≤ p' ∧ 0 ≤ q' := by grind
    grind
end
/-! ### what the law says of one that comes -/
theorem div_le0 {a s : Rat} (hs : 0 < s) : a / s ≤ 0 ↔ a ≤ 0 := by
  have e : a = a / s * s := by have : s ≠ 0 := by grind
                               grind
  constructor
  · intro h
    by_cases c : a ≤ 0
    · exact c
    · have h2 := div_nn (show 0 ≤ a by grind) hs
      have : a / s = 0 := by grind
      rw [this] at e
      grind
  · intro h
    have h2 := div_nn (show 0 ≤ -a by grind) hs
    have : -a / s = -(a / s) := by have : s ≠ 0 := by grind
                                   grind
    grind
theorem div_flip {a s : Rat} : a / s = (-a) / (-s) := by
  by_cases c : s = 0
  · subst c
    have z : (-(0 : Rat)) = 0 := by grind
    rw [z, Rat.div_def, Rat.div_def, Rat.inv_zero]
    grind
  · have : -s ≠ 0 := by grind
    grind
/-- where a side is told, it holds from the first on to the last -/
theorem told_in {L R s f g τ : Rat} (hx : L < R) (h : told L R s = some (f, g)) (h1 : f ≤ τ) (h2 : τ ≤ g) : L ≤ τ * s ∧ τ * s ≤ R := by
  unfold told ax at h
  have pos : ∀ {L R s : Rat}, 0 < s → L / s ≤ τ → τ ≤ R / s → L ≤ τ * s ∧ τ * s ≤ R := fun {L R s} hs a b => by
    have e1 : L = L / s * s := by have : s ≠ 0 := by grind
                                  grind
    have e2 : R = R / s * s := by have : s ≠ 0 := by grind
                                  grind
    have m1 := Rat.mul_nonneg (show 0 ≤ τ - L / s by grind) (show 0 ≤ s by grind)
    have m2 := Rat.mul_nonneg (show 0 ≤ R / s - τ by grind) (show 0 ≤ s by grind)
    constructor
    · have : (τ - L / s) * s = τ * s - L / s * s := by grind
      rw [this, ← e1] at m1
      grind
    · have : (R / s - τ) * s = R / s * s - τ * s := by grind
      rw [this, ← e2] at m2
      grind
  by_cases c : s = 0
  · rw [if_pos c] at h
    by_cases c2 : 0 < L ∨ R < 0
    · rw [if_pos c2] at h; cases h
    · subst c
      have : τ * 0 = 0 := by grind
      rw [this]
      grind
  · rw [if_neg c] at h
    by_cases c1 : 0 < s
    · rw [if_pos c1] at h
      simp only [Option.bind_some, chk2] at h
      split at h
      · cases h
      · have e1 : f = mx (L / s) 0 := by cases h; rfl
        have e2 : g = mnn (R / s) 1 := by cases h; rfl
        have a1 : L / s ≤ f := by rw [e1]; unfold mx; grind
        have a2 : g ≤ R / s := by rw [e2]; unfold mnn; grind
        exact pos c1 (by grind) (by grind)
    · rw [if_neg c1] at h
      simp only [Option.bind_some, chk2] at h
      split at h
      · cases h
      · have e1 : f = mx (R / s) 0 := by cases h; rfl
        have e2 : g = mnn (L / s) 1 := by cases h; rfl
        have a1 : R / s ≤ f := by rw [e1]; unfold mx; grind
        have a2 : g ≤ L / s := by rw [e2]; unfold mnn; grind
        rw [div_flip] at a1 a2
        obtain ⟨b1, b2⟩ := pos (L := -R) (R := -L) (s := -s) (by grind) (by grind) (by grind)
        grind
theorem told_nn {L R s f g : Rat} (h : told L R s = some (f, g)) : 0 ≤ f := by
  unfold told ax at h
  by_cases c : s = 0
  · rw [if_pos c] at h
    by_cases c2 : 0 < L ∨ R < 0
    · rw [if_pos c2] at h; cases h
    · rw [if_neg c2] at h
      simp only [Option.bind_some, chk2] at h
      split at h
      · cases h
      · cases h; decide
  · rw [if_neg c] at h
    by_cases c1 : 0 < s
    · rw [if_pos c1] at h
      simp only [Option.bind_some, chk2] at h
      split at h
      · cases h
      · have e1 : f = mx (L / s) 0 := by cases h; rfl
        rw [e1]; unfold mx; grind
    · rw [if_neg c1] at h
      simp only [Option.bind_some, chk2] at h
      split at h
      · cases h
      · have e1 : f = mx (R / s) 0 := by cases h; rfl
        rw [e1]; unfold mx; grind
theorem told_le {L R s f g : Rat} (h : told L R s = some (f, g)) : f ≤ g := by
  unfold told at h
  cases e : ax L R s with
  | none => rw [e] at h; cases h
  | some p =>
    rw [e] at h
    simp only [Option.bind_some, chk2] at h
    split at h
    · cases h
    · cases h
      grind
theorem told_zero {L R s : Rat} (h1 : L ≤ 0) (h2 : 0 ≤ R) : ∃ g, told L R s = some (0, g) ∧ 0 ≤ g := by
  unfold told ax
  by_cases c : s = 0
  · rw [if_pos c, if_neg (by grind)]
    exact ⟨1, by simp only [Option.bind_some, chk2]; rw [if_neg (by decide)], by decide⟩
  · rw [if_neg c]
    by_cases c1 : 0 < s
    · rw [if_pos c1]
      have a1 := (div_le0 c1).mpr h1
      have a2 := div_nn h2 c1
      have e1 : mx (L / s) 0 = 0 := by unfold mx; grind
      have e2 : 0 ≤ mnn (R / s) 1 := by unfold mnn; grind
      refine ⟨mnn (R / s) 1, ?_, e2⟩
      simp only [Option.bind_some, chk2, e1]
      rw [if_neg (by grind)]
    · rw [if_neg c1]
      have c2 : 0 < -s := by grind
      have a1 := (div_le0 c2).mpr (show -R ≤ 0 by grind)
      have a2 := div_nn (show 0 ≤ -L by grind) c2
      rw [← div_flip] at a1 a2
      have e1 : mx (R / s) 0 = 0 := by unfold mx; grind
      have e2 : 0 ≤ mnn (L / s) 1 := by unfold mnn; grind
      refine ⟨mnn (L / s) 1, ?_, e2⟩
      simp only [Option.bind_some, chk2, e1]
      rw [if_neg (by grind)]
theorem both_some {p q : Option (Rat × Rat)} {τ : Rat} (h : both p q = some τ) : ∃ a b, p = some a ∧ q = some b ∧ τ = mx a.1 b.1 ∧ mx a.1 b.1 ≤ mnn a.2 b.2 := by
  cases p with
  | none => cases h
  | some a =>
    cases q with
    | none => cases h
    | some b =>
      simp only [both] at h
      split at h
      · cases h
      · cases h
        exact ⟨a, b, rfl, rfl, rfl, by grind⟩
theorem both_in {L R B T sx sy τ : Rat} (hx : L < R) (hy : B < T) (h : both (told L R sx) (told B T sy) = some τ) : (L ≤ τ * sx ∧ τ * sx ≤ R) ∧ (B ≤ τ * sy ∧ τ * sy ≤ T) := by
  obtain ⟨a, b, e1, e2, e3, e4⟩ := both_some h
  have m1 : a.1 ≤ mx a.1 b.1 := by unfold mx; grind
  have m2 : b.1 ≤ mx a.1 b.1 := by unfold mx; grind
  have m3 : mnn a.2 b.2 ≤ a.2 := by unfold mnn; grind
  have m4 : mnn a.2 b.2 ≤ b.2 := by unfold mnn; grind
  exact ⟨told_in hx e1 (by grind) (by grind), told_in hy e2 (by grind) (by grind)⟩
theorem both_z {L R B T sx sy : Rat} (hx : L < R) (hy : B < T) : both (told L R sx) (told B T sy) = some 0 ↔ L ≤ 0 ∧ B ≤ 0 ∧ 0 ≤ R ∧ 0 ≤ T := by
  constructor
  · intro h
    obtain ⟨h1, h2⟩ := both_in hx hy h
    have e1 : (0 : Rat) * sx = 0 := by grind
    have e2 : (0 : Rat) * sy = 0 := by grind
    rw [e1] at h1
    rw [e2] at h2
    grind
  · intro h
    obtain ⟨g, e1, h1⟩ := told_zero (s := sx) h.1 h.2.2.1
    obtain ⟨g', e2, h2⟩ := told_zero (s := sy) h.2.1 h.2.2.2
    rw [e1, e2]
    have m1 : mx (0 : Rat) 0 = 0 := by unfold mx; grind
    have m2 : 0 ≤ mnn g g' := by unfold mnn; grind
    simp only [both, m1]
    rw [if_neg (by grind)]
end k21
set_option Elab.async false
set_option linter.all false
set_option maxRecDepth 100000
set_option maxHeartbeats 4000000
set_option exponentiation.threshold 20000
namespace k21
open PySem PySem.Spec PyProof.Rows L2 Fe
def l_law_1b : Ss := .cons (.set 18 (.call i_comes_to (.cons (.bi .list (.cons (.var 7) (.nil))) (.cons (.bi .list (.cons (.var 8) (.nil))) (.cons (.bi .tuple (.cons (.var 15) (.nil))) (.nil)))))) (.cons (.ifs (.ors (.cons (.cmp .ne (.var 18) (.call i__law_comes (.cons (.var 5) (.cons (.var 6) (.cons (.var 15) (.nil)))))) (.cons (.cmp .ne (.cmp .eq (.var 18) (.tup (.cons (.int 0) (.cons (.int 1) (.nil))))) (.var 13)) (.nil)))) (.cons (.ret (.bl false)) (.nil)) (.nil)) (.cons (.ifs (.noN (.var 18)) (.cons (.set 19 (.comp (.bi .tuple (.cons (.comp (.call i__law_add (.cons (.var 20) (.cons (.call i__law_times (.cons (.var 18) (.cons (.ix (.var 15) (.var 17)) (.nil)))) (.nil)))) (.nm 20) (.e (.ix (.var 5) (.var 17))) (.none) [20]) (.nil))) (.nm 17) (.r1 (.int 2)) (.none) [17])) (.cons (.ifs (.cmp .ne (.call i_gap (.cons (.call i__law_corners (.cons (.var 19) (.nil))) (.cons (.bi .list (.cons (.var 8) (.nil))) (.nil)))) (.tup (.cons (.int 0) (.cons (.int 1) (.nil))))) (.cons (.ret (.bl false)) (.nil)) (.nil)) (.nil))) (.nil)) (.nil)))
theorem l_law_1_split : l_law_1 = .cons (.setF 15 (.lst (.cons (.call i__law_fraction (.cons (.var 1) (.cons (.bin .add (.bin .add (.var 3) (.int 80)) (.bin .mul (.int 6) (.var 10))) (.cons (.var 4) (.nil))))) (.cons (.call i__law_fraction (.cons (.var 1) (.cons (.bin .add (.bin .add (.var 3) (.int 82)) (.bin .mul (.int 6) (.var 10))) (.cons (.var 4) (.nil))))) (.nil))))) (.cons (.set 16 (.call i__law_mix (.cons (.var 1) (.cons (.bin .add (.bin .add (.var 3) (.int 84)) (.bin .mul (.int 6) (.var 10))) (.cons (.int 5) (.nil)))))) (.cons (.ifs (.cmp .lt (.var 16) (.int 2)) (.cons (.setIx 15 (.var 16) (.tup (.cons (.int 0) (.cons (.int 1) (.nil))))) (.nil)) (.cons (.ifs (.cmp .eq (.var 16) (.int 2)) (.cons (.setF 15 (.comp (.call i__law_take (.cons (.ix (.ix (.var 6) (.var 17)) (.int 0)) (.cons (.ix (.ix (.var 5) (.var 17)) (.call i__law_mix (.cons (.var 1) (.cons (.bin .add (.bin .add (.var 3) (.int 85)) (.bin .mul (.int 6) (.var 10))) (.cons (.int 2) (.nil)))))) (.nil)))) (.nm 17) (.r1 (.int 2)) (.none) [17])) (.nil)) (.nil)) (.nil))) l_law_1b)) := rfl
theorem cneO (q : Option Rat) : cmpV .ne (OQ q) (OQ q) = .ok (.bool false) := by
  cases q with
  | none => rfl
  | some x => exact cneS rfl
theorem ceqO (q : Option Rat) : cmpV .eq (OQ q) (QD 0) = .ok (.bool (decide (q = some 0))) := by
  cases q with
  | none => rfl
  | some x =>
    show cmpV .eq (QD x) (QD 0) = _
    rw [ceqQ]
    congr 2
    simp
theorem cneB (a : Bool) : cmpV .ne (.bool a) (.bool a) = .ok (.bool false) := by cases a <;> rfl
section
variable {l b r t u c v w : Rat} {k : Nat} [BdQ l k] [BdQ b k] [BdQ r k] [BdQ t k] [BdQ u k] [BdQ c k] [BdQ v k] [BdQ w k] (hl : l < r) (hb : b < t) (hu : u < v) (hc : c < w) (hk : k ≤ 150)
include hl hb hu hc hk
theorem ev_gap0 (n : Nat) (h : lin l b r t u c v w = none) : evF pg (n + 9) i_gap [BC l b r t, BC u c v w] = .ok (QD 0) := by
  rw [u_gap]
  unfold b_gap
  have q := ev_parting hl hb hu hc hk hk n
  rw [h] at q
  have q2 : isNoneD (OLn none) = true := rfl
  simp! [ev_both hl hb hu hc hk hk (n + 1), q, q2, gZ]
end

section
variable {l b r t u c v w : Rat} (hl : l < r) (hb : b < t) (hu : u < v) (hc : c < w) (sl : Sx l 6000) (sr : Sx r 18000) (sb : Sx b 6000) (st : Sx t 18000) (su : Sx u 42000) (sv : Sx v 42000) (sc : Sx c 42000) (sw : Sx w 42000)
include hl hb hu hc sl sr sb st su sv sc sw
theorem it_step (n : Nat) {ds : List Int} (hd : okD ds) (k most : Int) (hk : 0 ≤ k) (hk2 : k < 6000) (m0 : 0 < most) (m1 : most ≤ 1000) (T : Int) (h0 : 0 ≤ T) (h1 : T ≤ 4) (X0 X2 : PD) (x9 x11 x12 x14 x15 x16 x17 x18 x19 x20 x21 x22 x23 : Option PD) :
    ∃ (sx sy : Rat) (y16 y17 : Option PD), Sx sx 60000 ∧ Sx sy 60000 ∧ ∀ z : SR, evSs (sgOf pg (n + 11)) l_law_1b ([15], [some X0, some (Ld ds), some X2, some (.int k), some (.int most), some (BX l b r t), some (BX u c v w), some (BC l b r t), some (BC u c v w), x9, some (.int T), x11, x12, some (.bool (decide (gp l b r t u c v w = 0))), x14, some (.list [QD sx, QD sy]), y16, y17, x18, x19, x20, x21, x22, x23]) = z → evSs (sgOf pg (n + 11)) l_law_1 ([], [some X0, some (Ld ds), some X2, some (.int k), some (.int most), some (BX l b r t), some (BX u c v w), some (BC l b r t), some (BC u c v w), x9, some (.int T), x11, x12, some (.bool (decide (gp l b r t u c v w = 0))), x14, x15, x16, x17, x18, x19, x20, x21, x22, x23]) = z := by
  have A1 := sl.bd (k := 16) (by decide) (by decide)
  have A2 := sr.bd (k := 16) (by decide) (by decide)
  have A3 := sb.bd (k := 16) (by decide) (by decide)
  have A4 := st.bd (k := 16) (by decide) (by decide)
  have A5 := su.bd (k := 16) (by decide) (by decide)
  have A6 := sv.bd (k := 16) (by decide) (by decide)
  have A7 := sc.bd (k := 16) (by decide) (by decide)
  have A8 := sw.bd (k := 16) (by decide) (by decide)
  have BT : Bd T 3 := Bd.of 3 (show _ ≤ 4 by omega) (by decide)
  obtain ⟨q1, e1, f1⟩ := ev_lfr (n + 8) hd (k + 80 + 6 * T) most (by omega) (by omega) m0 m1
  obtain ⟨q2, e2, f2⟩ := ev_lfr (n + 8) hd (k + 82 + 6 * T) most (by omega) (by omega) m0 m1
  rw [l_law_1_split]
  have s1 : evS (sgOf pg (n + 11)) (.setF 15 (.lst (.cons (.call i__law_fraction (.cons (.var 1) (.cons (.bin .add (.bin .add (.var 3) (.int 80)) (.bin .mul (.int 6) (.var 10))) (.cons (.var 4) (.nil))))) (.cons (.call i__law_fraction (.cons (.var 1) (.cons (.bin .add (.bin .add (.var 3) (.int 82)) (.bin .mul (.int 6) (.var 10))) (.cons (.var 4) (.nil))))) (.nil))))) ([], [some X0, some (Ld ds), some X2, some (.int k), some (.int most), some (BX l b r t), some (BX u c v w), some (BC l b r t), some (BC u c v w), x9, some (.int T), x11, x12, some (.bool (decide (gp l b r t u c v w = 0))), x14, x15, x16, x17, x18, x19, x20, x21, x22, x23]) = .nx ([15], [some X0, some (Ld ds), some X2, some (.int k), some (.int most), some (BX l b r t), some (BX u c v w), some (BC l b r t), some (BC u c v w), x9, some (.int T), x11, x12, some (.bool (decide (gp l b r t u c v w = 0))), x14, some (.list [QD q1, QD q2]), x16, x17, x18, x19, x20, x21, x22, x23]) := by
    simp! [e1, e2]
    rfl
  rcases mix5 ds (k + 84 + 6 * T) with cc | cc | cc | cc | cc
  · refine ⟨0, q2, _, _, Sx.zero.up (by decide), f2.up (by decide), fun z kz => seq1 s1 (seq1 (s' := ([15], [some X0, some (Ld ds), some X2, some (.int k), some (.int most), some (BX l b r t), some (BX u c v w), some (BC l b r t), some (BC u c v w), x9, some (.int T), x11, x12, some (.bool (decide (gp l b r t u c v w = 0))), x14, some (.list [QD q1, QD q2]), some (.int 0), x17, x18, x19, x20, x21, x22, x23])) ?_ (seq1 (s' := ([15], [some X0, some (Ld ds), some X2, some (.int k), some (.int most), some (BX l b r t), some (BX u c v w), some (BC l b r t), some (BC u c v w), x9, some (.int T), x11, x12, some (.bool (decide (gp l b r t u c v w = 0))), x14, some (.list [QD 0, QD q2]), some (.int 0), x17, x18, x19, x20, x21, x22, x23])) ?_ kz))⟩
    · simp! [ev_mix, hd, cc]
      rfl
    · refine ifsT (by simp! []) rfl ?_
      simp! [t01]
      rfl
  · refine ⟨q1, 0, _, _, f1.up (by decide), Sx.zero.up (by decide), fun z kz => seq1 s1 (seq1 (s' := ([15], [some X0, some (Ld ds), some X2, some (.int k), some (.int most), some (BX l b r t), some (BX u c v w), some (BC l b r t), some (BC u c v w), x9, some (.int T), x11, x12, some (.bool (decide (gp l b r t u c v w = 0))), x14, some (.list [QD q1, QD q2]), some (.int 1), x17, x18, x19, x20, x21, x22, x23])) ?_ (seq1 (s' := ([15], [some X0, some (Ld ds), some X2, some (.int k), some (.int most), some (BX l b r t), some (BX u c v w), some (BC l b r t), some (BC u c v w), x9, some (.int T), x11, x12, some (.bool (decide (gp l b r t u c v w = 0))), x14, some (.list [QD q1, QD 0]), some (.int 1), x17, x18, x19, x20, x21, x22, x23])) ?_ kz))⟩
    · simp! [ev_mix, hd, cc]
      rfl
    · refine ifsT (by simp! []) rfl ?_
      simp! [t01]
      rfl
  · have s2 : evS (sgOf pg (n + 11)) (.set 16 (.call i__law_mix (.cons (.var 1) (.cons (.bin .add (.bin .add (.var 3) (.int 84)) (.bin .mul (.int 6) (.var 10))) (.cons (.int 5) (.nil)))))) ([15], [some X0, some (Ld ds), some X2, some (.int k), some (.int most), some (BX l b r t), some (BX u c v w), some (BC l b r t), some (BC u c v w), x9, some (.int T), x11, x12, some (.bool (decide (gp l b r t u c v w = 0))), x14, some (.list [QD q1, QD q2]), x16, x17, x18, x19, x20, x21, x22, x23]) = .nx ([15], [some X0, some (Ld ds), some X2, some (.int k), some (.int most), some (BX l b r t), some (BX u c v w), some (BC l b r t), some (BC u c v w), x9, some (.int T), x11, x12, some (.bool (decide (gp l b r t u c v w = 0))), x14, some (.list [QD q1, QD q2]), some (.int 2), x17, x18, x19, x20, x21, x22, x23]) := by
      simp! [ev_mix, hd, cc]
      rfl
    have a0 := mix0 ds (k + 85 + 6 * T) 2
    have a1 := mixL ds (k + 85 + 6 * T) 2 (by decide)
    have a2 : mixF ds (k + 85 + 6 * T) 2 = 0 ∨ mixF ds (k + 85 + 6 * T) 2 = 1 := by omega
    rcases a2 with a2 | a2
    · refine ⟨u - l, c - b, _, _, (su.sub sl).up (by decide), (sc.sub sb).up (by decide), fun z kz => seq1 s1 (seq1 s2 (seq1 (s' := ([15], [some X0, some (Ld ds), some X2, some (.int k), some (.int most), some (BX l b r t), some (BX u c v w), some (BC l b r t), some (BC u c v w), x9, some (.int T), x11, x12, some (.bool (decide (gp l b r t u c v w = 0))), x14, some (.list [QD (u - l), QD (c - b)]), some (.int 2), x17, x18, x19, x20, x21, x22, x23])) ?_ kz))⟩
      refine ifsF (by simp! []) rfl (seq1 (ifsT (by simp! []) rfl ?_) rfl)
      simp! [ev_mix, hd, a2, ev_ltake]
      rfl
    · refine ⟨u - r, c - t, _, _, (su.sub sr).up (by decide), (sc.sub st).up (by decide), fun z kz => seq1 s1 (seq1 s2 (seq1 (s' := ([15], [some X0, some (Ld ds), some X2, some (.int k), some (.int most), some (BX l b r t), some (BX u c v w), some (BC l b r t), some (BC u c v w), x9, some (.int T), x11, x12, some (.bool (decide (gp l b r t u c v w = 0))), x14, some (.list [QD (u - r), QD (c - t)]), some (.int 2), x17, x18, x19, x20, x21, x22, x23])) ?_ kz))⟩
      refine ifsF (by simp! []) rfl (seq1 (ifsT (by simp! []) rfl ?_) rfl)
      simp! [ev_mix, hd, a2, ev_ltake]
      rfl
  · refine ⟨q1, q2, _, _, f1.up (by decide), f2.up (by decide), fun z kz => seq1 s1 (seq1 (s' := ([15], [some X0, some (Ld ds), some X2, some (.int k), some (.int most), some (BX l b r t), some (BX u c v w), some (BC l b r t), some (BC u c v w), x9, some (.int T), x11, x12, some (.bool (decide (gp l b r t u c v w = 0))), x14, some (.list [QD q1, QD q2]), some (.int 3), x17, x18, x19, x20, x21, x22, x23])) ?_ (seq1 (s' := ([15], [some X0, some (Ld ds), some X2, some (.int k), some (.int most), some (BX l b r t), some (BX u c v w), some (BC l b r t), some (BC u c v w), x9, some (.int T), x11, x12, some (.bool (decide (gp l b r t u c v w = 0))), x14, some (.list [QD q1, QD q2]), some (.int 3), x17, x18, x19, x20, x21, x22, x23])) ?_ kz))⟩
    · simp! [ev_mix, hd, cc]
      rfl
    · refine ifsF (by simp! []) rfl (seq1 (ifsF (by simp! []) rfl rfl) rfl)
  · refine ⟨q1, q2, _, _, f1.up (by decide), f2.up (by decide), fun z kz => seq1 s1 (seq1 (s' := ([15], [some X0, some (Ld ds), some X2, some (.int k), some (.int most), some (BX l b r t), some (BX u c v w), some (BC l b r t), some (BC u c v w), x9, some (.int T), x11, x12, some (.bool (decide (gp l b r t u c v w = 0))), x14, some (.list [QD q1, QD q2]), some (.int 4), x17, x18, x19, x20, x21, x22, x23])) ?_ (seq1 (s' := ([15], [some X0, some (Ld ds), some X2, some (.int k), some (.int most), some (BX l b r t), some (BX u c v w), some (BC l b r t), some (BC u c v w), x9, some (.int T), x11, x12, some (.bool (decide (gp l b r t u c v w = 0))), x14, some (.list [QD q1, QD q2]), some (.int 4), x17, x18, x19, x20, x21, x22, x23])) ?_ kz))⟩
    · simp! [ev_mix, hd, cc]
      rfl
    · refine ifsF (by simp! []) rfl (seq1 (ifsF (by simp! []) rfl rfl) rfl)
end
end k21
set_option Elab.async false
set_option linter.all false
set_option maxRecDepth 100000
set_option maxHeartbeats 4000000
set_option exponentiation.threshold 20000
namespace k21
open PySem PySem.Spec PyProof.Rows L2 Fe
theorem ifsF' {S : Sig} {c : E} {a b : Ss} {W W' : List Nat} {ρ : Fe.Env} {z : SR} (h : evE S c ρ = .ok (.bool false)) (hd : Fe.dl W (pk c) = W') (h2 : evSs S b (W', ρ) = z) : evS S (.ifs c a b) (W, ρ) = z := by
  rw [evS]
  dsimp only
  rw [h, hd, ← h2]
  rfl
section
variable {l b r t u c v w : Rat} (hl : l < r) (hb : b < t) (hu : u < v) (hc : c < w)
include hl hb hu hc
theorem gap_there (n : Nat) {k : Nat} (hk : k ≤ 150) (B1 : BdQ l k) (B2 : BdQ b k) (B3 : BdQ r k) (B4 : BdQ t k) (B5 : BdQ u k) (B6 : BdQ c k) (B7 : BdQ v k) (B8 : BdQ w k) (h : lin l b r t u c v w = none) : evF pg (n + 9) i_gap [BC l b r t, BC u c v w] = .ok (QD 0) := @ev_gap0 l b r t u c v w k B1 B2 B3 B4 B5 B6 B7 B8 hl hb hu hc hk n h
theorem there_lin {τ sx sy : Rat} (h : both (told (u - r) (v - l) sx) (told (c - t) (w - b) sy) = some τ) : lin (l + τ * sx) (b + τ * sy) (r + τ * sx) (t + τ * sy) u c v w = none := by
  obtain ⟨h1, h2⟩ := both_in (by grind) (by grind) h
  refine lin_tch.mpr ?_
  unfold tch
  grind
theorem near_eq {sx sy : Rat} : (both (told (u - r) (v - l) sx) (told (c - t) (w - b) sy) = some 0) = (gp l b r t u c v w = 0) := by
  apply propext
  rw [both_z (by grind) (by grind), gp_tch]
  unfold tch
  constructor <;> intro h <;> grind
theorem comes_eq {sx sy : Rat} : cEnd (cs4 (u + (0 - r)) (c + (0 - t)) (v + (0 - l)) (w + (0 - b)) sx sy) = both (told (u - r) (v - l) sx) (told (c - t) (w - b) sy) := by
  have e1 : u + (0 - r) = u - r := by grind
  have e2 : c + (0 - t) = c - t := by grind
  have e3 : v + (0 - l) = v - l := by grind
  have e4 : w + (0 - b) = w - b := by grind
  rw [e1, e2, e3, e4]
  exact comes_law (by grind) (by grind)
variable (sl : Sx l 6000) (sr : Sx r 18000) (sb : Sx b 6000) (st : Sx t 18000) (su : Sx u 42000) (sv : Sx v 42000) (sc : Sx c 42000) (sw : Sx w 42000)
include sl sr sb st su sv sc sw
theorem it_rest (n : Nat) {ds : List Int} (k most T : Int) (X0 X2 : PD) (x9 x11 x12 x14 y16 y17 x18 x19 x20 x21 x22 x23 : Option PD) {sx sy : Rat} (ssx : Sx sx 60000) (ssy : Sx sy 60000) :
    ∃ y18 y19, evSs (sgOf pg (n + 11)) l_law_1b ([15], [some X0, some (Ld ds), some X2, some (.int k), some (.int most), some (BX l b r t), some (BX u c v w), some (BC l b r t), some (BC u c v w), x9, some (.int T), x11, x12, some (.bool (decide (gp l b r t u c v w = 0))), x14, some (.list [QD sx, QD sy]), y16, y17, x18, x19, x20, x21, x22, x23]) = .nx ([], [some X0, some (Ld ds), some X2, some (.int k), some (.int most), some (BX l b r t), some (BX u c v w), some (BC l b r t), some (BC u c v w), x9, some (.int T), x11, x12, some (.bool (decide (gp l b r t u c v w = 0))), x14, some (.list [QD sx, QD sy]), y16, y17, y18, y19, x20, x21, x22, x23]) := by
  have A1 := sl.bd (k := 16) (by decide) (by decide)
  have A2 := sr.bd (k := 16) (by decide) (by decide)
  have A3 := sb.bd (k := 16) (by decide) (by decide)
  have A4 := st.bd (k := 16) (by decide) (by decide)
  have A5 := su.bd (k := 16) (by decide) (by decide)
  have A6 := sv.bd (k := 16) (by decide) (by decide)
  have A7 := sc.bd (k := 16) (by decide) (by decide)
  have A8 := sw.bd (k := 16) (by decide) (by decide)
  have C1 := ssx.bd (k := 16) (by decide) (by decide)
  have C2 := ssy.bd (k := 16) (by decide) (by decide)
  have q1 := ev_comes hl hb hu hc (k := 16) (by decide) (n + 2) sx sy (j := 16) (by decide)
  have q2 := ev_lcomes hl hb hu hc (k := 16) (by decide) (n + 5) sx sy (j := 16) (by decide)
  rw [comes_eq hl hb hu hc] at q1
  have nz := near_eq hl hb hu hc (sx := sx) (sy := sy)
  have th := fun τ (h : both (told (u - r) (v - l) sx) (told (c - t) (w - b) sy) = some τ) => there_lin hl hb hu hc (sx := sx) (sy := sy) h
  have bt : ∀ τ, both (told (u - r) (v - l) sx) (told (c - t) (w - b) sy) = some τ → BdQ τ 49 := fun τ h => by
    obtain ⟨a, a', e1, e2, e3, e4⟩ := both_some h
    have p1 := ax_bd hl hb hu hc (k := 16) (by decide) n (j := 16) e1
    have p2 := ax_bd hl hb hu hc (k := 16) (by decide) n (j := 16) e2
    rw [e3]
    rcases mx_or a.1 a'.1 with z | z <;> rw [z]
    · exact p1.1
    · exact p2.1
  generalize both (told (u - r) (v - l) sx) (told (c - t) (w - b) sy) = o at *
  have nd : decide (o = some 0) = decide (gp l b r t u c v w = 0) := by simp only [nz]
  unfold l_law_1b
  cases o with
  | none =>
    refine ⟨_, _, seq1 (s' := ([15], [some X0, some (Ld ds), some X2, some (.int k), some (.int most), some (BX l b r t), some (BX u c v w), some (BC l b r t), some (BC u c v w), x9, some (.int T), x11, x12, some (.bool (decide (gp l b r t u c v w = 0))), x14, some (.list [QD sx, QD sy]), y16, y17, some (OQ none), x19, x20, x21, x22, x23])) ?_ (seq1 (s' := ([], [some X0, some (Ld ds), some X2, some (.int k), some (.int most), some (BX l b r t), some (BX u c v w), some (BC l b r t), some (BC u c v w), x9, some (.int T), x11, x12, some (.bool (decide (gp l b r t u c v w = 0))), x14, some (.list [QD sx, QD sy]), y16, y17, some (OQ none), x19, x20, x21, x22, x23])) (ifsF' ?_ rfl rfl) (seq1 (s' := ([], [some X0, some (Ld ds), some X2, some (.int k), some (.int most), some (BX l b r t), some (BX u c v w), some (BC l b r t), some (BC u c v w), x9, some (.int T), x11, x12, some (.bool (decide (gp l b r t u c v w = 0))), x14, some (.list [QD sx, QD sy]), y16, y17, some (OQ none), x19, x20, x21, x22, x23])) (ifsF rfl rfl rfl) rfl))⟩
    · simp! [q1]
      rfl
    · simp! [q2, cneO, t01, ceqO, nd, cneB]
  | some τ =>
    have Bt := bt τ rfl
    have lt := th τ rfl
    have g := gap_there (l := l + τ * sx) (b := b + τ * sy) (r := r + τ * sx) (t := t + τ * sy) (u := u) (c := c) (v := v) (w := w) (by grind) (by grind) hu hc (n + 2) (k := 100) (by decide)
      ((inferInstance : BdQ (l + τ * sx) _).up (by decide)) ((inferInstance : BdQ (b + τ * sy) _).up (by decide)) ((inferInstance : BdQ (r + τ * sx) _).up (by decide)) ((inferInstance : BdQ (t + τ * sy) _).up (by decide)) (A5.up (by decide)) (A7.up (by decide)) (A6.up (by decide)) (A8.up (by decide)) lt
    refine ⟨_, _, seq1 (s' := ([15], [some X0, some (Ld ds), some X2, some (.int k), some (.int most), some (BX l b r t), some (BX u c v w), some (BC l b r t), some (BC u c v w), x9, some (.int T), x11, x12, some (.bool (decide (gp l b r t u c v w = 0))), x14, some (.list [QD sx, QD sy]), y16, y17, some (OQ (some τ)), x19, x20, x21, x22, x23])) ?_ (seq1 (s' := ([], [some X0, some (Ld ds), some X2, some (.int k), some (.int most), some (BX l b r t), some (BX u c v w), some (BC l b r t), some (BC u c v w), x9, some (.int T), x11, x12, some (.bool (decide (gp l b r t u c v w = 0))), x14, some (.list [QD sx, QD sy]), y16, y17, some (OQ (some τ)), x19, x20, x21, x22, x23])) (ifsF' ?_ rfl rfl) (seq1 (s' := ([], [some X0, some (Ld ds), some X2, some (.int k), some (.int most), some (BX l b r t), some (BX u c v w), some (BC l b r t), some (BC u c v w), x9, some (.int T), x11, x12, some (.bool (decide (gp l b r t u c v w = 0))), x14, some (.list [QD sx, QD sy]), y16, y17, some (OQ (some τ)), some (BX (l + τ * sx) (b + τ * sy) (r + τ * sx) (t + τ * sy)), x20, x21, x22, x23])) (ifsT rfl rfl (seq1 (s' := ([], [some X0, some (Ld ds), some X2, some (.int k), some (.int most), some (BX l b r t), some (BX u c v w), some (BC l b r t), some (BC u c v w), x9, some (.int T), x11, x12, some (.bool (decide (gp l b r t u c v w = 0))), x14, some (.list [QD sx, QD sy]), y16, y17, some (OQ (some τ)), some (BX (l + τ * sx) (b + τ * sy) (r + τ * sx) (t + τ * sy)), x20, x21, x22, x23])) ?_ (seq1 (ifsF ?_ rfl rfl) rfl))) rfl))⟩
    · simp! [q1]
      rfl
    · simp! [q2, cneO, t01, ceqO, nd, cneB]
    · have e0 : OQ (some τ) = QD τ := rfl
      simp! [e0, ev_ltimes, ev_ladd]
    · simp! [ev_lcorners, g, t01]
end
end k21
set_option Elab.async false
set_option linter.all false
set_option maxRecDepth 100000
set_option maxHeartbeats 4000000
set_option exponentiation.threshold 20000
namespace k21
open PySem PySem.Spec PyProof.Rows L2 Fe
section
variable {l b r t u c v w : Rat} (hl : l < r) (hb : b < t) (hu : u < v) (hc : c < w) (sl : Sx l 6000) (sr : Sx r 18000) (sb : Sx b 6000) (st : Sx t 18000) (su : Sx u 42000) (sv : Sx v 42000) (sc : Sx c 42000) (sw : Sx w 42000)
include hl hb hu hc sl sr sb st su sv sc sw
theorem it_one (n : Nat) {ds : List Int} (hd : okD ds) (k most : Int) (hk : 0 ≤ k) (hk2 : k < 6000) (m0 : 0 < most) (m1 : most ≤ 1000) (T : Int) (h0 : 0 ≤ T) (h1 : T ≤ 4) (X0 X2 : PD) (x9 x11 x12 x14 x15 x16 x17 x18 x19 x20 x21 x22 x23 : Option PD) :
    ∃ y15 y16 y17 y18 y19, evSs (sgOf pg (n + 11)) l_law_1 ([], [some X0, some (Ld ds), some X2, some (.int k), some (.int most), some (BX l b r t), some (BX u c v w), some (BC l b r t), some (BC u c v w), x9, some (.int T), x11, x12, some (.bool (decide (gp l b r t u c v w = 0))), x14, x15, x16, x17, x18, x19, x20, x21, x22, x23]) = .nx ([], [some X0, some (Ld ds), some X2, some (.int k), some (.int most), some (BX l b r t), some (BX u c v w), some (BC l b r t), some (BC u c v w), x9, some (.int T), x11, x12, some (.bool (decide (gp l b r t u c v w = 0))), x14, y15, y16, y17, y18, y19, x20, x21, x22, x23]) := by
  obtain ⟨sx, sy, y16, y17, s1, s2, kont⟩ := it_step hl hb hu hc sl sr sb st su sv sc sw n hd k most hk hk2 m0 m1 T h0 h1 X0 X2 x9 x11 x12 x14 x15 x16 x17 x18 x19 x20 x21 x22 x23
  obtain ⟨y18, y19, q⟩ := it_rest hl hb hu hc sl sr sb st su sv sc sw n (ds := ds) k most T X0 X2 x9 x11 x12 x14 y16 y17 x18 x19 x20 x21 x22 x23 s1 s2
  exact ⟨_, _, _, _, _, kont _ q⟩
theorem it_all (n : Nat) {ds : List Int} (hd : okD ds) (k most : Int) (hk : 0 ≤ k) (hk2 : k < 6000) (m0 : 0 < most) (m1 : most ≤ 1000) (X0 X2 : PD) (x9 x10 x11 x12 x14 x15 x16 x17 x18 x19 x20 x21 x22 x23 : Option PD) :
    ∃ y15 y16 y17 y18 y19, evS (sgOf pg (n + 11)) (.for_ (.nm 10) (.r1 (.int 5)) l_law_1) ([], [some X0, some (Ld ds), some X2, some (.int k), some (.int most), some (BX l b r t), some (BX u c v w), some (BC l b r t), some (BC u c v w), x9, x10, x11, x12, some (.bool (decide (gp l b r t u c v w = 0))), x14, x15, x16, x17, x18, x19, x20, x21, x22, x23]) = .nx ([], [some X0, some (Ld ds), some X2, some (.int k), some (.int most), some (BX l b r t), some (BX u c v w), some (BC l b r t), some (BC u c v w), x9, some (.int 4), x11, x12, some (.bool (decide (gp l b r t u c v w = 0))), x14, y15, y16, y17, y18, y19, x20, x21, x22, x23]) := by
  obtain ⟨a15, a16, a17, a18, a19, s0⟩ := it_one hl hb hu hc sl sr sb st su sv sc sw n hd k most hk hk2 m0 m1 0 (by decide) (by decide) X0 X2 x9 x11 x12 x14 x15 x16 x17 x18 x19 x20 x21 x22 x23
  obtain ⟨b15, b16, b17, b18, b19, s1⟩ := it_one hl hb hu hc sl sr sb st su sv sc sw n hd k most hk hk2 m0 m1 1 (by decide) (by decide) X0 X2 x9 x11 x12 x14 a15 a16 a17 a18 a19 x20 x21 x22 x23
  obtain ⟨c15, c16, c17, c18, c19, s2⟩ := it_one hl hb hu hc sl sr sb st su sv sc sw n hd k most hk hk2 m0 m1 2 (by decide) (by decide) X0 X2 x9 x11 x12 x14 b15 b16 b17 b18 b19 x20 x21 x22 x23
  obtain ⟨d15, d16, d17, d18, d19, s3⟩ := it_one hl hb hu hc sl sr sb st su sv sc sw n hd k most hk hk2 m0 m1 3 (by decide) (by decide) X0 X2 x9 x11 x12 x14 c15 c16 c17 c18 c19 x20 x21 x22 x23
  obtain ⟨e15, e16, e17, e18, e19, s4⟩ := it_one hl hb hu hc sl sr sb st su sv sc sw n hd k most hk hk2 m0 m1 4 (by decide) (by decide) X0 X2 x9 x11 x12 x14 d15 d16 d17 d18 d19 x20 x21 x22 x23
  refine ⟨e15, e16, e17, e18, e19, evFor (items := [.int 0, .int 1, .int 2, .int 3, .int 4]) (W' := []) ?_ rfl (for_nm s0 (for_nm s1 (for_nm s2 (for_nm s3 (for_nm s4 for_nil)))))⟩
  simp! []
end
theorem cneLn (q : Option (Int × Int)) : cmpV .ne (OLn q) (OLn q) = .ok (.bool false) := by
  cases q with
  | none => rfl
  | some x => exact cneS rfl
theorem isLn (q : Option (Int × Int)) : isNoneD (OLn q) = decide (q = none) := by
  cases q with
  | none => rfl
  | some x => rfl
theorem l_law_2_at : l_law_2 = l_law_2 := rfl
theorem most3 (ds : List Int) (k : Int) : ∃ M : Int, ixV (.list [.int 6, .int 60, .int 1000]) (.int (mixF ds k 3)) = .ok (.int M) ∧ 0 < M ∧ M ≤ 1000 := by
  have a0 := mix0 ds k 3
  have a1 := mixL ds k 3 (by decide)
  have : mixF ds k 3 = 0 ∨ mixF ds k 3 = 1 ∨ mixF ds k 3 = 2 := by omega
  rcases this with q | q | q <;> rw [q]
  · exact ⟨6, rfl, by decide, by decide⟩
  · exact ⟨60, rfl, by decide, by decide⟩
  · exact ⟨1000, rfl, by decide, by decide⟩
theorem meet_eq {l b r t u c v w : Rat} {nb : Bool} (hnb : nb = decide (gp l b r t u c v w = 0)) (d : PD) (h1 : tch l b r t u c v w → d = PQ (mx l u) (mx b c)) (h2 : ¬ tch l b r t u c v w → d = .none) :
    ∃ k : Int, biV .int [.bool nb] = .ok (.int k) ∧ ixV (.list [.none, PQ (mx l u) (mx b c)]) (.int k) = .ok d ∧ cmpV .ne d d = .ok (.bool false) := by
  by_cases z : tch l b r t u c v w
  · have g : gp l b r t u c v w = 0 := gp_tch.mpr z
    rw [h1 z, hnb, decide_eq_true g]
    exact ⟨1, rfl, rfl, cneS rfl⟩
  · have g : ¬ gp l b r t u c v w = 0 := fun e => z (gp_tch.mp e)
    rw [h2 z, hnb, decide_eq_false g]
    exact ⟨0, rfl, rfl, rfl⟩
theorem sgp_bd {l r u v : Rat} {k : Nat} [BdQ l k] [BdQ r k] [BdQ u k] [BdQ v k] : BdQ (sgp l r u v) (k + k + 1) := by
  unfold sgp
  rcases mx_or (mx (l - v) (u - r)) 0 with z | z <;> rw [z]
  · rcases mx_or (l - v) (u - r) with z | z <;> rw [z] <;> infer_instance
  · exact (inferInstance : BdQ (0 : Rat) 1).up (by omega)
theorem ev_meet {l b r t u c v w : Rat} {k : Nat} [BdQ l k] [BdQ b k] [BdQ r k] [BdQ t k] [BdQ u k] [BdQ c k] [BdQ v k] [BdQ w k] (hl : l < r) (hb : b < t) (hu : u < v) (hc : c < w) (hk : k ≤ 20) (n : Nat) : ∃ d, evF pg (n + 8) i_meeting [BC l b r t, BC u c v w] = .ok d ∧ (tch l b r t u c v w → d = PQ (mx l u) (mx b c)) ∧ (¬ tch l b r t u c v w → d = .none) := by
  obtain ⟨o, h1, h2, h3⟩ := ev_meeting hl hb hu hc hk n
  exact ⟨_, h1, fun z => by rw [h2 z], fun z => by rw [h3 z]⟩
theorem turn_step (n : Nat) {ds : List Int} (hd : okD ds) (X0 : PD) (T : Int) (h0 : 0 ≤ T) (h1 : T ≤ 3) (x3 x4 x5 x6 x7 x8 x9 x10 x11 x12 x13 x14 x15 x16 x17 x18 x19 x20 x21 x22 x23 : Option PD) :
    ∃ y3 y4 y5 y6 y7 y8 y9 y10 y11 y12 y13 y14 y15 y16 y17 y18 y19 y20 y21 y22 y23, evSs (sgOf pg (n + 11)) l_law_2 ([], [some X0, some (Ld ds), some (.int T), x3, x4, x5, x6, x7, x8, x9, x10, x11, x12, x13, x14, x15, x16, x17, x18, x19, x20, x21, x22, x23]) = .nx ([], [some X0, some (Ld ds), some (.int T), y3, y4, y5, y6, y7, y8, y9, y10, y11, y12, y13, y14, y15, y16, y17, y18, y19, y20, y21, y22, y23]) := by
  have BT : Bd T 2 := Bd.of 2 (show _ ≤ 3 by omega) (by decide)
  obtain ⟨M, eM, M0, M1⟩ := most3 ds (10 + 120 * T)
  obtain ⟨l, b, r, t, e1, _, hl, hb, sl, sr, sb, st⟩ := ev_lbox (n + 7) hd (10 + 120 * T + 1) M (by omega) (by omega) M0 M1
  obtain ⟨u, c, v, w, e2, hu, hc, su, sv, sc, sw⟩ := ev_lbeside (n + 6) hd (10 + 120 * T + 12) M (by omega) (by omega) M0 M1 hl hb sl sr sb st
  have A1 := sl.bd (k := 16) (by decide) (by decide)
  have A2 := sr.bd (k := 16) (by decide) (by decide)
  have A3 := sb.bd (k := 16) (by decide) (by decide)
  have A4 := st.bd (k := 16) (by decide) (by decide)
  have A5 := su.bd (k := 16) (by decide) (by decide)
  have A6 := sv.bd (k := 16) (by decide) (by decide)
  have A7 := sc.bd (k := 16) (by decide) (by decide)
  have A8 := sw.bd (k := 16) (by decide) (by decide)
  have q6 := ev_lsingle hl hb (m := 16) (by decide) (n + 2) hd (10 + 120 * T + 40) (by omega) (by omega)
  have g1 := ev_grown (n + 3) hl hb hu hc (k := 16) (j := 16) (by decide) (by decide)
  have g2 := ev_grown (n + 3) hu hc hl hb (k := 16) (j := 16) (by decide) (by decide)
  rw [Rat.add_comm u l, Rat.add_comm c b, Rat.add_comm v r, Rat.add_comm w t] at g2
  have p1 := ev_gap hl hb hu hc (k := 16) (by decide) (n + 2)
  have p2 := ev_gap hu hc hl hb (k := 16) (by decide) (n + 2)
  rw [← gp_comm] at p2
  have r1 := ev_parted hl hb hu hc (k := 16) (j := 16) (by decide) (by decide) (n + 2)
  have r2 := ev_lline (l := l) (b := b) (r := r) (t := t) (u := u) (c := c) (v := v) (w := w) (k := 16) (by decide) (n + 6)
  obtain ⟨o1, m1, m2, m3⟩ := ev_meet hl hb hu hc (k := 16) (by decide) (n + 3)
  obtain ⟨o2, m4, m5, m6⟩ := ev_meet hu hc hl hb (k := 16) (by decide) (n + 3)
  have tc : tch u c v w l b r t ↔ tch l b r t u c v w := by unfold tch; constructor <;> intro h <;> grind
  have mc : ∀ x y : Rat, mx x y = mx y x := fun x y => by unfold mx; grind
  have lt : decide (lin l b r t u c v w = none) = decide (gp l b r t u c v w = 0) := by
    have : (lin l b r t u c v w = none) = (gp l b r t u c v w = 0) := propext (lin_tch.trans gp_tch.symm)
    simp only [this]
  have op := ev_opposite hl hb (n + 4) (k := 16) (by decide)
  have g3 := ev_grown (l := u) (b := c) (r := v) (t := w) (u := 0 - r) (c := 0 - t) (v := 0 - l) (w := 0 - b) (n + 3) hu hc (by grind) (by grind) (k := 16) (j := 18) (by decide) (by decide)
  have h3 := ev_has (l := u + (0 - r)) (b := c + (0 - t)) (r := v + (0 - l)) (t := w + (0 - b)) (k := 35) (by grind) (by grind) (n + 4) 0 0 (j := 1) (by decide) (by decide)
  have ou : (¬ (whT (leastI (sgn (0 - (u + (0 - r)))) [sgn (0 - (c + (0 - t))), sgn ((v + (0 - l)) - 0), sgn ((w + (0 - b)) - 0)]) = "out")) = (gp l b r t u c v w = 0) := by
    apply propext
    rw [out_tch, gp_tch]
    unfold tch
    constructor <;> intro h <;> grind
  generalize whT (leastI (sgn (0 - (u + (0 - r)))) [sgn (0 - (c + (0 - t))), sgn ((v + (0 - l)) - 0), sgn ((w + (0 - b)) - 0)]) = wz at *
  have oz : (!decide (wz = "out")) = decide (gp l b r t u c v w = 0) := by
    rw [← decide_not]
    simp only [ou]
  obtain ⟨j1, ja, jb, jc⟩ := meet_eq (nb := decide (gp l b r t u c v w = 0)) rfl o1 m2 m3
  have bs1 : BdQ (sgp l r u v) 33 := sgp_bd (k := 16)
  have bs2 : BdQ (sgp b t c w) 33 := sgp_bd (k := 16)
  have n1 : cmpV .ne (BC (l + u) (b + c) (r + v) (t + w)) (BC (l + u) (b + c) (r + v) (t + w)) = .ok (.bool false) := cneS rfl
  have oo : o2 = o1 := by
    by_cases z : tch l b r t u c v w
    · rw [m2 z, m5 (tc.mpr z), mc u l, mc c b]
    · rw [m3 z, m6 fun y => z (tc.mp y)]
  rw [oo] at m4
  obtain ⟨y15, y16, y17, y18, y19, loop⟩ := it_all hl hb hu hc sl sr sb st su sv sc sw n hd (10 + 120 * T) M (by omega) (by omega) M0 M1 X0 (.int T) (some (BX (l + u) (b + c) (r + v) (t + w))) x10 (some (.list [QD (sgp l r u v), QD (sgp b t c w)])) (some (QD (gp l b r t u c v w))) (some (PQ (mx l u) (mx b c))) x15 x16 x17 x18 x19 x20 x21 x22 x23
  refine ⟨some (.int (10 + 120 * T)), some (.int M), some (BX l b r t), some (BX u c v w), some (BC l b r t), some (BC u c v w), some (BX (l + u) (b + c) (r + v) (t + w)), some (.int 4), some (.list [QD (sgp l r u v), QD (sgp b t c w)]), some (QD (gp l b r t u c v w)), some (.bool (decide (gp l b r t u c v w = 0))), some (PQ (mx l u) (mx b c)), y15, y16, y17, y18, y19, x20, x21, x22, x23, ?_⟩
  unfold l_law_2
  refine seq1 (s' := ([], [some X0, some (Ld ds), some (.int T), some (.int (10 + 120 * T)), x4, x5, x6, x7, x8, x9, x10, x11, x12, x13, x14, x15, x16, x17, x18, x19, x20, x21, x22, x23])) ?_ (seq1 (s' := ([], [some X0, some (Ld ds), some (.int T), some (.int (10 + 120 * T)), some (.int M), x5, x6, x7, x8, x9, x10, x11, x12, x13, x14, x15, x16, x17, x18, x19, x20, x21, x22, x23])) ?_ (seq1 (s' := ([], [some X0, some (Ld ds), some (.int T), some (.int (10 + 120 * T)), some (.int M), some (BX l b r t), x6, x7, x8, x9, x10, x11, x12, x13, x14, x15, x16, x17, x18, x19, x20, x21, x22, x23])) ?_ (seq1 (s' := ([], [some X0, some (Ld ds), some (.int T), some (.int (10 + 120 * T)), some (.int M), some (BX l b r t), some (BX u c v w), x7, x8, x9, x10, x11, x12, x13, x14, x15, x16, x17, x18, x19, x20, x21, x22, x23])) ?_ (seq1 (s' := ([], [some X0, some (Ld ds), some (.int T), some (.int (10 + 120 * T)), some (.int M), some (BX l b r t), some (BX u c v w), some (BC l b r t), some (BC u c v w), x9, x10, x11, x12, x13, x14, x15, x16, x17, x18, x19, x20, x21, x22, x23])) ?_ (seq1 (ifsF ?_ rfl rfl) (seq1 (s' := ([], [some X0, some (Ld ds), some (.int T), some (.int (10 + 120 * T)), some (.int M), some (BX l b r t), some (BX u c v w), some (BC l b r t), some (BC u c v w), some (BX (l + u) (b + c) (r + v) (t + w)), x10, x11, x12, x13, x14, x15, x16, x17, x18, x19, x20, x21, x22, x23])) ?_ (seq1 (ifsF ?_ rfl rfl) (seq1 (s' := ([], [some X0, some (Ld ds), some (.int T), some (.int (10 + 120 * T)), some (.int M), some (BX l b r t), some (BX u c v w), some (BC l b r t), some (BC u c v w), some (BX (l + u) (b + c) (r + v) (t + w)), x10, some (.list [QD (sgp l r u v), QD (sgp b t c w)]), x12, x13, x14, x15, x16, x17, x18, x19, x20, x21, x22, x23])) ?_ (seq1 (s' := ([], [some X0, some (Ld ds), some (.int T), some (.int (10 + 120 * T)), some (.int M), some (BX l b r t), some (BX u c v w), some (BC l b r t), some (BC u c v w), some (BX (l + u) (b + c) (r + v) (t + w)), x10, some (.list [QD (sgp l r u v), QD (sgp b t c w)]), some (QD (gp l b r t u c v w)), x13, x14, x15, x16, x17, x18, x19, x20, x21, x22, x23])) ?_ (seq1 (s' := ([], [some X0, some (Ld ds), some (.int T), some (.int (10 + 120 * T)), some (.int M), some (BX l b r t), some (BX u c v w), some (BC l b r t), some (BC u c v w), some (BX (l + u) (b + c) (r + v) (t + w)), x10, some (.list [QD (sgp l r u v), QD (sgp b t c w)]), some (QD (gp l b r t u c v w)), some (.bool (decide (gp l b r t u c v w = 0))), x14, x15, x16, x17, x18, x19, x20, x21, x22, x23])) ?_ (seq1 (ifsF ?_ rfl rfl) (seq1 (ifsF ?_ rfl rfl) (seq1 (s' := ([], [some X0, some (Ld ds), some (.int T), some (.int (10 + 120 * T)), some (.int M), some (BX l b r t), some (BX u c v w), some (BC l b r t), some (BC u c v w), some (BX (l + u) (b + c) (r + v) (t + w)), x10, some (.list [QD (sgp l r u v), QD (sgp b t c w)]), some (QD (gp l b r t u c v w)), some (.bool (decide (gp l b r t u c v w = 0))), some (PQ (mx l u) (mx b c)), x15, x16, x17, x18, x19, x20, x21, x22, x23])) ?_ (seq1 (ifsF ?_ rfl rfl) (seq1 (ifsF ?_ rfl rfl) (seq1 loop rfl))))))))))))))))
  · simp! []
  · simp! [ev_mix, hd, eM]
  · simp! [e1]
  · simp! [e2]
  · simp! [ev_lcorners]
  · simp! [q6]
  · simp! [ev_ladd]
  · simp! [ev_lcorners, g1, g2, n1]
  · simp! [ev_lside]
  · simp! [ev_ltimes, ev_ladd]
    rfl
  · simp! [t01, ceqQ]
  · simp! [p1, p2, cneQ]
  · simp! [r1, r2, cneLn, isLn, lt, cneB]
  · simp! [ev_lgreatest]
    rfl
  · simp! [m1, m4, ja, jb, jc]
  · simp! [t01, op, g3, h3, cneT, oz, cneB]
end k21
set_option Elab.async false
set_option linter.all false
set_option maxRecDepth 100000
set_option maxHeartbeats 4000000
namespace k21
open PySem PySem.Spec PyProof.Rows L2 Fe
abbrev ln3 : PD := .list [.tuple [.tuple [.int 0, .int 1], .tuple [.int 0, .int 1]], .tuple [.tuple [.int 1, .int 1], .tuple [.int 0, .int 1]], .tuple [.tuple [.int 2, .int 1], .tuple [.int 0, .int 1]]]
abbrev sq1 : PD := .list [.tuple [.tuple [.int 0, .int 1], .tuple [.int 0, .int 1]], .tuple [.tuple [.int 1, .int 1], .tuple [.int 0, .int 1]], .tuple [.tuple [.int 1, .int 1], .tuple [.int 1, .int 1]], .tuple [.tuple [.int 0, .int 1], .tuple [.int 1, .int 1]]]
theorem rf1 : evF pg 11 i__law_refused [.int 1, ln3, .tuple [.int 0, .int 0]] = .ok (.tuple [.str "shape", .int 0]) := rfl
theorem rf2 : evF pg 11 i__law_refused [.int 2, sq1, ln3] = .ok (.tuple [.str "shape", .int 1]) := rfl
theorem rf3 : evF pg 11 i__law_refused [.int 3, sq1, .tuple [.tuple [.int 2, .int 4], .tuple [.int 0, .int 1]]] = .ok (.tuple [.str "place", .int 0]) := rfl
theorem rf4 : evF pg 11 i__law_refused [.int 4, ln3, ln3] = .ok (.tuple [.str "shape", .int 0]) := rfl
theorem rf5 : evF pg 11 i__law_refused [.int 5, sq1, .tuple [.tuple [.int 0, .int 1], .tuple [.int 0, .int 2]]] = .ok (.tuple [.str "place", .int 0]) := rfl
theorem law_true (ns : List Int) (hn : ns.length ≤ 63) : evF pg 12 i_law [.list (ns.map PyData.int)] = .ok (.bool true) := by
  obtain ⟨ds, e1, hd⟩ := ev_dr 10 ns hn
  have e1 : evF pg 11 i__law_draws [.list (ns.map PyData.int)] = .ok (Ld ds) := e1
  rw [u_law]
  unfold b_law
  obtain ⟨a3, a4, a5, a6, a7, a8, a9, a10, a11, a12, a13, a14, a15, a16, a17, a18, a19, a20, z21_0, z22_0, z23_0, s0⟩ := turn_step 0 hd (.list (ns.map PyData.int)) 0 (by decide) (by decide) none none none none none none none none none none none none none none none none none none none none none
  obtain ⟨b3, b4, b5, b6, b7, b8, b9, b10, b11, b12, b13, b14, b15, b16, b17, b18, b19, b20, z21_1, z22_1, z23_1, s1⟩ := turn_step 0 hd (.list (ns.map PyData.int)) 1 (by decide) (by decide) a3 a4 a5 a6 a7 a8 a9 a10 a11 a12 a13 a14 a15 a16 a17 a18 a19 a20 z21_0 z22_0 z23_0
  obtain ⟨c3, c4, c5, c6, c7, c8, c9, c10, c11, c12, c13, c14, c15, c16, c17, c18, c19, c20, z21_2, z22_2, z23_2, s2⟩ := turn_step 0 hd (.list (ns.map PyData.int)) 2 (by decide) (by decide) b3 b4 b5 b6 b7 b8 b9 b10 b11 b12 b13 b14 b15 b16 b17 b18 b19 b20 z21_1 z22_1 z23_1
  obtain ⟨d3, d4, d5, d6, d7, d8, d9, d10, d11, d12, d13, d14, d15, d16, d17, d18, d19, d20, z21_3, z22_3, z23_3, s3⟩ := turn_step 0 hd (.list (ns.map PyData.int)) 3 (by decide) (by decide) c3 c4 c5 c6 c7 c8 c9 c10 c11 c12 c13 c14 c15 c16 c17 c18 c19 c20 z21_2 z22_2 z23_2
  have k1 : evF pg (0 + 11) i__law_refused [.int 1, ln3, .tuple [.int 0, .int 0]] = _ := rf1
  have k2 : evF pg (0 + 11) i__law_refused [.int 2, sq1, ln3] = _ := rf2
  have k3 : evF pg (0 + 11) i__law_refused [.int 3, sq1, .tuple [.tuple [.int 2, .int 4], .tuple [.int 0, .int 1]]] = _ := rf3
  have k4 : evF pg (0 + 11) i__law_refused [.int 4, ln3, ln3] = _ := rf4
  have k5 : evF pg (0 + 11) i__law_refused [.int 5, sq1, .tuple [.tuple [.int 0, .int 1], .tuple [.int 0, .int 2]]] = _ := rf5
  have k6 : evF pg (0 + 11) i__law_corners [.list [.tuple [.tuple [.int 0, .int 1], .tuple [.int 1, .int 1]], .tuple [.tuple [.int 0, .int 1], .tuple [.int 1, .int 1]]]] = .ok sq1 := rfl
  have k7 : cmpV .eq (.list [.tuple [.str "shape", .int 0], .tuple [.str "shape", .int 1], .tuple [.str "place", .int 0], .tuple [.str "shape", .int 0], .tuple [.str "place", .int 0]]) (.list [.tuple [.str "shape", .int 0], .tuple [.str "shape", .int 1], .tuple [.str "place", .int 0], .tuple [.str "shape", .int 0], .tuple [.str "place", .int 0]]) = .ok (.bool true) := rfl
  refine finR (S := sgOf pg (0 + 11)) (seq1 (s' := ([], [some (.list (ns.map PyData.int)), some (Ld ds), none, none, none, none, none, none, none, none, none, none, none, none, none, none, none, none, none, none, none, none, none, none])) ?_ (seq1 (evFor (items := [.int 0, .int 1, .int 2, .int 3]) (W' := []) ?_ rfl (for_nm s0 (for_nm s1 (for_nm s2 (for_nm s3 for_nil))))) (seq1 (s' := ([], [some (.list (ns.map PyData.int)), some (Ld ds), some (.int 3), d3, d4, d5, d6, d7, d8, d9, d10, d11, d12, d13, d14, d15, d16, d17, d18, d19, d20, some ln3, z22_3, z23_3])) ?_ (seq1 (s' := ([], [some (.list (ns.map PyData.int)), some (Ld ds), some (.int 3), d3, d4, d5, d6, d7, d8, d9, d10, d11, d12, d13, d14, d15, d16, d17, d18, d19, d20, some ln3, some sq1, z23_3])) ?_ (seq1 (s' := ([], [some (.list (ns.map PyData.int)), some (Ld ds), some (.int 3), d3, d4, d5, d6, d7, d8, d9, d10, d11, d12, d13, d14, d15, d16, d17, d18, d19, d20, some ln3, some sq1, some (.list [.tuple [.str "shape", .int 0], .tuple [.str "shape", .int 1], .tuple [.str "place", .int 0], .tuple [.str "shape", .int 0], .tuple [.str "place", .int 0]])])) ?_ (seqR ?_))))))
  · simp! [e1]
  · simp! []
  · simp! []
  · simp! [k6]
  · simp! [k1, k2, k3, k4, k5]
  · simp! [k7]

end k21
set_option Elab.async false
set_option linter.all false
namespace k21
open PySem PySem.Spec PyProof.Rows L2 Fe
theorem law_ok (ns : List Int) (hn : ns.length ≤ 63) : evF hd.p 12 i_law [.list (ns.map .int)] = .ok (.bool true) := law_true ns hn
end k21
set_option Elab.async false
set_option linter.all false
set_option maxRecDepth 100000
set_option maxHeartbeats 0
open PySem PySem.W PySem.Calls PyProof.Rows
theorem PySem.Challenge.cw_samplesonce_k21_main_boxes_that_touch_an_holds : PySem.Challenge.rw_samplesonce_k21_main_boxes_that_touch_an.Holds := by
  w_on; o_law
  refine HandSHeadRun.head_any (r := OpenLaw.row PySem.Challenge.rw_samplesonce_k21_main_boxes_that_touch_an) (q := view (OpenLaw.row PySem.Challenge.rw_samplesonce_k21_main_boxes_that_touch_an).prog [79]) (H := k21.hd.hook 4) (ob := k21.ob) (M := 20000) (loose := k21.loose) (d := HandSHeadRun.topDef (OpenLaw.row PySem.Challenge.rw_samplesonce_k21_main_boxes_that_touch_an).prog 79) (kwd := []) k21.ob_eq
    (by kernel_rfl) (fun s => by kernel_rfl) k21.run (by kernel_rfl) (by kernel_rfl) (by kernel_rfl) (by rfl) (by first | assumption | decide +kernel) (by decide +kernel) ⟨rfl, rfl, rfl, rfl, rfl, by decide +kernel⟩ ?hw ?hc
  case hw => w_witness2
  case hc =>
    refine L2.walk_ofE (l := PySem.Challenge.rw_samplesonce_k21_main_boxes_that_touch_an) (n := 63) (k := 14) (x := "script") (CX := L2.CX0) rfl (by decide) (by kernel_rfl) ⟨rfl, by decide, by decide⟩ ?F (fun _ _ _ _ z => z)
    intro w mg fa h Y G hmg0
    obtain ⟨K, KX, c⟩ := Y
    have hmg : mg ("law" : PySem.Str) = some (.ref fa) := by
      have e : (HandSHeadRun.topDef (OpenLaw.row PySem.Challenge.rw_samplesonce_k21_main_boxes_that_touch_an).prog 79).name = ("law" : PySem.Str) := by kernel_rfl
      rw [← e]
      exact hmg0
    obtain ⟨fd, sp, hb, hs, hF⟩ := Fe.law_fn (w := w) (n := 12) (i := 65) KX G k21.stat c rfl hmg rfl ⟨rfl, rfl⟩ k21.law_ok
    exact ⟨K, fd, sp, KX, hb, hs, hF⟩
