import PyProof.Rows.All
import Wide.All
import OpenK.AllK
import Wide.FinOn
import HandS.ForMost
import HandS.ForExc
import HandS.Flow
import HandS.IsInst
import HandS.Wide
import HandS.TupLe
import HandS.SortInts
import PySem.Challenge.RW_onlylength_k77_sums_whole
set_option Elab.async false
set_option linter.all false
set_option maxRecDepth 100000
set_option maxHeartbeats 1000000
/-! Fw1: values and a heap as a list; how they stand for the hand layer's values and heap. -/
namespace Fw
open PySem PySem.Spec PyProof.Rows L2

/-- a value: texts by their codes, objects by their place in the heap's list -/
inductive PV where
  | non | bl (b : Bool) | int (i : Int) | str (l : List Nat) | loc (n : Nat) | kon (n : Nat) | cls (n : Nat) | ty (n : String)
  deriving DecidableEq

/-- an object -/
inductive PO where
  | lst (xs : List PV)
  | rol (xs : List PV)
  | tup (xs : List PV)
  | ins (c : Nat) (fs : List (Nat × PV))
  | dct (kvs : List (PV × PV))
  | xd (fs : List (Nat × PV))
  deriving DecidableEq

abbrev PH := List PO
abbrev PSt := List (Option PV)

def PO.isRol : PO → Bool
  | .rol _ => true
  | _ => false

/-- what the top of the program has: classes, constants, names of attributes -/
structure Tab where
  K : PySem.W.Frag
  cls : List Addr
  kon : List (Addr × PO)
  att : List Str

def sOf (l : List Nat) : Str := ⟨l.toArray⟩

def RV (T : Tab) (m : List Addr) : PV → V → Prop
  | .non, v => v = .non
  | .bl b, v => v = .bl b
  | .int i, v => v = .int i
  | .str l, v => v = .str (sOf l)
  | .loc n, v => ∃ a, m[n]? = some a ∧ v = .ref a
  | .kon n, v => ∃ a o, T.kon[n]? = some (a, o) ∧ v = .ref a
  | .cls n, v => ∃ a, T.cls[n]? = some a ∧ v = .ref a
  | .ty s, v => v = .ty s

abbrev RVs (T : Tab) (m : List Addr) : List PV → List V → Prop := Paired (RV T m)

theorem get_ext {α : Type} {m m' : List α} {n : Nat} {a : α} (h : m <+: m') (e : m[n]? = some a) : m'[n]? = some a := by
  obtain ⟨r, rfl⟩ := h
  have hl : n < m.length := by
    rcases Nat.lt_or_ge n m.length with z | z
    · exact z
    · rw [List.getElem?_eq_none z] at e; cases e
  rw [List.getElem?_append_left hl]; exact e

theorem RV.ext {T : Tab} {m m' : List Addr} {p : PV} {v : V} (h : m <+: m') (r : RV T m p v) : RV T m' p v := by
  cases p <;> try exact r
  obtain ⟨a, e, rfl⟩ := r
  exact ⟨a, get_ext h e, rfl⟩
theorem RVs.ext {T : Tab} {m m' : List Addr} (h : m <+: m') : ∀ {ps : List PV} {vs : List V}, RVs T m ps vs → RVs T m' ps vs
  | _, _, .nil => .nil
  | _, _, .cons r t => .cons (r.ext h) (RVs.ext h t)
theorem RVs.length {T : Tab} {m : List Addr} {ps : List PV} {vs : List V} (r : RVs T m ps vs) : ps.length = vs.length := Paired.length r
theorem RVs.get {T : Tab} {m : List Addr} : ∀ {ps : List PV} {vs : List V} {i : Nat} {p : PV}, RVs T m ps vs → ps[i]? = some p → ∃ v, vs[i]? = some v ∧ RV T m p v
  | _, _, _, _, .nil, e => by simp at e
  | _, _, 0, _, .cons r _, e => by simp at e; subst e; exact ⟨_, rfl, r⟩
  | _, _, i + 1, p, .cons _ t, e => by
    obtain ⟨v, h1, h2⟩ := RVs.get (i := i) (p := p) t (by simpa using e)
    exact ⟨v, by simpa using h1, h2⟩
theorem RVs.set {T : Tab} {m : List Addr} {p : PV} {v : V} (r : RV T m p v) : ∀ {ps : List PV} {vs : List V} (i : Nat), RVs T m ps vs → RVs T m (ps.set i p) (vs.set i v)
  | _, _, _, .nil => .nil
  | _, _, 0, .cons _ t => .cons r t
  | _, _, i + 1, .cons q t => .cons q (RVs.set r i t)
theorem RVs.append {T : Tab} {m : List Addr} : ∀ {ps qs : List PV} {vs us : List V}, RVs T m ps vs → RVs T m qs us → RVs T m (ps ++ qs) (vs ++ us)
  | _, _, _, _, .nil, s => s
  | _, _, _, _, .cons r t, s => .cons r (RVs.append t s)
theorem RVs.take {T : Tab} {m : List Addr} : ∀ {ps : List PV} {vs : List V} (n : Nat), RVs T m ps vs → RVs T m (ps.take n) (vs.take n)
  | _, _, 0, _ => .nil
  | _, _, _ + 1, .nil => .nil
  | _, _, n + 1, .cons r t => .cons r (RVs.take n t)
theorem RVs.drop {T : Tab} {m : List Addr} : ∀ {ps : List PV} {vs : List V} (n : Nat), RVs T m ps vs → RVs T m (ps.drop n) (vs.drop n)
  | _, _, 0, r => r
  | _, _, _ + 1, .nil => .nil
  | _, _, n + 1, .cons _ t => RVs.drop n t
theorem RVs.reverse {T : Tab} {m : List Addr} : ∀ {ps : List PV} {vs : List V}, RVs T m ps vs → RVs T m ps.reverse vs.reverse
  | _, _, .nil => .nil
  | _, _, .cons r t => by
    rw [List.reverse_cons, List.reverse_cons]
    exact RVs.append (RVs.reverse t) (.cons r .nil)
theorem RVs.dropLast {T : Tab} {m : List Addr} {ps : List PV} {vs : List V} (r : RVs T m ps vs) : RVs T m ps.dropLast vs.dropLast := by
  rw [List.dropLast_eq_take, List.dropLast_eq_take, r.length]
  exact r.take _
theorem RVs.ints {T : Tab} {m : List Addr} : ∀ ns : List Int, RVs T m (ns.map PV.int) (ns.map V.int)
  | [] => .nil
  | _ :: r => .cons rfl (RVs.ints r)
theorem RVs.of_ints {T : Tab} {m : List Addr} : ∀ {ns : List Int} {vs : List V}, RVs T m (ns.map PV.int) vs → vs = ns.map V.int
  | [], _, .nil => rfl
  | _ :: _, _, .cons r t => by
    have r : _ = V.int _ := r
    rw [r, RVs.of_ints t]; rfl
/-- the same value stands for it -/
theorem RV.fn {T : Tab} {m : List Addr} {p : PV} {v w : V} (r : RV T m p v) (q : RV T m p w) : v = w := by
  cases p with
  | loc n =>
    obtain ⟨a, e, rfl⟩ := r; obtain ⟨b, e', rfl⟩ := q
    rw [e] at e'; cases e'; rfl
  | kon n =>
    obtain ⟨a, o, e, rfl⟩ := r; obtain ⟨b, o', e', rfl⟩ := q
    rw [e] at e'; cases e'; rfl
  | cls n =>
    obtain ⟨a, e, rfl⟩ := r; obtain ⟨b, e', rfl⟩ := q
    rw [e] at e'; cases e'; rfl
  | _ => exact (show v = _ from r).trans (show w = _ from q).symm
theorem RVs.fn {T : Tab} {m : List Addr} : ∀ {ps : List PV} {vs us : List V}, RVs T m ps vs → RVs T m ps us → vs = us
  | _, _, _, .nil, .nil => rfl
  | _, _, _, .cons r t, .cons r' t' => by rw [r.fn r', RVs.fn t t']

/-- a key of a dict -/
def keyP : PV → Option Key
  | .int i => some (.inl i)
  | .str l => some (.inr (sOf l))
  | _ => none
def RKV (T : Tab) (m : List Addr) : List (PV × PV) → List (Key × V) → Prop := Paired fun p q => keyP p.1 = some q.1 ∧ RV T m p.2 q.2
def RF (T : Tab) (m : List Addr) : List (Nat × PV) → List (Str × V) → Prop := Paired fun p q => T.att[p.1]? = some q.1 ∧ RV T m p.2 q.2
theorem Paired.imp {α β : Type} {F G : α → β → Prop} (f : ∀ a b, F a b → G a b) : ∀ {xs : List α} {ys : List β}, Paired F xs ys → Paired G xs ys
  | _, _, .nil => .nil
  | _, _, .cons r t => .cons (f _ _ r) (Paired.imp f t)
theorem RKV.ext {T : Tab} {m m' : List Addr} (h : m <+: m') {xs : List (PV × PV)} {ys : List (Key × V)} (r : RKV T m xs ys) : RKV T m' xs ys := Paired.imp (fun _ _ z => ⟨z.1, z.2.ext h⟩) r
theorem RF.ext {T : Tab} {m m' : List Addr} (h : m <+: m') {xs : List (Nat × PV)} {ys : List (Str × V)} (r : RF T m xs ys) : RF T m' xs ys := Paired.imp (fun _ _ z => ⟨z.1, z.2.ext h⟩) r

/-- a list of the written part -/
def KLst (K : PySem.W.Frag) (a : Addr) (xs : List V) : Prop :=
  ∃ (o : Obj) (its : Array Value) (n : Nat), K.lookup a = some o ∧ o.cls = .type "list" ∧ o.dict = none ∧ o.data = .seq its n ∧ its.size ≤ sizeLine ∧ Vals xs its.toList

/-- an object stands at a -/
def OR (T : Tab) (m : List Addr) (H : Hp) (a : Addr) : PO → Prop
  | .lst xs => ∃ vs, H a = some (.lst vs) ∧ RVs T m xs vs
  | .rol xs => ∃ vs, ((∃ o, H a = some (.frz o (.lst vs))) ∨ KLst T.K a vs) ∧ RVs T m xs vs
  | .tup xs => ∃ vs, H a = some (.tup vs) ∧ RVs T m xs vs
  | .ins c fs => ∃ C dx gs, T.cls[c]? = some C ∧ H a = some (.ins C dx gs) ∧ RF T m fs gs
  | .dct kvs => ∃ gs, H a = some (.dK gs) ∧ RKV T m kvs gs
  | .xd fs => ∃ gs, H a = some (.xd gs) ∧ RF T m fs gs
theorem OR.ext {T : Tab} {m m' : List Addr} {H : Hp} {a : Addr} {o : PO} (h : m <+: m') (r : OR T m H a o) : OR T m' H a o := by
  cases o with
  | lst xs => obtain ⟨vs, e, r⟩ := r; exact ⟨vs, e, r.ext h⟩
  | rol xs => obtain ⟨vs, e, r⟩ := r; exact ⟨vs, e, r.ext h⟩
  | tup xs => obtain ⟨vs, e, r⟩ := r; exact ⟨vs, e, r.ext h⟩
  | ins c fs => obtain ⟨C, dx, gs, c, e, r⟩ := r; exact ⟨C, dx, gs, c, e, r.ext h⟩
  | dct kvs => obtain ⟨gs, e, r⟩ := r; exact ⟨gs, e, r.ext h⟩
  | xd fs => obtain ⟨gs, e, r⟩ := r; exact ⟨gs, e, r.ext h⟩
theorem OR.heap {T : Tab} {m : List Addr} {H H' : Hp} {a : Addr} {o : PO} (h : ∀ u, H a = some u → H' a = some u) (r : OR T m H a o) : OR T m H' a o := by
  cases o with
  | lst xs => obtain ⟨vs, e, r⟩ := r; exact ⟨vs, h _ e, r⟩
  | rol xs => obtain ⟨vs, e, r⟩ := r; exact ⟨vs, e.imp (fun ⟨o, z⟩ => ⟨o, h _ z⟩) id, r⟩
  | tup xs => obtain ⟨vs, e, r⟩ := r; exact ⟨vs, h _ e, r⟩
  | ins c fs => obtain ⟨C, dx, gs, c, e, r⟩ := r; exact ⟨C, dx, gs, c, h _ e, r⟩
  | dct kvs => obtain ⟨gs, e, r⟩ := r; exact ⟨gs, h _ e, r⟩
  | xd fs => obtain ⟨gs, e, r⟩ := r; exact ⟨gs, h _ e, r⟩
/-- it is tracked, but a list of the written part -/
theorem OR.some {T : Tab} {m : List Addr} {H : Hp} {a : Addr} {o : PO} (r : OR T m H a o) (ho : o.isRol = false) : H a ≠ none := by
  cases o with
  | lst xs => obtain ⟨vs, e, r⟩ := r; rw [e]; simp
  | rol xs => cases ho
  | tup xs => obtain ⟨vs, e, r⟩ := r; rw [e]; simp
  | ins c fs => obtain ⟨C, dx, gs, c, e, r⟩ := r; rw [e]; simp
  | dct kvs => obtain ⟨gs, e, r⟩ := r; rw [e]; simp
  | xd fs => obtain ⟨gs, e, r⟩ := r; rw [e]; simp

structure HR (T : Tab) (m : List Addr) (h : PH) (H : Hp) : Prop where
  len : m.length = h.length
  sep : ∀ (i j : Nat) (a : Addr) (oi oj : PO), i ≠ j → m[i]? = some a → m[j]? = some a → h[i]? = some oi → h[j]? = some oj → oi.isRol = true ∨ oj.isRol = true
  obj : ∀ (i : Nat) (a : Addr) (o : PO), m[i]? = some a → h[i]? = some o → OR T m H a o

theorem HR.at {T : Tab} {m : List Addr} {h : PH} {H : Hp} {n : Nat} {o : PO} (r : HR T m h H) (e : h[n]? = some o) : ∃ a, m[n]? = some a ∧ OR T m H a o := by
  have hl : n < m.length := by
    rw [r.len]
    rcases Nat.lt_or_ge n h.length with z | z
    · exact z
    · rw [List.getElem?_eq_none z] at e; cases e
  exact ⟨m[n], List.getElem?_eq_getElem hl, r.obj n _ o (List.getElem?_eq_getElem hl) e⟩

theorem get_len {α : Type} {l : List α} {n : Nat} {a : α} (e : l[n]? = some a) : n < l.length := by
  rcases Nat.lt_or_ge n l.length with z | z
  · exact z
  · rw [List.getElem?_eq_none z] at e; cases e
theorem get_snoc {α : Type} {l : List α} {n : Nat} {a b : α} (e : (l ++ [a])[n]? = some b) : (n < l.length ∧ l[n]? = some b) ∨ (n = l.length ∧ b = a) := by
  have hl := get_len e
  rw [List.length_append, List.length_singleton] at hl
  by_cases h : n < l.length
  · rw [List.getElem?_append_left h] at e; exact .inl ⟨h, e⟩
  · have : n = l.length := by omega
    subst this
    rw [List.getElem?_append_right (Nat.le_refl _), Nat.sub_self] at e
    exact .inr ⟨rfl, by simpa using e.symm⟩
theorem ext_snoc {m : List Addr} {p : Addr} : m <+: m ++ [p] := ⟨[p], rfl⟩
/-- a new object -/
theorem HR.new {T : Tab} {m : List Addr} {h : PH} {H : Hp} {p : Addr} {u : HO} {o : PO} (r : HR T m h H) (hp : H p = none) (ho : OR T (m ++ [p]) (upd H p u) p o) (hr : o.isRol = false) : HR T (m ++ [p]) (h ++ [o]) (upd H p u) := by
  have old : ∀ (i : Nat) (oi : PO), m[i]? = some p → h[i]? = some oi → oi.isRol = true := fun i oi e1 e2 => by
    have q := r.obj i p oi e1 e2
    cases z : oi.isRol with
    | true => rfl
    | false => exact absurd hp (q.some z)
  refine ⟨by rw [List.length_append, List.length_append, r.len]; rfl, ?_, ?_⟩
  · intro i j a oi oj ij e1 e2 e3 e4
    rcases get_snoc e1 with ⟨l1, e1⟩ | ⟨l1, x1⟩ <;> rcases get_snoc e2 with ⟨l2, e2⟩ | ⟨l2, x2⟩
    · rcases get_snoc e3 with ⟨_, e3⟩ | ⟨l3, _⟩
      · rcases get_snoc e4 with ⟨_, e4⟩ | ⟨l4, _⟩
        · exact r.sep i j a oi oj ij e1 e2 e3 e4
        · rw [l4, r.len] at l2; exact absurd l2 (Nat.lt_irrefl _)
      · rw [l3, r.len] at l1; exact absurd l1 (Nat.lt_irrefl _)
    · rcases get_snoc e3 with ⟨_, e3⟩ | ⟨l3, _⟩
      · rw [x2] at e1; exact .inl (old i oi e1 e3)
      · rw [l3, r.len] at l1; exact absurd l1 (Nat.lt_irrefl _)
    · rcases get_snoc e4 with ⟨_, e4⟩ | ⟨l4, _⟩
      · rw [x1] at e2; exact .inr (old j oj e2 e4)
      · rw [l4, r.len] at l2; exact absurd l2 (Nat.lt_irrefl _)
    · exact absurd (l1.trans l2.symm) ij
  · intro i a oi e1 e2
    rcases get_snoc e1 with ⟨l1, e1⟩ | ⟨l1, x1⟩
    · rcases get_snoc e2 with ⟨_, e2⟩ | ⟨l3, _⟩
      · exact ((r.obj i a oi e1 e2).ext ext_snoc).heap fun v q => by rw [upd_ne (ne_of_none q hp)]; exact q
      · rw [l3, r.len] at l1; exact absurd l1 (Nat.lt_irrefl _)
    · rcases get_snoc e2 with ⟨l2, e2⟩ | ⟨l3, x2⟩
      · rw [l1, r.len] at l2; exact absurd l2 (Nat.lt_irrefl _)
      · rw [x1, x2]; exact ho
theorem get_set {α : Type} {l : List α} {n i : Nat} {a b : α} (e : (l.set n a)[i]? = some b) : (i = n ∧ b = a) ∨ (i ≠ n ∧ l[i]? = some b) := by
  by_cases h : i = n
  · subst h
    have hl := get_len e
    rw [List.length_set] at hl
    rw [List.getElem?_set_self hl] at e
    exact .inl ⟨rfl, by simpa using e.symm⟩
  · rw [List.getElem?_set_ne (fun z => h z.symm)] at e
    exact .inr ⟨h, e⟩
/-- what an object at a place that is no `rol` tells of another place with the same address -/
theorem HR.put {T : Tab} {m : List Addr} {h : PH} {H : Hp} {n : Nat} {a : Addr} {u w : HO} {o o' : PO} (r : HR T m h H) (e1 : m[n]? = some a) (e2 : h[n]? = some o) (hr : o.isRol = false) (hr' : o'.isRol = false)
    (ha : H a = some w) (hm : ∀ ob v, w ≠ .frz ob v) (ho : OR T m (upd H a u) a o') : HR T m (h.set n o') (upd H a u) := by
  refine ⟨by rw [List.length_set]; exact r.len, ?_, ?_⟩
  · intro i j b oi oj ij f1 f2 f3 f4
    rcases get_set f3 with ⟨x, y⟩ | ⟨x, g3⟩ <;> rcases get_set f4 with ⟨x', y'⟩ | ⟨x', g4⟩
    · exact absurd (x.trans x'.symm) ij
    · subst x
      rw [f1] at e1; cases e1
      rcases r.sep i j _ o oj ij f1 f2 e2 g4 with z | z
      · rw [hr] at z; cases z
      · exact .inr z
    · subst x'
      rw [f2] at e1; cases e1
      rcases r.sep i j _ oi o ij f1 f2 g3 e2 with z | z
      · exact .inl z
      · rw [hr] at z; cases z
    · exact r.sep i j b oi oj ij f1 f2 g3 g4
  · intro i b oi f1 f2
    rcases get_set f2 with ⟨x, y⟩ | ⟨x, f2⟩
    · subst x y
      rw [f1] at e1; cases e1
      exact ho
    · have q := r.obj i b oi f1 f2
      by_cases hb : b = a
      · subst hb
        rcases r.sep i n b oi o x f1 e1 f2 e2 with z | z
        · cases oi with
          | rol xs =>
            obtain ⟨vs, k, rv⟩ := q
            rcases k with ⟨ob, k⟩ | k
            · rw [ha] at k; cases k; exact absurd rfl (hm _ _)
            · exact ⟨vs, .inr k, rv⟩
          | _ => cases z
        · rw [hr] at z; cases z
      · cases oi with
        | rol xs =>
          obtain ⟨vs, k, rv⟩ := q
          exact ⟨vs, k.imp (fun ⟨ob, z⟩ => ⟨ob, by rw [upd_ne hb]; exact z⟩) id, rv⟩
        | _ => exact q.heap fun v z => by rw [upd_ne hb]; exact z
/-- slots -/
def SR (T : Tab) (m : List Addr) : PSt → L2.St → Prop := Paired fun p v => match p, v with
  | some p, some v => RV T m p v
  | none, _ => True
  | _, none => False
theorem SR.ext {T : Tab} {m m' : List Addr} (h : m <+: m') {ps : PSt} {σ : L2.St} (r : SR T m ps σ) : SR T m' ps σ := Paired.imp (fun a b z => by
  cases a with
  | none => trivial
  | some p => cases b with
    | none => exact z
    | some v => exact RV.ext h z) r
theorem SR.length {T : Tab} {m : List Addr} {ps : PSt} {σ : L2.St} (r : SR T m ps σ) : ps.length = σ.length := Paired.length r
theorem SR.get {T : Tab} {m : List Addr} : ∀ {ps : PSt} {σ : L2.St} {i : Nat} {p : PV}, SR T m ps σ → ps[i]? = some (some p) → ∃ v, σ[i]? = some (some v) ∧ RV T m p v
  | _, _, _, _, .nil, e => by simp at e
  | _, _, 0, p, .cons (b := b) r _, e => by
    simp at e; subst e
    cases b with
    | none => exact r.elim
    | some v => exact ⟨v, rfl, r⟩
  | _, _, i + 1, p, .cons _ t, e => by
    obtain ⟨v, h1, h2⟩ := SR.get (i := i) (p := p) t (by simpa using e)
    exact ⟨v, by simpa using h1, h2⟩
theorem SR.set {T : Tab} {m : List Addr} {p : PV} {v : V} (r : RV T m p v) : ∀ {ps : PSt} {σ : L2.St} (i : Nat), SR T m ps σ → SR T m (ps.set i (some p)) (σ.set i (some v))
  | _, _, _, .nil => .nil
  | _, _, 0, .cons _ t => .cons r t
  | _, _, i + 1, .cons q t => .cons q (SR.set r i t)
theorem SR.clr {T : Tab} {m : List Addr} : ∀ {ps : PSt} {σ : L2.St} (i : Nat) (o : Option V), SR T m ps σ → SR T m (ps.set i none) (σ.set i o)
  | _, _, _, _, .nil => .nil
  | _, _, 0, _, .cons _ t => .cons trivial t
  | _, _, i + 1, o, .cons q t => .cons q (SR.clr i o t)
theorem SR.start {T : Tab} {m : List Addr} : ∀ {ps : List PV} {vs : List V} (k : Nat), RVs T m ps vs → SR T m (ps.map some ++ List.replicate k none) (vs.map some ++ List.replicate k none)
  | _, _, 0, .nil => .nil
  | _, _, k + 1, .nil => .cons trivial (SR.start (ps := []) (vs := []) k .nil)
  | _, _, k, .cons r t => .cons r (SR.start k t)
end Fw
set_option Elab.async false
set_option linter.all false
set_option maxRecDepth 100000
set_option maxHeartbeats 1000000
/-! Fw2: a small language with slots, and what must hold ahead of a piece of it. -/
namespace Fw
open PySem

/-- built-in functions, types and methods -/
inductive Prm where
  | len | int | str | tuple | list | max | min | sum | maxl | sorted | isi
  | append | pop | popAt | indexL | reverse | join | indexS | split | find2 | replace | bitlen | getD
  deriving DecidableEq

mutual
inductive IE where
  | var (i : Nat)
  | cst (v : PV)
  | bin (op : Operator) (a b : IE)
  | neg (a : IE)
  | cmp (op : CmpOp) (a b : IE)
  | chn (op op' : CmpOp) (a b c : IE)
  | and (a b : IE)
  | or (a b : IE)
  | not (a : IE)
  | call (f : Nat) (as : List IE)
  | make (c : Nat) (as : List IE)
  | meth (m : Nat) (a : IE) (as : List IE)
  | prm (p : Prm) (as : List IE)
  | mtd (p : Prm) (a : IE) (as : List IE)
  | idx (a i : IE)
  | slc (a : IE) (lo hi : Option IE)
  | fld (a : IE) (f : Nat)
  | lst (as : List IE)
  | tup (as : List IE)
  | dct (kvs : List IE)
  | comp (el : IE) (g : IG) (it : II) (t : List IT) (own : List Nat)
inductive IT where
  | tru (a : IE)
  | and (a b : IT)
  | or (a b : IT)
  | not (a : IT)
inductive II where
  | seq (a : IE)
  | rng1 (a : IE)
  | rng2 (a b : IE)
  | rng3 (a b c : IE)
  | enum (a : IE)
  | zip (a b : IE)
  | rev (a : IE)
inductive IG where
  | name (i : Nat)
  | names (is : List Nat)
  | sub (o i : IE)
  | fld (o : IE) (f : Nat)
end
inductive IS where
  | asg (g : IG) (e : IE)
  | par (i j : Nat) (a b : IE)
  | aug (i : Nat) (op : Operator) (e : IE)
  | augS (o i : IE) (op : Operator) (e : IE)
  | augF (o : IE) (f : Nat) (op : Operator) (e : IE)
  | exp (e : IE)
  | ret (e : IE)
  | ite (t : IT) (a b : List IS)
  | whl (t : IT) (b : List IS)
  | for_ (g : IG) (it : II) (b : List IS)
  | brk | cont | skip
  | raise (c : Nat) (as : List IE)
  | try_ (b : List IS) (cs : List Nat) (v : Option Nat) (h : List IS)

/-- an exception: its class, the place of its own dict -/
structure PX where
  c : Nat
  d : Option Nat
  deriving DecidableEq

/-- what the program has: its constants, a class's methods, its __init__, isinstance between classes -/
structure Pg where
  kt : List PO
  meth : Nat → Nat → Option Nat
  ini : Nat → Option Nat
  sub : Nat → Nat → Bool

abbrev CSem := Nat → List PV → PH → (PV → PH → Prop) → (PX → PH → Prop) → Prop

/-! ### values -/
def PO.seq? : PO → Option (List PV)
  | .lst xs => some xs
  | .rol xs => some xs
  | .tup xs => some xs
  | _ => none
def deref (G : Pg) (h : PH) : PV → Option PO
  | .loc n => h[n]?
  | .kon n => G.kt[n]?
  | _ => none
def lstOf (G : Pg) (h : PH) (v : PV) : Option (List PV) := match deref G h v with
  | some (.lst xs) => some xs
  | some (.rol xs) => some xs
  | _ => none
def tupOf (G : Pg) (h : PH) (v : PV) : Option (List PV) := match deref G h v with
  | some (.tup xs) => some xs
  | _ => none
def seqOf (G : Pg) (h : PH) (v : PV) : Option (List PV) := match deref G h v with
  | some (.lst xs) => some xs
  | some (.rol xs) => some xs
  | some (.tup xs) => some xs
  | _ => none
/-- the data that stands at a value -/
def dataOf (G : Pg) (h : PH) : Nat → PV → Option PyData
  | _, .non => some .none
  | _, .bl b => some (.bool b)
  | _, .int i => some (.int i)
  | _, .str l => some (.str (sOf l))
  | k + 1, v => match deref G h v with
    | some (.lst xs) => (xs.mapM (dataOf G h k)).map .list
    | some (.rol xs) => (xs.mapM (dataOf G h k)).map .list
    | some (.tup xs) => (xs.mapM (dataOf G h k)).map .tuple
    | _ => none
  | _, _ => none
def scalP : PV → Bool
  | .non | .bl _ | .int _ | .str _ => true
  | _ => false
/-- equality of things without objects -/
def eqS : PV → PV → Bool
  | .non, .non => true
  | .bl a, .bl b => a == b
  | .bl a, .int b => (if a then 1 else 0) == b
  | .int a, .bl b => a == (if b then 1 else 0)
  | .int a, .int b => decide (a = b)
  | .str a, .str b => decide (a = b)
  | _, _ => false
def eqP (G : Pg) (h : PH) (x y : PV) : Option Bool :=
  if scalP x && scalP y then some (eqS x y) else
    match dataOf G h 60 x, dataOf G h 60 y with
    | some d, some e => if SeqAt.shaped d && SeqAt.shaped e then some (PyData.eqv d e) else none
    | _, _ => none
def truP (G : Pg) (h : PH) : PV → Option Bool
  | .non => some false
  | .bl b => some b
  | .int i => some (decide (i ≠ 0))
  | .str l => if l.length ≤ sizeLine then some (!l.isEmpty) else none
  | .loc n => match h[n]? with
    | some (.lst xs) => some (!xs.isEmpty)
    | some (.rol xs) => some (!xs.isEmpty)
    | some (.tup xs) => some (!xs.isEmpty)
    | some (.dct kvs) => some (!kvs.isEmpty)
    | _ => none
  | .kon n => match G.kt[n]? with
    | some (.tup xs) => some (!xs.isEmpty)
    | _ => none
  | _ => none
def ixP {α : Type} (xs : List α) (i : Int) : Option α := L2.atI xs i
def cutP {α : Type} (xs : List α) (lo hi : Option Int) : List α := (xs.drop (HT.sIx xs.length 0 lo)).take (HT.sIx xs.length xs.length hi - HT.sIx xs.length 0 lo)

/-- a text within a text; one of one sign -/
def inS (a b : List Nat) : Bool := match a with
  | [c] => decide (c ∈ b)
  | _ => !(Builtin.Str.occurrences (sOf b) (sOf a) 0 b.length 1).isEmpty

abbrev R2' := Option (PV × PH)
def binV (G : Pg) (op : Operator) (x y : PV) (h : PH) : R2' := match op, x, y with
  | .Add, .int a, .int b => some (.int (a + b), h)
  | .Add, .str a, .str b => if a.length + b.length ≤ sizeLine then some (.str (a ++ b), h) else none
  | .Add, .loc a, .loc b => match h[a]?, h[b]? with
    | some (.lst xs), some (.lst ys) => if xs.length + ys.length ≤ sizeLine then some (.loc h.length, h ++ [.lst (xs ++ ys)]) else none
    | some (.tup xs), some (.tup ys) => if xs ≠ [] ∧ ys ≠ [] ∧ xs.length + ys.length ≤ sizeLine then some (.loc h.length, h ++ [.tup (xs ++ ys)]) else none
    | _, _ => none
  | .Sub, .int a, .int b => some (.int (a - b), h)
  | .Mult, .int a, .int b => if a.natAbs.log2 + b.natAbs.log2 < 1000000 then some (.int (a * b), h) else none
  | .Mult, .loc a, .int k => match h[a]? with
    | some (.lst xs) => if -(2 ^ 63) ≤ k ∧ k < 2 ^ 63 ∧ xs.length * k.toNat ≤ sizeLine then some (.loc h.length, h ++ [.lst (List.replicate k.toNat xs).flatten]) else none
    | _ => none
  | .FloorDiv, .int a, .int b => if b ≠ 0 ∧ b.natAbs.log2 < 9000 then some (.int (a.fdiv b), h) else none
  | .Mod, .int a, .int b => if b ≠ 0 then some (.int (a.fmod b), h) else none
  | .Pow, .int a, .int b => if 0 ≤ b ∧ b ≤ 1000000 ∧ a.natAbs < 2 ^ 64 then some (.int (a ^ b.toNat), h) else none
  | .LShift, .int a, .int b => if 0 ≤ b ∧ b ≤ 1000000 ∧ a.natAbs < 2 ^ 64 then some (.int (a * 2 ^ b.toNat), h) else none
  | .RShift, .int a, .int b => if 0 ≤ b then some (.int (a / 2 ^ b.toNat), h) else none
  | .BitAnd, .int a, .int b => some (.int (Builtin.bitAnd a b), h)
  | _, _, _ => none
def flatP : PV → Bool
  | .non | .bl _ | .int _ | .str _ => true
  | _ => false
def cmpV (G : Pg) (op : CmpOp) (x y : PV) (h : PH) : Option Bool := match op, x, y with
  | .Eq, x, y => eqP G h x y
  | .NotEq, x, y => (eqP G h x y).map (!·)
  | .Lt, .int a, .int b => some (decide (a < b))
  | .LtE, .int a, .int b => some (decide (a ≤ b))
  | .Gt, .int a, .int b => some (decide (b < a))
  | .GtE, .int a, .int b => some (decide (b ≤ a))
  | .Is, x, .non => some (decide (x = .non))
  | .IsNot, x, .non => some (!decide (x = .non))
  | .Is, .bl a, .bl b => some (decide (a = b))
  | .IsNot, .bl a, .bl b => some (!decide (a = b))
  | .In, .str a, .str b => some (inS a b)
  | .NotIn, .str a, .str b => some (!inS a b)
  | .In, x, y => match seqOf G h y with
    | some xs => if flatP x && xs.all flatP then some (xs.any fun z => eqS z x) else none
    | none => none
  | .NotIn, x, y => match seqOf G h y with
    | some xs => if flatP x && xs.all flatP then some (!(xs.any fun z => eqS z x)) else none
    | none => none
  | _, _, _ => none
def strI (i : Int) : List Nat := (toString i).toList.map Char.toNat
/-- the type's name of a value -/
def tyP (G : Pg) (h : PH) (x : PV) : Option String := match x with
  | .non => some "NoneType"
  | .bl _ => some "bool"
  | .int _ => some "int"
  | .str _ => some "str"
  | v => match deref G h v with
    | some (.lst _) => some "list"
    | some (.rol _) => some "list"
    | some (.tup _) => some "tuple"
    | some (.dct _) => match v with
      | .loc _ => some "dict"
      | _ => none
    | _ => none
def isiP (G : Pg) (h : PH) (x : PV) (t : String) : Option Bool := (tyP G h x).bind fun a => L2.kitB a t
def intsOf : List PV → Option (List Int)
  | [] => some []
  | .int i :: r => (intsOf r).map (i :: ·)
  | _ :: _ => none
def maxP : List Int → Option Int
  | [] => none
  | a :: r => match maxP r with
    | none => some a
    | some b => some (max a b)
def strsOf : List PV → Option (List (List Nat))
  | [] => some []
  | .str l :: r => (strsOf r).map (l :: ·)
  | _ :: _ => none
def joinL (a : List Nat) : List (List Nat) → List Nat
  | [] => []
  | [x] => x
  | x :: r => x ++ a ++ joinL a r
def lenV (G : Pg) (vs : List PV) (h : PH) : R2' := match vs with
  | [.str l] => if l.length ≤ sizeLine then some (.int l.length, h) else none
  | [v] => (seqOf G h v).map fun xs => (.int xs.length, h)
  | _ => none
def intV (vs : List PV) (h : PH) : R2' := match vs with
  | [.int i] => some (.int i, h)
  | [.bl b] => some (.int (if b then 1 else 0), h)
  | [.str l] => if l.length ≤ 640 then (PySem.intText? (sOf l)).map fun n => (.int n, h) else none
  | _ => none
def strV (vs : List PV) (h : PH) : R2' := match vs with
  | [.int i] => if i.natAbs.log2 < 1920 then some (.str (strI i), h) else none
  | _ => none
def tupleV (G : Pg) (vs : List PV) (h : PH) : R2' := match vs with
  | [v] => match lstOf G h v with
    | some xs => some (.loc h.length, h ++ [.tup xs])
    | none => (tupOf G h v).map fun _ => (v, h)
  | _ => none
def listV (G : Pg) (vs : List PV) (h : PH) : R2' := match vs with
  | [v] => (seqOf G h v).map fun xs => (.loc h.length, h ++ [.lst xs])
  | _ => none
def maxV (vs : List PV) (h : PH) : R2' := match vs with
  | [.int a, .int b] => some (.int (max a b), h)
  | [.int a, .int b, .int c] => some (.int (max (max a b) c), h)
  | [.int a, .int b, .int c, .int d] => some (.int (max (max (max a b) c) d), h)
  | _ => none
def minV (vs : List PV) (h : PH) : R2' := match vs with
  | [.int a, .int b] => some (.int (min a b), h)
  | _ => none
def sumV (G : Pg) (vs : List PV) (h : PH) : R2' := match vs with
  | [v] => ((lstOf G h v).bind intsOf).map fun ns => (.int ns.sum, h)
  | _ => none
def maxlV (G : Pg) (vs : List PV) (h : PH) : R2' := match vs with
  | [v] => (((lstOf G h v).bind intsOf).bind maxP).map fun i => (.int i, h)
  | _ => none
def isiV (G : Pg) (vs : List PV) (h : PH) : R2' := match vs with
  | [x, .ty t] => (isiP G h x t).map fun b => (.bl b, h)
  | _ => none
def appendV (vs : List PV) (h : PH) : R2' := match vs with
  | [.loc n, y] => match h[n]? with
    | some (.lst xs) => if xs.length < sizeLine then some (.non, h.set n (.lst (xs ++ [y]))) else none
    | _ => none
  | _ => none
def popV (vs : List PV) (h : PH) : R2' := match vs with
  | [.loc n] => match h[n]? with
    | some (.lst xs) => xs[xs.length - 1]?.map fun y => (y, h.set n (.lst xs.dropLast))
    | _ => none
  | _ => none
def reverseV (vs : List PV) (h : PH) : R2' := match vs with
  | [.loc n] => match h[n]? with
    | some (.lst xs) => some (.non, h.set n (.lst xs.reverse))
    | _ => none
  | _ => none
def joinV (G : Pg) (vs : List PV) (h : PH) : R2' := match vs with
  | [.str a, v] => match (seqOf G h v).bind strsOf with
    | some ys => if (ys.map (·.length)).sum + ys.length * a.length ≤ 16777216 then some (.str (joinL a ys), h) else none
    | none => none
  | _ => none
def bitlenV (vs : List PV) (h : PH) : R2' := match vs with
  | [.int i] => some (.int (Builtin.Int.intBits i : Nat), h)
  | _ => none
def indexV (G : Pg) (vs : List PV) (h : PH) : R2' := match vs with
  | [.str a, .str b] => match Builtin.Str.occurrences (sOf a) (sOf b) 0 a.length 1 with
    | i :: _ => some (.int (i : Nat), h)
    | [] => none
  | [v, y] => match lstOf G h v with
    | some xs => if flatP y && xs.all flatP then (xs.findIdx? fun z => eqS z y).map fun j => (.int (j : Nat), h) else none
    | none => none
  | _ => none
def prmV (G : Pg) (p : Prm) (vs : List PV) (h : PH) : R2' := match p with
  | .len => lenV G vs h
  | .int => intV vs h
  | .str => strV vs h
  | .tuple => tupleV G vs h
  | .list => listV G vs h
  | .max => maxV vs h
  | .min => minV vs h
  | .sum => sumV G vs h
  | .maxl => maxlV G vs h
  | .isi => isiV G vs h
  | .append => appendV vs h
  | .pop => popV vs h
  | .reverse => reverseV vs h
  | .join => joinV G vs h
  | .bitlen => bitlenV vs h
  | .indexL => indexV G vs h
  | _ => none

/-- what has such a method -/
def mtyP (G : Pg) (p : Prm) (x : PV) (h : PH) : Bool := match p with
  | .append | .pop | .popAt | .reverse => (lstOf G h x).isSome
  | .indexL => match x with
    | .str _ => true
    | v => (lstOf G h v).isSome
  | .join | .split | .find2 | .replace => match x with
    | .str _ => true
    | _ => false
  | .bitlen => match x with
    | .int _ => true
    | _ => false
  | _ => false
/-! ### what must hold ahead -/
inductive Item where
  | val (v : PV)
  | tup (vs : List PV)
def Item.v (h : PH) : Item → PV
  | .val v => v
  | .tup _ => .loc h.length
def Item.h (h : PH) : Item → PH
  | .val _ => h
  | .tup vs => h ++ [.tup vs]
structure Walk where
  chk : PH → Prop
  its : List Item
structure PEnds where
  nx : PSt → PH → Prop
  rt : PV → PH → Prop
  bk : PSt → PH → Prop := fun _ _ => False
  ct : PSt → PH → Prop := fun _ _ => False
def setAll (σ : PSt) : List Nat → List PV → PSt
  | i :: is, x :: xs => setAll (σ.set i (some x)) is xs
  | _, _ => σ
def wipeP (σ : PSt) : List Nat → PSt
  | [] => σ
  | v :: vs => (wipeP σ vs).set v none
/-- lo, lo + c, .. : n of them -/
def rngL (lo c : Int) (n : Nat) : List Item := (List.range n).map fun i => .val (.int (lo + (i : Nat) * c))
def wpFor (tg : PV → PSt → PH → (PSt → PH → Prop) → Prop) (body : PEnds → PSt → PH → Prop) (D : PEnds) (chk : PH → Prop) : List Item → PSt → PH → Prop
  | [], σ, h => chk h ∧ D.nx σ h
  | x :: r, σ, h => chk h ∧ tg (x.v h) σ (x.h h) fun σ2 h2 => body { nx := wpFor tg body D chk r, ct := wpFor tg body D chk r, bk := D.nx, rt := D.rt } σ2 h2
def wpLc (tg : PV → PSt → PH → (PSt → PH → Prop) → Prop) (tst : PSt → PH → (Bool → PH → Prop) → Prop) (el : PSt → PH → (PV → PH → Prop) → Prop) (σ0 : PSt) (d : Nat) (Q : PV → PH → Prop) (chk : PH → Prop) : List Item → PH → Prop
  | [], h => chk h ∧ Q (.loc d) h
  | x :: r, h => chk h ∧ tg (x.v h) σ0 (x.h h) fun σ2 h2 => tst σ2 h2 fun b h3 =>
      if b = true then el σ2 h3 fun y h4 => ∃ acc, h4[d]? = some (.lst acc) ∧ acc.length < sizeLine ∧ wpLc tg tst el σ0 d Q chk r (h4.set d (.lst (acc ++ [y]))) else wpLc tg tst el σ0 d Q chk r h3
def rngOf : List PV → Option (Int × Int × Nat)
  | [.int j] => if -(2 ^ 62) ≤ j ∧ j < 2 ^ 62 then some (0, 1, j.toNat) else none
  | [.int i, .int j] => if -(2 ^ 62) ≤ i ∧ i < 2 ^ 62 ∧ -(2 ^ 62) ≤ j ∧ j < 2 ^ 62 then some (i, 1, (j - i).toNat) else none
  | [.int i, .int j, .int c] => if c ≠ 0 ∧ c.natAbs < 1073741824 ∧ Builtin.Range.small i j c = true ∧ 0 ≤ Builtin.Range.rangeSize i j c then some (i, c, (Builtin.Range.rangeSize i j c).toNat) else none
  | _ => none
def enumL (xs : List PV) : List Item := xs.zipIdx.map fun p => .tup [.int (p.2 : Nat), p.1]
def zipL (xs ys : List PV) : List Item := (xs.zip ys).map fun p => .tup [p.1, p.2]
def putFP (f : Nat) (v : PV) : List (Nat × PV) → List (Nat × PV)
  | [] => [(f, v)]
  | (g, w) :: r => if g = f then (f, v) :: r else (g, w) :: putFP f v r
/-- o[i] = v -/
def setP (o i v : PV) (h : PH) : Option PH := match o, i with
  | .loc n, .int k => match h[n]? with
    | some (.lst xs) => (L2.ixN xs.length k).map fun j => h.set n (.lst (xs.set j v))
    | _ => none
  | _, _ => none
def fldP (G : Pg) (h : PH) (v : PV) (f : Nat) : Option PV := match v with
  | .loc n => match h[n]? with
    | some (.ins _ fs) => fs.lookup f
    | _ => none
  | _ => none
def setF (v : PV) (f : Nat) (y : PV) (h : PH) : Option PH := match v with
  | .loc n => match h[n]? with
    | some (.ins c fs) => if fs.length < 1000 then some (h.set n (.ins c (putFP f y fs))) else none
    | _ => none
  | _ => none
def idxP (G : Pg) (h : PH) (x i : PV) : Option PV := match i with
  | .int k => match x with
    | .str l => if l.length ≤ sizeLine then (L2.atI l k).map fun c => .str [c] else none
    | v => match seqOf G h v with
      | some xs => L2.atI xs k
      | none => none
  | _ => none
/-- of a list alone -/
def idxL (G : Pg) (h : PH) (x i : PV) : Option PV := match i with
  | .int k => match lstOf G h x with
    | some xs => L2.atI xs k
    | none => none
  | _ => none
def partP : Option PV → Option (Option Int)
  | none => some none
  | some (.int i) => some (some i)
  | _ => none
def slcV (G : Pg) (x : PV) (a b : Option Int) (h : PH) : R2' := match x with
  | .str l => if l.length ≤ sizeLine then some (.str (cutP l a b), h) else none
  | v => match lstOf G h v with
    | some xs => some (.loc h.length, h ++ [.lst (cutP xs a b)])
    | none => match tupOf G h v with
      | some xs => if HT.sIx xs.length 0 a = 0 ∧ HT.sIx xs.length xs.length b = xs.length then none else some (.loc h.length, h ++ [.tup (cutP xs a b)])
      | none => none

section
variable (G : Pg) (cl cm : CSem)
mutual
def wpE (E : PX → PH → Prop) : IE → PSt → PH → (PV → PH → Prop) → Prop
  | .var i, σ, h, Q => ∃ v, σ[i]? = some (some v) ∧ Q v h
  | .cst v, _, h, Q => Q v h
  | .bin op a b, σ, h, Q => wpE E a σ h fun x h1 => wpE E b σ h1 fun y h2 => ∃ r, binV G op x y h2 = some r ∧ Q r.1 r.2
  | .neg a, σ, h, Q => wpE E a σ h fun x h1 => ∃ i, x = .int i ∧ Q (.int (-i)) h1
  | .cmp op a b, σ, h, Q => wpE E a σ h fun x h1 => wpE E b σ h1 fun y h2 => ∃ r, cmpV G op x y h2 = some r ∧ Q (.bl r) h2
  | .chn op op' a b c, σ, h, Q => wpE E a σ h fun x h1 => wpE E b σ h1 fun y h2 => ∃ r, cmpV G op x y h2 = some r ∧
      if r = true then wpE E c σ h2 fun z h3 => ∃ r', cmpV G op' y z h3 = some r' ∧ Q (.bl r') h3 else Q (.bl false) h2
  | .and a b, σ, h, Q => wpE E a σ h fun x h1 => ∃ c, truP G h1 x = some c ∧ if c = true then wpE E b σ h1 Q else Q x h1
  | .or a b, σ, h, Q => wpE E a σ h fun x h1 => ∃ c, truP G h1 x = some c ∧ if c = true then Q x h1 else wpE E b σ h1 Q
  | .not a, σ, h, Q => wpE E a σ h fun x h1 => ∃ c, truP G h1 x = some c ∧ Q (.bl (!c)) h1
  | .call f as, σ, h, Q => wpEs E as σ h fun vs h1 => cl f vs h1 Q E
  | .make c as, σ, h, Q => wpEs E as σ h fun vs h1 => ∃ f, G.ini c = some f ∧ cm f (.loc h1.length :: vs) (h1 ++ [.ins c []]) (fun v h2 => v = .non ∧ Q (.loc h1.length) h2) E
  | .meth m a as, σ, h, Q => wpE E a σ h fun x h1 => ∃ n c fs f, x = .loc n ∧ h1[n]? = some (.ins c fs) ∧ fs.lookup m = none ∧ G.meth c m = some f ∧ wpEs E as σ h1 fun vs h2 => cl f (x :: vs) h2 Q E
  | .prm p as, σ, h, Q => wpEs E as σ h fun vs h1 => ∃ r, prmV G p vs h1 = some r ∧ Q r.1 r.2
  | .mtd p a as, σ, h, Q => wpE E a σ h fun x h1 => mtyP G p x h1 = true ∧ wpEs E as σ h1 fun vs h2 => ∃ r, prmV G p (x :: vs) h2 = some r ∧ Q r.1 r.2
  | .idx a i, σ, h, Q => wpE E a σ h fun x h1 => wpE E i σ h1 fun y h2 => ∃ v, idxP G h2 x y = some v ∧ Q v h2
  | .slc a lo hi, σ, h, Q => wpE E a σ h fun x h1 => wpO E lo σ h1 fun l h2 => ∃ lo', partP l = some lo' ∧ wpO E hi σ h2 fun u h3 => ∃ hi', partP u = some hi' ∧ ∃ r, slcV G x lo' hi' h3 = some r ∧ Q r.1 r.2
  | .fld a f, σ, h, Q => wpE E a σ h fun x h1 => ∃ v, fldP G h1 x f = some v ∧ Q v h1
  | .lst as, σ, h, Q => wpEs E as σ h fun vs h1 => vs.length ≤ sizeLine ∧ Q (.loc h1.length) (h1 ++ [.lst vs])
  | .tup as, σ, h, Q => wpEs E as σ h fun vs h1 => vs.length ≤ sizeLine ∧ Q (.loc h1.length) (h1 ++ [.tup vs])
  | .dct as, σ, h, Q => False
  | .comp el g it t own, σ, h, Q => wpI E it σ h fun W h1 =>
      wpLc (wpG (fun _ _ => False) g) (wpTs (fun _ _ => False) t) (wpE (fun _ _ => False) el) (wipeP σ own) h1.length Q W.chk W.its (h1 ++ [.lst []])
def wpEs (E : PX → PH → Prop) : List IE → PSt → PH → (List PV → PH → Prop) → Prop
  | [], _, h, Q => Q [] h
  | a :: r, σ, h, Q => wpE E a σ h fun x h1 => wpEs E r σ h1 fun xs h2 => Q (x :: xs) h2
def wpO (E : PX → PH → Prop) : Option IE → PSt → PH → (Option PV → PH → Prop) → Prop
  | none, _, h, Q => Q none h
  | some a, σ, h, Q => wpE E a σ h fun x h1 => Q (some x) h1
def wpT (E : PX → PH → Prop) : IT → PSt → PH → (Bool → PH → Prop) → Prop
  | .tru a, σ, h, Q => wpE E a σ h fun x h1 => ∃ c, truP G h1 x = some c ∧ Q c h1
  | .and a b, σ, h, Q => wpT E a σ h fun c h1 => if c = true then wpT E b σ h1 Q else Q false h1
  | .or a b, σ, h, Q => wpT E a σ h fun c h1 => if c = true then Q true h1 else wpT E b σ h1 Q
  | .not a, σ, h, Q => wpT E a σ h fun c h1 => Q (!c) h1
def wpTs (E : PX → PH → Prop) : List IT → PSt → PH → (Bool → PH → Prop) → Prop
  | [], _, h, Q => Q true h
  | t :: _, σ, h, Q => wpT E t σ h Q
def wpI (E : PX → PH → Prop) : II → PSt → PH → (Walk → PH → Prop) → Prop
  | .seq a, σ, h, R => wpE E a σ h fun x h1 => match x with
    | .str l => R ⟨fun _ => True, l.map fun c => .val (.str [c])⟩ h1
    | v => ∃ o xs, deref G h1 v = some o ∧ o.seq? = some xs ∧ R ⟨fun h' => deref G h' v = some o, xs.map .val⟩ h1
  | .rng1 a, σ, h, R => wpE E a σ h fun x h1 => ∃ r, rngOf [x] = some r ∧ R ⟨fun _ => True, rngL r.1 r.2.1 r.2.2⟩ h1
  | .rng2 a b, σ, h, R => wpE E a σ h fun x h1 => wpE E b σ h1 fun y h2 => ∃ r, rngOf [x, y] = some r ∧ R ⟨fun _ => True, rngL r.1 r.2.1 r.2.2⟩ h2
  | .rng3 a b c, σ, h, R => wpE E a σ h fun x h1 => wpE E b σ h1 fun y h2 => wpE E c σ h2 fun z h3 => ∃ r, rngOf [x, y, z] = some r ∧ R ⟨fun _ => True, rngL r.1 r.2.1 r.2.2⟩ h3
  | .enum a, σ, h, R => wpE E a σ h fun v h1 => ∃ xs, lstOf G h1 v = some xs ∧ R ⟨fun h' => lstOf G h' v = some xs, enumL xs⟩ h1
  | .zip a b, σ, h, R => wpE E a σ h fun v h1 => wpE E b σ h1 fun u h2 => ∃ xs ys, lstOf G h2 v = some xs ∧ lstOf G h2 u = some ys ∧
      R ⟨fun h' => lstOf G h' v = some xs ∧ lstOf G h' u = some ys, zipL xs ys⟩ h2
  | .rev a, σ, h, R => wpE E a σ h fun v h1 => ∃ xs, lstOf G h1 v = some xs ∧ R ⟨fun h' => lstOf G h' v = some xs, xs.reverse.map .val⟩ h1
def wpG (E : PX → PH → Prop) : IG → PV → PSt → PH → (PSt → PH → Prop) → Prop
  | .name i, v, σ, h, Q => Q (σ.set i (some v)) h
  | .names is, v, σ, h, Q => ∃ xs, seqOf G h v = some xs ∧ xs.length = is.length ∧ Q (setAll σ is xs) h
  | .sub o i, v, σ, h, Q => wpE E o σ h fun x h1 => wpE E i σ h1 fun y h2 => ∃ h3, setP x y v h2 = some h3 ∧ Q σ h3
  | .fld o f, v, σ, h, Q => wpE E o σ h fun x h1 => ∃ h2, setF x f v h1 = some h2 ∧ Q σ h2
end
def iopV (op : Operator) (x y : PV) (h : PH) : R2' := match op, x, y with
  | .Add, .int a, .int b => some (.int (a + b), h)
  | .Add, .str a, .str b => if a.length + b.length ≤ sizeLine then some (.str (a ++ b), h) else none
  | .Sub, .int a, .int b => some (.int (a - b), h)
  | .Mult, .int a, .int b => if a.natAbs.log2 + b.natAbs.log2 < 1000000 then some (.int (a * b), h) else none
  | _, _, _ => none
mutual
def wpSt (E : PX → PSt → PH → Prop) : IS → PEnds → PSt → PH → Prop
  | .asg g e, D, σ, h => wpE G cl cm (fun x => E x σ) e σ h fun v h1 => wpG G cl cm (fun x => E x σ) g v σ h1 D.nx
  | .par i j a b, D, σ, h => wpE G cl cm (fun x => E x σ) a σ h fun v h1 => wpE G cl cm (fun x => E x σ) b σ h1 fun w h2 => D.nx ((σ.set i (some v)).set j (some w)) h2
  | .aug i op e, D, σ, h => ∃ x, σ[i]? = some (some x) ∧ wpE G cl cm (fun x => E x σ) e σ h fun y h1 => ∃ r, iopV op x y h1 = some r ∧ D.nx (σ.set i (some r.1)) r.2
  | .augS o i op e, D, σ, h => wpE G cl cm (fun x => E x σ) o σ h fun x h1 => wpE G cl cm (fun x => E x σ) i σ h1 fun k h2 => ∃ v, idxL G h2 x k = some v ∧
      wpE G cl cm (fun x => E x σ) e σ h2 fun y h3 => ∃ r, iopV op v y h3 = some r ∧ ∃ h4, setP x k r.1 r.2 = some h4 ∧ D.nx σ h4
  | .augF o f op e, D, σ, h => wpE G cl cm (fun x => E x σ) o σ h fun x h1 => ∃ v, fldP G h1 x f = some v ∧
      wpE G cl cm (fun x => E x σ) e σ h1 fun y h2 => ∃ r, iopV op v y h2 = some r ∧ ∃ h3, setF x f r.1 r.2 = some h3 ∧ D.nx σ h3
  | .exp e, D, σ, h => wpE G cl cm (fun x => E x σ) e σ h fun _ h1 => D.nx σ h1
  | .ret e, D, σ, h => wpE G cl cm (fun x => E x σ) e σ h D.rt
  | .ite t a b, D, σ, h => wpT G cl cm (fun x => E x σ) t σ h fun c h1 => if c = true then wpSs E a D σ h1 else wpSs E b D σ h1
  | .whl t b, D, σ, h => ∃ W : Nat → PSt → PH → Prop, (∃ m, W m σ h) ∧ ∀ m σ h, W m σ h → wpT G cl cm (fun x => E x σ) t σ h fun c h1 =>
      if c = true then wpSs E b { D with nx := fun σ' h' => ∃ m', m' < m ∧ W m' σ' h', ct := fun σ' h' => ∃ m', m' < m ∧ W m' σ' h', bk := D.nx } σ h1 else D.nx σ h1
  | .for_ g it b, D, σ, h => wpI G cl cm (fun x => E x σ) it σ h fun W h1 => wpFor (fun v σ h Q => wpG G cl cm (fun x => E x σ) g v σ h Q) (fun D σ h => wpSs E b D σ h) D W.chk W.its σ h1
  | .brk, D, σ, h => D.bk σ h
  | .cont, D, σ, h => D.ct σ h
  | .skip, D, σ, h => D.nx σ h
  | .raise _ _, _, _, _ => False
  | .try_ _ _ _ _, _, _, _ => False
def wpSs (E : PX → PSt → PH → Prop) : List IS → PEnds → PSt → PH → Prop
  | [], D, σ, h => D.nx σ h
  | s :: r, D, σ, h => wpSt E s { D with nx := wpSs E r D } σ h
end
end
/-- a def: how many parameters, how many slots, its body -/
structure Fn where
  np : Nat
  ns : Nat
  body : List IS
/-- what a call is: of a def's body where calls are cl -/
def semB (G : Pg) (P : Nat → Option Fn) (cl cm : CSem) : CSem := fun f vs h Q E => ∃ F, P f = some F ∧ vs.length = F.np ∧
  wpSs G cl cm (fun x _ => E x) F.body { nx := fun _ h' => Q .non h', rt := Q } (vs.map some ++ List.replicate (F.ns - F.np) none) h
/-- k levels deep, and one level less -/
def sem2 (G : Pg) (P : Nat → Option Fn) : Nat → CSem × CSem
  | 0 => (fun _ _ _ _ _ => False, fun _ _ _ _ _ => False)
  | k + 1 => (semB G P (sem2 G P k).1 (sem2 G P k).2, (sem2 G P k).1)
def semF (G : Pg) (P : Nat → Option Fn) (k : Nat) : CSem := (sem2 G P k).1
def semP (G : Pg) (P : Nat → Option Fn) (k : Nat) : CSem := (sem2 G P k).2
end Fw
set_option Elab.async false
set_option linter.all false
set_option maxRecDepth 100000
set_option maxHeartbeats 1000000
/-! Fw3: the operations keep what Fw2 says of them. -/
namespace Fw
open PySem PySem.Spec PyProof.Rows L2

/-- the constants of the top stand as the table tells -/
def KTup (K : PySem.W.Frag) (a : Addr) (xs : List V) : Prop :=
  ∃ (o : Obj) (its : Array Value) (n : Nat), K.lookup a = some o ∧ o.cls = .type "tuple" ∧ o.data = .seq its n ∧ its.size ≤ sizeLine ∧ Vals xs its.toList
structure KOk (T : Tab) (G : Pg) : Prop where
  kt : G.kt = T.kon.map (·.2)
  tup : ∀ (n : Nat) (a : Addr) (o : PO), T.kon[n]? = some (a, o) → (∃ xs vs, o = .tup xs ∧ KTup T.K a vs ∧ RVs T [] xs vs) ∨ ∃ kvs, o = .dct kvs

/-- what is wanted of a value and the heap behind it, told by Q over the small heap -/
def KQ (T : Tab) (m : List Addr) (Qf : PV → PH → Prop) (Q : VK) : Prop :=
  ∀ (m' : List Addr) (h' : PH) (p : PV) (v : V) (H' : Hp), m <+: m' → HR T m' h' H' → RV T m' p v → Qf p h' → Q v H'
def KR (T : Tab) (m : List Addr) (r : PV × PH) (Q : VK) : Prop :=
  ∀ (m' : List Addr) (v : V) (H' : Hp), m <+: m' → HR T m' r.2 H' → RV T m' r.1 v → Q v H'
theorem pre_refl {α : Type} {l : List α} : l <+: l := ⟨[], List.append_nil l⟩
theorem pre_trans {α : Type} {a b c : List α} (h : a <+: b) (h' : b <+: c) : a <+: c := List.IsPrefix.trans h h'
section
variable {T : Tab} {G : Pg} {m : List Addr} {h : PH} {H : Hp} {Q : VK}
theorem KR.now {p : PV} {v : V} (k : KR T m (p, h) Q) (r : HR T m h H) (rv : RV T m p v) : Q v H := k m v H pre_refl r rv
/-- a new object -/
theorem KR.new {o : PO} {u : HO} {l : Addr} (k : KR T m (.loc h.length, h ++ [o]) Q) (r : HR T m h H) (hl : H l = none) (ho : OR T (m ++ [l]) (upd H l u) l o) (hr : o.isRol = false) : Q (.ref l) (upd H l u) :=
  k (m ++ [l]) (.ref l) (upd H l u) ext_snoc (r.new hl ho hr) ⟨l, by rw [← r.len, List.getElem?_append_right (Nat.le_refl _), Nat.sub_self]; rfl, rfl⟩
theorem KR.newL {xs : List PV} {vs : List V} {l : Addr} (k : KR T m (.loc h.length, h ++ [.lst xs]) Q) (r : HR T m h H) (rv : RVs T m xs vs) (hl : H l = none) : Q (.ref l) (upd H l (.lst vs)) :=
  k.new r hl ⟨vs, upd_same, rv.ext ext_snoc⟩ rfl
theorem KR.newT {xs : List PV} {vs : List V} {l : Addr} (k : KR T m (.loc h.length, h ++ [.tup xs]) Q) (r : HR T m h H) (rv : RVs T m xs vs) (hl : H l = none) : Q (.ref l) (upd H l (.tup vs)) :=
  k.new r hl ⟨vs, upd_same, rv.ext ext_snoc⟩ rfl
/-- a list is changed -/
theorem HR.putL {n : Nat} {a : Addr} {xs xs' : List PV} {vs vs' : List V} (r : HR T m h H) (e1 : m[n]? = some a) (e2 : h[n]? = some (.lst xs)) (ha : H a = some (.lst vs)) (rv : RVs T m xs' vs') : HR T m (h.set n (.lst xs')) (upd H a (.lst vs')) :=
  r.put e1 e2 rfl rfl ha (fun _ _ z => by cases z) ⟨vs', upd_same, rv⟩
/-- which list stands at a place -/
theorem HR.lst {n : Nat} {xs : List PV} (r : HR T m h H) (e : h[n]? = some (.lst xs)) : ∃ a vs, m[n]? = some a ∧ H a = some (.lst vs) ∧ RVs T m xs vs := by
  obtain ⟨a, e1, vs, e2, rv⟩ := r.at e
  exact ⟨a, vs, e1, e2, rv⟩
theorem HR.tup {n : Nat} {xs : List PV} (r : HR T m h H) (e : h[n]? = some (.tup xs)) : ∃ a vs, m[n]? = some a ∧ H a = some (.tup vs) ∧ RVs T m xs vs := by
  obtain ⟨a, e1, vs, e2, rv⟩ := r.at e
  exact ⟨a, vs, e1, e2, rv⟩
theorem kon_get (ok : KOk T G) {n : Nat} {o : PO} (e : G.kt[n]? = some o) : ∃ a, T.kon[n]? = some (a, o) := by
  rw [ok.kt, List.getElem?_map] at e
  cases q : T.kon[n]? with
  | none => rw [q] at e; cases e
  | some p =>
    rw [q] at e
    obtain ⟨a, o'⟩ := p
    cases e
    exact ⟨a, rfl⟩
theorem RVs.nil_ext {xs : List PV} {vs : List V} (r : RVs T [] xs vs) : RVs T m xs vs := r.ext ⟨m, rfl⟩
theorem lstOf_ok (ok : KOk T G) (r : HR T m h H) {p : PV} {v : V} {xs : List PV} (rv : RV T m p v) (e : lstOf G h p = some xs) : ∃ a vs, v = .ref a ∧ SqL T.K H a vs ∧ RVs T m xs vs := by
  unfold lstOf at e
  cases p with
  | loc n =>
    obtain ⟨a, e1, rfl⟩ := rv
    simp only [deref] at e
    split at e
    · rename_i ys hy
      cases e
      have q := r.obj n a _ e1 hy
      obtain ⟨vs, e2, r2⟩ := q
      exact ⟨a, vs, rfl, .of e2, r2⟩
    · rename_i ys hy
      cases e
      have q := r.obj n a _ e1 hy
      obtain ⟨vs, e2, r2⟩ := q
      refine ⟨a, vs, rfl, ?_, r2⟩
      rcases e2 with ⟨o, e2⟩ | k
      · exact .inl (.inr ⟨o, e2⟩)
      · exact .inr k
    · cases e
  | kon n =>
    simp only [deref] at e
    split at e
    · rename_i ys hy
      obtain ⟨a, e1⟩ := kon_get ok hy
      rcases ok.tup _ _ _ e1 with ⟨_, _, z, _⟩ | ⟨_, z⟩ <;> cases z
    · rename_i ys hy
      obtain ⟨a, e1⟩ := kon_get ok hy
      rcases ok.tup _ _ _ e1 with ⟨_, _, z, _⟩ | ⟨_, z⟩ <;> cases z
    · cases e
  | _ => simp [deref] at e
theorem tupOf_ok (ok : KOk T G) (r : HR T m h H) {p : PV} {v : V} {xs : List PV} (rv : RV T m p v) (e : tupOf G h p = some xs) : ∃ a vs, v = .ref a ∧ SqT T.K H a vs ∧ RVs T m xs vs := by
  unfold tupOf at e
  cases p with
  | loc n =>
    obtain ⟨a, e1, rfl⟩ := rv
    simp only [deref] at e
    split at e
    · rename_i ys hy
      cases e
      obtain ⟨vs, e2, r2⟩ := r.obj n a _ e1 hy
      exact ⟨a, vs, rfl, .of e2, r2⟩
    · cases e
  | kon n =>
    obtain ⟨a, o, e1, rfl⟩ := rv
    simp only [deref] at e
    split at e
    · rename_i ys hy
      cases e
      obtain ⟨a', e2⟩ := kon_get ok hy
      rw [e1] at e2; cases e2
      rcases ok.tup _ _ _ e1 with ⟨xs', vs, z, k, rr⟩ | ⟨_, z⟩
      · cases z
        exact ⟨a, vs, rfl, .inr k, rr.nil_ext⟩
      · cases z
    · cases e
  | _ => simp [deref] at e
theorem seqOf_ok (ok : KOk T G) (r : HR T m h H) {p : PV} {v : V} {xs : List PV} (rv : RV T m p v) (e : seqOf G h p = some xs) : ∃ a vs, v = .ref a ∧ (SqL T.K H a vs ∨ SqT T.K H a vs) ∧ RVs T m xs vs := by
  have e' : lstOf G h p = some xs ∨ tupOf G h p = some xs := by
    unfold seqOf at e
    unfold lstOf tupOf
    split at e <;> rename_i q <;> simp_all
  rcases e' with e' | e'
  · obtain ⟨a, vs, x, y, z⟩ := lstOf_ok ok r rv e'
    exact ⟨a, vs, x, .inl y, z⟩
  · obtain ⟨a, vs, x, y, z⟩ := tupOf_ok ok r rv e'
    exact ⟨a, vs, x, .inr y, z⟩
end
theorem rvs_rep {T : Tab} {m : List Addr} {xs : List PV} {vs : List V} (r : RVs T m xs vs) : ∀ n : Nat, RVs T m (List.replicate n xs).flatten (List.replicate n vs).flatten
  | 0 => .nil
  | n + 1 => by
    rw [List.replicate_succ, List.replicate_succ, List.flatten_cons, List.flatten_cons]
    exact r.append (rvs_rep r n)
/-- a reading of two values by a function over the small heap -/
def rOf (T : Tab) (f : PV → PV → PH → R2') : R2 := fun x y H Q => ∃ m h p q r, HR T m h H ∧ RV T m p x ∧ RV T m q y ∧ f p q h = some r ∧ KR T m r Q
/-- one rule after another -/
theorem opr_of {X : Cx} {f : Value → Value → Sem Value} {r : R2} (k : ∀ x y H Q, r x y H Q → ∃ r' : R2, OpR X f r' ∧ r' x y H Q) : OpR X f r := fun pins s σ H x y v u Q I rx ry h => by
  obtain ⟨r', o, h'⟩ := k x y H Q h
  exact o pins s σ H x y v u Q I rx ry h'
theorem sOf_app (a b : List Nat) : sOf a ++ sOf b = sOf (a ++ b) := by
  show Str.append _ _ = _
  unfold Str.append sOf
  simp
theorem sOf_len (a : List Nat) : (sOf a).length = a.length := by
  unfold sOf Str.length; simp
theorem sOf_inj {a b : List Nat} (h : sOf a = sOf b) : a = b := by
  unfold sOf at h
  simpa using h
section
variable {X : Cx} {T : Tab} {G : Pg}
theorem op_bin (hK : X.K = T.K) (ok : KOk T G) {op : Operator} : OpR X (binaryOp op) (rOf T (binV G op)) := by
  refine opr_of fun x y H Q hh => ?_
  obtain ⟨m, h, p, q, r, hr, rx, ry, e, k⟩ := hh
  unfold binV at e
  split at e
  · -- Add int int
    cases e
    exact ⟨_, op_add, _, _, rx, ry, k.now hr rfl⟩
  · split at e
    · cases e
      rename_i a b hz
      refine ⟨_, op_add_str, _, _, rx, ry, by rw [sOf_len, sOf_len]; exact hz, ?_⟩
      rw [sOf_app]
      exact k.now hr rfl
    · cases e
  · split at e
    · split at e
      · cases e
        rename_i xs ys ex ey hz
        obtain ⟨a', vs, m1, h1, r1⟩ := hr.lst ex
        obtain ⟨b', us, m2, h2, r2⟩ := hr.lst ey
        obtain ⟨a2, m3, rfl⟩ := rx
        obtain ⟨b2, m4, rfl⟩ := ry
        rw [m1] at m3; cases m3
        rw [m2] at m4; cases m4
        exact ⟨_, op_cat, _, _, _, _, rfl, rfl, h1, h2, by rw [← r1.length, ← r2.length]; exact hz, fun l hl => k.newL hr (r1.append r2) hl⟩
      · cases e
    · split at e
      · cases e
        rename_i xs ys ex ey hz
        obtain ⟨a', vs, m1, h1, r1⟩ := hr.tup ex
        obtain ⟨b', us, m2, h2, r2⟩ := hr.tup ey
        obtain ⟨a2, m3, rfl⟩ := rx
        obtain ⟨b2, m4, rfl⟩ := ry
        rw [m1] at m3; cases m3
        rw [m2] at m4; cases m4
        have n1 : vs ≠ [] := fun z => by subst z; cases r1; exact hz.1 rfl
        have n2 : us ≠ [] := fun z => by subst z; cases r2; exact hz.2.1 rfl
        exact ⟨_, op_catT, _, _, _, _, rfl, rfl, .of h1, .of h2, n1, by rw [← r1.length, ← r2.length]; exact hz.2.2, fun z => absurd z n2, fun _ l hl => k.newT hr (r1.append r2) hl⟩
      · cases e
    · cases e
  · cases e
    exact ⟨_, op_sub, _, _, rx, ry, k.now hr rfl⟩
  · split at e
    · cases e
      rename_i hz
      exact ⟨_, op_mulW, _, _, rx, ry, hz, k.now hr rfl⟩
    · cases e
  · split at e
    · split at e
      · cases e
        rename_i xs ex hz
        obtain ⟨a', vs, m1, h1, r1⟩ := hr.lst ex
        obtain ⟨a2, m3, rfl⟩ := rx
        rw [m1] at m3; cases m3
        refine ⟨_, op_rep, _, _, _, rfl, ry, h1, hz.1, hz.2.1, by rw [← r1.length]; exact hz.2.2, fun l hl => k.newL hr ?_ hl⟩
        exact rvs_rep r1 _
      · cases e
    · cases e
  · split at e
    · cases e
      rename_i hz
      refine ⟨_, (opI fun _ _ _ _ _ _ _ (hc : _ ≠ 0 ∧ _) q => floordiv_int hc.1 q (.inl (PyProof.noPylong_of_log2 hc.2)) : OpR X (binaryOp .FloorDiv) (rI (fun _ j => j ≠ 0 ∧ j.natAbs.log2 < 9000) fun i j => .int (i.fdiv j))), _, _, rx, ry, hz, k.now hr rfl⟩
    · cases e
  · split at e
    · cases e
      rename_i hz
      exact ⟨_, op_modN, _, _, rx, ry, hz, k.now hr rfl⟩
    · cases e
  · split at e
    · cases e
      rename_i hz
      exact ⟨_, op_pow, _, _, rx, ry, hz, k.now hr rfl⟩
    · cases e
  · split at e
    · cases e
      rename_i hz
      exact ⟨_, op_shl, _, _, rx, ry, hz, k.now hr rfl⟩
    · cases e
  · split at e
    · cases e
      rename_i hz
      exact ⟨_, op_shr, _, _, rx, ry, hz, k.now hr rfl⟩
    · cases e
  · cases e
    exact ⟨_, op_and, _, _, rx, ry, k.now hr rfl⟩
  · cases e
theorem op_iop (hK : X.K = T.K) (ok : KOk T G) {op : Operator} : OpR X (inplaceOp op) (rOf T (iopV op)) := by
  refine opr_of fun x y H Q hh => ?_
  obtain ⟨m, h, p, q, r, hr, rx, ry, e, k⟩ := hh
  unfold iopV at e
  split at e
  · cases e
    exact ⟨_, iop_add, _, _, rx, ry, k.now hr rfl⟩
  · split at e
    · cases e
      rename_i a b hz
      refine ⟨_, iop_add_str, _, _, rx, ry, by rw [sOf_len, sOf_len]; exact hz, ?_⟩
      rw [sOf_app]
      exact k.now hr rfl
    · cases e
  · cases e
    exact ⟨_, iop_sub, _, _, rx, ry, k.now hr rfl⟩
  · split at e
    · cases e
      rename_i hz
      exact ⟨_, (opI fun i j _ _ _ _ _ (hc : CMulW i j) q => imul_int q hc.ok : OpR X (inplaceOp .Mult) (rI CMulW fun i j => .int (i * j))), _, _, rx, ry, hz, k.now hr rfl⟩
    · cases e
  · cases e
/-! ### comparisons -/
theorem sOf_list (l : List Nat) : (sOf l).cps.toList = l := by unfold sOf; simp
theorem sOf_dec (a b : List Nat) : decide (sOf a = sOf b) = decide (a = b) := by
  by_cases e : a = b
  · subst e; simp
  · rw [decide_eq_false e, decide_eq_false fun z => e (sOf_inj z)]
def rCmp (T : Tab) (f : PV → PV → PH → Option Bool) : R2 := fun x y H Q => ∃ m h p q b, HR T m h H ∧ RV T m p x ∧ RV T m q y ∧ f p q h = some b ∧ Q (.bl b) H
theorem data_all {T : Tab} {m : List Addr} {H : Hp} {f : PV → Option PyData} (hf : ∀ p d v, RV T m p v → f p = some d → Dp T.K H v d) : ∀ {xs : List PV} {vs : List V} {ds : List PyData}, RVs T m xs vs → xs.mapM f = some ds → DpAll T.K H vs ds
  | [], _, ds, .nil, e => by
    simp at e; subst e; exact .nil
  | x :: xs, _, ds, .cons r t, e => by
    rw [List.mapM_cons] at e
    cases q : f x with
    | none => rw [q] at e; cases e
    | some d =>
      rw [q] at e
      cases q2 : xs.mapM f with
      | none => rw [q2] at e; cases e
      | some es =>
        rw [q2] at e
        cases e
        exact .cons (hf _ _ _ r q) (data_all hf t q2)
theorem data_ok {m : List Addr} {h : PH} {H : Hp} (ok : KOk T G) (hr : HR T m h H) : ∀ (k : Nat) (p : PV) (d : PyData) (v : V), RV T m p v → dataOf G h k p = some d → Dp T.K H v d := by
  intro k
  have base : ∀ (k : Nat) (p : PV) (d : PyData) (v : V), scalP p = true → RV T m p v → dataOf G h k p = some d → Dp T.K H v d := fun k p d v hs r e => by
    cases p with
    | non =>
      have r : v = .non := r
      subst r; unfold dataOf at e; cases e; exact .non
    | bl b =>
      have r : v = .bl b := r
      subst r; unfold dataOf at e; cases e; exact .bl b
    | int i =>
      have r : v = .int i := r
      subst r; unfold dataOf at e; cases e; exact .int i
    | str l =>
      have r : v = .str (sOf l) := r
      subst r; unfold dataOf at e; cases e; exact .str _
    | _ => cases hs
  induction k with
  | zero =>
    intro p d v r e
    cases hs : scalP p with
    | true => exact base 0 p d v hs r e
    | false => cases p <;> first | (cases hs; done) | (unfold dataOf at e; cases e)
  | succ k ih =>
    intro p d v r e
    cases hs : scalP p with
    | true => exact base _ p d v hs r e
    | false =>
      have e' : (match deref G h p with
        | some (.lst xs) => (xs.mapM (dataOf G h k)).map PyData.list
        | some (.rol xs) => (xs.mapM (dataOf G h k)).map PyData.list
        | some (.tup xs) => (xs.mapM (dataOf G h k)).map PyData.tuple
        | _ => none) = some d := by
        cases p <;> first | (cases hs; done) | exact e
      have eL : ∀ xs, lstOf G h p = some xs → (xs.mapM (dataOf G h k)).map PyData.list = some d → Dp T.K H v d := fun xs q z => by
        obtain ⟨a, vs, rfl, hS, rs⟩ := lstOf_ok ok hr r q
        cases q2 : xs.mapM (dataOf G h k) with
        | none => rw [q2] at z; cases z
        | some es =>
          rw [q2] at z; cases z
          exact .lst hS (data_all (fun p d v r e => ih p d v r e) rs q2)
      have eT : ∀ xs, tupOf G h p = some xs → (xs.mapM (dataOf G h k)).map PyData.tuple = some d → Dp T.K H v d := fun xs q z => by
        obtain ⟨a, vs, rfl, hS, rs⟩ := tupOf_ok ok hr r q
        cases q2 : xs.mapM (dataOf G h k) with
        | none => rw [q2] at z; cases z
        | some es =>
          rw [q2] at z; cases z
          exact .tup hS (data_all (fun p d v r e => ih p d v r e) rs q2)
      split at e'
      · rename_i xs q; exact eL xs (by unfold lstOf; rw [q]) e'
      · rename_i xs q; exact eL xs (by unfold lstOf; rw [q]) e'
      · rename_i xs q; exact eT xs (by unfold tupOf; rw [q]) e'
      · cases e'
theorem eqP_ok {m : List Addr} {h : PH} {H : Hp} {p q : PV} {x y : V} {b : Bool} (ok : KOk T G) (hr : HR T m h H) (rx : RV T m p x) (ry : RV T m q y) (e : eqP G h p q = some b) :
    (scal x y = true ∧ b = decide (x = y)) ∨ (∃ d e, Dp T.K H x d ∧ Dp T.K H y e ∧ SeqAt.shaped d = true ∧ SeqAt.shaped e = true ∧ b = PyData.eqv d e) := by
  unfold eqP at e
  split at e
  · rename_i hs
    rw [Bool.and_eq_true] at hs
    cases e
    obtain ⟨h1, h2⟩ := hs
    cases p <;> first | (cases h1; done) | skip
    all_goals cases q <;> first | (cases h2; done) | skip
    all_goals (have rx : x = _ := rx; have ry : y = _ := ry; subst rx; subst ry)
    case bl.int b i => exact .inr ⟨_, _, .bl b, .int i, rfl, rfl, rfl⟩
    case int.bl i b => exact .inr ⟨_, _, .int i, .bl b, rfl, rfl, rfl⟩
    case str.str a b =>
      refine .inl ⟨rfl, ?_⟩
      show decide (a = b) = decide (V.str (sOf a) = V.str (sOf b))
      rw [← sOf_dec]
      congr 1
      simp
    case int.int a b =>
      refine .inl ⟨rfl, ?_⟩
      show decide (a = b) = decide (V.int a = V.int b)
      congr 1
      simp
    case bl.bl a b =>
      refine .inl ⟨rfl, ?_⟩
      cases a <;> cases b <;> rfl
    case non.non => exact .inl ⟨rfl, by simp [eqS]⟩
    all_goals exact .inl ⟨rfl, by simp [eqS]⟩
  · split at e
    · rename_i d e' q1 q2
      split at e
      · rename_i hz
        rw [Bool.and_eq_true] at hz
        cases e
        exact .inr ⟨d, e', data_ok ok hr _ _ _ _ rx q1, data_ok ok hr _ _ _ _ ry q2, hz.1, hz.2, rfl⟩
      · cases e
    · cases e
theorem flat_rv {m : List Addr} {p : PV} {v : V} (r : RV T m p v) : flatP p = true → flatV v = true := by
  intro f
  cases p with
  | non => have r : v = .non := r; subst r; rfl
  | bl b => have r : v = .bl b := r; subst r; rfl
  | int i => have r : v = .int i := r; subst r; rfl
  | str l => have r : v = .str (sOf l) := r; subst r; rfl
  | _ => cases f
theorem flats_rv {m : List Addr} : ∀ {ps : List PV} {vs : List V}, RVs T m ps vs → ps.all flatP = true → vs.all flatV = true
  | _, _, .nil, _ => rfl
  | _, _, .cons r t, f => by
    rw [List.all_cons, Bool.and_eq_true] at f ⊢
    exact ⟨flat_rv r f.1, flats_rv t f.2⟩
theorem eqS_rv {m : List Addr} {p q : PV} {v u : V} (r : RV T m p v) (r' : RV T m q u) (f : flatP p = true) (f' : flatP q = true) : eqV v u = eqS p q := by
  cases p <;> first | (cases f; done) | skip
  all_goals cases q <;> first | (cases f'; done) | skip
  all_goals (have r : v = _ := r; have r' : u = _ := r'; subst r; subst r')
  all_goals first
    | rfl
    | (simp [eqV, eqS]; done)
    | (rename_i a b
       show (sOf a == sOf b) = decide (a = b)
       rw [← sOf_dec]; first | rfl | (exact beq_eq_decide _ _))
theorem anyS_rv {m : List Addr} {p : PV} {v : V} (r : RV T m p v) (f : flatP p = true) : ∀ {ps : List PV} {vs : List V}, RVs T m ps vs → ps.all flatP = true → inV v vs = ps.any fun z => eqS z p
  | _, _, .nil, _ => rfl
  | _, _, .cons r' t, g => by
    rw [List.all_cons, Bool.and_eq_true] at g
    show (eqV _ v || _) = _
    rw [List.any_cons, eqS_rv r' r g.1 f]
    have := anyS_rv r f t g.2
    unfold inV at this
    rw [this]
theorem isN_rv {m : List Addr} {p : PV} {v : V} (r : RV T m p v) : decide (v = .non) = decide (p = .non) := by
  cases p with
  | non => have r : v = .non := r; subst r; simp
  | bl b => have r : v = .bl b := r; subst r; simp
  | int i => have r : v = .int i := r; subst r; simp
  | str l => have r : v = .str (sOf l) := r; subst r; simp
  | loc n => obtain ⟨a, _, rfl⟩ := r; simp
  | kon n => obtain ⟨a, _, _, rfl⟩ := r; simp
  | cls n => obtain ⟨a, _, rfl⟩ := r; simp
  | ty s => have r : v = .ty s := r; subst r; simp
theorem op_cmp (hK : X.K = T.K) (ok : KOk T G) (hu : X.A.units + 64 < cLine) {op : CmpOp} : OpR X (compareOp op) (rCmp T (cmpV G op)) := by
  refine opr_of fun x y H Q hh => ?_
  obtain ⟨m, h, p, q, b, hr, rx, ry, e, k⟩ := hh
  unfold cmpV at e
  split at e
  · rcases eqP_ok ok hr rx ry e with ⟨h1, rfl⟩ | ⟨d, e', h1, h2, h3, h4, rfl⟩
    · exact ⟨_, op_eq, h1, k⟩
    · exact ⟨_, op_eqD hu, d, e', by rw [hK]; exact h1, by rw [hK]; exact h2, h3, h4, k⟩
  · cases q1 : eqP G h p q with
    | none => rw [q1] at e; cases e
    | some b' =>
      rw [q1] at e; cases e
      rcases eqP_ok ok hr rx ry q1 with ⟨h1, rfl⟩ | ⟨d, e', h1, h2, h3, h4, rfl⟩
      · exact ⟨_, op_ne, h1, k⟩
      · exact ⟨_, op_neD hu, d, e', by rw [hK]; exact h1, by rw [hK]; exact h2, h3, h4, k⟩
  · cases e; exact ⟨_, op_lt, _, _, rx, ry, k⟩
  · cases e; exact ⟨_, op_le, _, _, rx, ry, k⟩
  · cases e; exact ⟨_, op_gt, _, _, rx, ry, k⟩
  · cases e; exact ⟨_, op_ge, _, _, rx, ry, k⟩
  · cases e
    refine ⟨_, op_isN, ry, ?_⟩
    rw [isN_rv rx]; exact k
  · cases e
    refine ⟨_, op_notN, ry, ?_⟩
    rw [isN_rv rx]; exact k
  · cases e; exact ⟨_, op_is_bl, _, _, rx, ry, k⟩
  · cases e; exact ⟨_, op_isnot_bl, _, _, rx, ry, k⟩
  · cases e
    rename_i a b
    unfold inS at k
    split at k
    · rename_i c
      refine ⟨_, op_in_sign, c, sOf b, rx, ry, ?_⟩
      rw [sOf_list]; exact k
    · refine ⟨_, op_in_str, _, _, rx, ry, ?_⟩
      rw [sOf_len]; exact k
  · cases e
    rename_i a b
    unfold inS at k
    split at k
    · rename_i c
      refine ⟨_, op_notIn_sign, c, sOf b, rx, ry, ?_⟩
      rw [sOf_list]; exact k
    · refine ⟨_, op_notin_str, _, _, rx, ry, ?_⟩
      rw [sOf_len]; exact k
  · split at e
    · rename_i xs q1
      split at e
      · rename_i hz
        rw [Bool.and_eq_true] at hz
        cases e
        obtain ⟨a, vs, rfl, hS, rs⟩ := seqOf_ok ok hr ry q1
        refine ⟨_, op_in_seq, a, vs, rfl, by rw [hK]; exact hS, flat_rv rx hz.1, flats_rv rs hz.2, ?_⟩
        rw [if_neg Bool.false_ne_true, anyS_rv rx hz.1 rs hz.2]
        exact k
      · cases e
    · cases e
  · split at e
    · rename_i xs q1
      split at e
      · rename_i hz
        rw [Bool.and_eq_true] at hz
        cases e
        obtain ⟨a, vs, rfl, hS, rs⟩ := seqOf_ok ok hr ry q1
        refine ⟨_, op_notIn_seq, a, vs, rfl, by rw [hK]; exact hS, flat_rv rx hz.1, flats_rv rs hz.2, ?_⟩
        rw [if_pos rfl, anyS_rv rx hz.1 rs hz.2]
        exact k
      · cases e
    · cases e
  · cases e
end
end Fw
set_option Elab.async false
set_option linter.all false
set_option maxRecDepth 100000
set_option maxHeartbeats 1000000
/-! Fw4: built-in functions and methods, places, slices. -/
namespace Fw
open PySem PySem.Spec PyProof.Rows L2

def rPrm (T : Tab) (f : List PV → PH → R2') : List V → Hp → VK → Prop := fun xs H Q => ∃ m h ps r, HR T m h H ∧ RVs T m ps xs ∧ f ps h = some r ∧ KR T m r Q
theorem callr_of {X : Cx} {f : Value} {r : List V → Hp → VK → Prop} (k : ∀ xs H Q, r xs H Q → ∃ r' : List V → Hp → VK → Prop, CallR X f r' ∧ r' xs H Q) : CallR X f r := fun pins s σ H xs us Q I rx h => by
  obtain ⟨r', o, h'⟩ := k xs H Q h
  exact o pins s σ H xs us Q I rx h'
section
variable {X : Cx} {T : Tab} {G : Pg}
theorem rvs1 {m : List Addr} {p : PV} {xs : List V} (r : RVs T m [p] xs) : ∃ v, xs = [v] ∧ RV T m p v := by
  cases r with
  | cons r t => cases t; exact ⟨_, rfl, r⟩
theorem rvs2 {m : List Addr} {p q : PV} {xs : List V} (r : RVs T m [p, q] xs) : ∃ v u, xs = [v, u] ∧ RV T m p v ∧ RV T m q u := by
  cases r with
  | cons r t =>
    obtain ⟨u, rfl, r'⟩ := rvs1 t
    exact ⟨_, u, rfl, r, r'⟩
theorem ints_rv {m : List Addr} : ∀ {ps : List PV} {ns : List Int} {xs : List V}, intsOf ps = some ns → RVs T m ps xs → xs = ns.map V.int
  | [], ns, _, e, .nil => by cases e; rfl
  | p :: ps, ns, _, e, .cons r t => by
    cases p with
    | int i =>
      have e : (intsOf ps).map (i :: ·) = some ns := e
      cases q : intsOf ps with
      | none => rw [q] at e; cases e
      | some ns' =>
        rw [q] at e; cases e
        rw [ints_rv q t]
        have r : _ = V.int i := r
        rw [r]; rfl
    | _ => cases e
theorem len_ok (hK : X.K = T.K) (ok : KOk T G) : CallR X (.builtin "len") (rPrm T (lenV G)) := by
  refine callr_of fun xs H Q hh => ?_
  obtain ⟨m, h, ps, r, hr, rs, e, k⟩ := hh
  unfold lenV at e
  split at e
  · split at e
    · cases e
      rename_i l hz
      obtain ⟨v, rfl, rv⟩ := rvs1 rs
      have rv : v = .str (sOf l) := rv
      subst rv
      exact ⟨_, call_len, _, l.length, rfl, ⟨by rw [sOf_len]; exact hz, by rw [sOf_len]⟩, k.now hr rfl⟩
    · cases e
  · rename_i p _ 
    cases q : seqOf G h p with
    | none => rw [q] at e; cases e
    | some ys =>
      rw [q] at e; cases e
      obtain ⟨v, rfl, rv⟩ := rvs1 rs
      obtain ⟨a, vs, rfl, hS, rs'⟩ := seqOf_ok ok hr rv q
      refine ⟨_, call_len_seq, a, vs, rfl, by rw [hK]; exact hS, ?_⟩
      rw [← rs'.length]
      exact k.now hr rfl
  · cases e
theorem int_ok : CallR X (.type "int") (rPrm T intV) := by
  refine callr_of fun xs H Q hh => ?_
  obtain ⟨m, h, ps, r, hr, rs, e, k⟩ := hh
  unfold intV at e
  split at e
  · cases e
    obtain ⟨v, rfl, rv⟩ := rvs1 rs
    have rv : v = _ := rv
    subst rv
    exact ⟨_, call_int1, .inl ⟨_, rfl, k.now hr rfl⟩⟩
  · cases e
    obtain ⟨v, rfl, rv⟩ := rvs1 rs
    have rv : v = _ := rv
    subst rv
    exact ⟨_, call_int1, .inr ⟨_, rfl, k.now hr rfl⟩⟩
  · split at e
    · rename_i l hz
      cases q : PySem.intText? (sOf l) with
      | none => rw [q] at e; cases e
      | some n =>
        rw [q] at e; cases e
        obtain ⟨v, rfl, rv⟩ := rvs1 rs
        have rv : v = _ := rv
        subst rv
        exact ⟨_, call_int_str, _, _, rfl, q, by rw [sOf_len]; exact hz, k.now hr rfl⟩
    · cases e
  · cases e
theorem strI_ok (i : Int) : sOf (strI i) = Str.ofString (toString i) := by
  unfold sOf strI
  rw [Str.ofString_eq_toList]
theorem str_ok : CallR X (.type "str") (rPrm T strV) := by
  refine callr_of fun xs H Q hh => ?_
  obtain ⟨m, h, ps, r, hr, rs, e, k⟩ := hh
  unfold strV at e
  split at e
  · split at e
    · cases e
      rename_i i hz
      obtain ⟨v, rfl, rv⟩ := rvs1 rs
      have rv : v = _ := rv
      subst rv
      refine ⟨_, call_str_int, _, rfl, hz, ?_⟩
      rw [← strI_ok]
      exact k.now hr rfl
    · cases e
  · cases e
theorem tuple_ok (hK : X.K = T.K) (ok : KOk T G) : CallR X (.type "tuple") (rPrm T (tupleV G)) := by
  refine callr_of fun xs H Q hh => ?_
  obtain ⟨m, h, ps, r, hr, rs, e, k⟩ := hh
  unfold tupleV at e
  split at e
  · obtain ⟨v, rfl, rv⟩ := rvs1 rs
    split at e
    · rename_i p ys q
      cases e
      obtain ⟨a, vs, rfl, hS, rs'⟩ := lstOf_ok ok hr rv q
      exact ⟨_, call_tuple_of, a, vs, rfl, .inl ⟨by rw [hK]; exact hS, fun l hl => k.newT hr rs' hl⟩⟩
    · rename_i p _ _
      cases q : tupOf G h p with
      | none => rw [q] at e; cases e
      | some ys =>
        rw [q] at e; cases e
        obtain ⟨a, vs, rfl, hS, rs'⟩ := tupOf_ok ok hr rv q
        exact ⟨_, call_tuple_of, a, vs, rfl, .inr ⟨by rw [hK]; exact hS, k.now hr rv⟩⟩
  · cases e
theorem list_ok (hK : X.K = T.K) (ok : KOk T G) : CallR X (.type "list") (rPrm T (listV G)) := by
  refine callr_of fun xs H Q hh => ?_
  obtain ⟨m, h, ps, r, hr, rs, e, k⟩ := hh
  unfold listV at e
  split at e
  · obtain ⟨v, rfl, rv⟩ := rvs1 rs
    rename_i p
    cases q : seqOf G h p with
    | none => rw [q] at e; cases e
    | some ys =>
      rw [q] at e; cases e
      obtain ⟨a, vs, rfl, hS, rs'⟩ := seqOf_ok ok hr rv q
      exact ⟨_, call_list_of, a, vs, rfl, by rw [hK]; exact hS, fun l hl => k.newL hr rs' hl⟩
  · cases e
theorem min_ok (hc : X.calm = true) : CallR X (.builtin "min") (rPrm T minV) := by
  refine callr_of fun xs H Q hh => ?_
  obtain ⟨m, h, ps, r, hr, rs, e, k⟩ := hh
  unfold minV at e
  split at e
  · cases e
    obtain ⟨v, u, rfl, rv, ru⟩ := rvs2 rs
    have rv : v = _ := rv
    have ru : u = _ := ru
    subst rv; subst ru
    refine ⟨_, call_min2 hc, _, _, rfl, ?_⟩
    refine k.now hr ?_
    rename_i a b
    show V.int (if b < a then b else a) = V.int (min a b)
    congr 1
    rw [Int.min_def]
    split <;> split <;> omega
  · cases e
theorem isi_ok (hK : X.K = T.K) (ok : KOk T G) : CallR X (.builtin "isinstance") (rPrm T (isiV G)) := by
  refine callr_of fun xs H Q hh => ?_
  obtain ⟨m, h, ps, r, hr, rs, e, k⟩ := hh
  unfold isiV at e
  split at e
  · rename_i p t
    obtain ⟨v, u, rfl, rv, ru⟩ := rvs2 rs
    have ru : u = _ := ru
    subst ru
    cases q : isiP G h p t with
    | none => rw [q] at e; cases e
    | some b =>
      rw [q] at e; cases e
      unfold isiP at q
      cases q2 : tyP G h p with
      | none => rw [q2] at q; cases q
      | some a =>
        rw [q2] at q
        have q : kitB a t = some b := q
        refine ⟨_, call_isi, v, .ty t, .type a, .type t, b, rfl, .ty t, ?_, kit_ty q, k.now hr rfl⟩
        rw [hK]
        unfold tyP at q2
        split at q2
        · cases q2; have rv : v = _ := rv; subst rv; exact .base .non
        · cases q2; have rv : v = _ := rv; subst rv; exact .base (.bl _)
        · cases q2; have rv : v = _ := rv; subst rv; exact .base (.int _)
        · cases q2; have rv : v = _ := rv; subst rv; exact .base (.str _)
        · split at q2
          · rename_i ys hy
            cases q2
            cases p <;> simp [deref] at hy
            · obtain ⟨a, e1, rfl⟩ := rv
              obtain ⟨vs, e2, _⟩ := hr.obj _ _ _ e1 hy
              exact .base (.lst e2)
            · obtain ⟨a, e1⟩ := kon_get ok hy
              rcases ok.tup _ _ _ e1 with ⟨_, _, z, _⟩ | ⟨_, z⟩ <;> cases z
          · rename_i ys hy
            cases q2
            cases p <;> simp [deref] at hy
            · obtain ⟨a, e1, rfl⟩ := rv
              obtain ⟨vs, e2, _⟩ := hr.obj _ _ _ e1 hy
              rcases e2 with ⟨o, e2⟩ | ⟨o, its, n, e2, e3, _⟩
              · exact .base (.frz e2)
              · exact .kList e2 e3
            · obtain ⟨a, e1⟩ := kon_get ok hy
              rcases ok.tup _ _ _ e1 with ⟨_, _, z, _⟩ | ⟨_, z⟩ <;> cases z
          · rename_i ys hy
            cases q2
            cases p <;> simp [deref] at hy
            · obtain ⟨a, e1, rfl⟩ := rv
              obtain ⟨vs, e2, _⟩ := hr.obj _ _ _ e1 hy
              exact .base (.tup e2)
            · obtain ⟨a, o, e1, rfl⟩ := rv
              obtain ⟨a', e1'⟩ := kon_get ok hy
              rw [e1] at e1'; cases e1'
              rcases ok.tup _ _ _ e1 with ⟨_, _, z, ⟨o, its, n, e2, e3, _⟩, _⟩ | ⟨_, z⟩
              · exact .kTuple e2 e3
              · cases z
          · rename_i ys hy
            split at q2
            · cases q2
              obtain ⟨a, e1, rfl⟩ := rv
              simp only [deref] at hy
              obtain ⟨vs, e2, _⟩ := hr.obj _ _ _ e1 hy
              exact .base (.dK e2)
            · cases q2
          · cases q2
  · cases e
/-! ### the greatest of four -/
end
section
open Sem (wp)
variable {prog : Program} {w : World} {A : Around} {E : Value → Shared → Prop} {s : Shared}
theorem argsMax4 (a b c d : Value) : argsOk "max" ⟨[a, b, c, d], []⟩ := by
  unfold argsOk
  kernel_rfl
theorem no4 {a b c : Nat} (h1 : a = b + 1) (h2 : b = c + 1) (h : a = b ∨ a = c) : False := by omega
theorem no5 {a b c : Nat} (h1 : a = b + 1) (h2 : c < b) (h : c = a) : False := by omega
theorem no6 {a b c d : Nat} (h1 : a = b + 1) (h2 : b = c + 1) (h3 : d < c) (h : d = a) : False := by omega
abbrev tup4 (a b c d : Value) : Obj := { cls := .type "tuple", data := .seq #[a, b, c, d] }
theorem max_four {a b c d : Int} {ta tb tc td : Tok} {Q : Value → Shared → Prop} (hh : A.handled = none)
    (hQ : ∀ h' tk t', (∀ x o, s.heap.get? x = some o → h'.get? x = some o) → Q (.int (max (max (max a b) c) d) t') { s with heap := h', toks := tk }) :
    wpAny (model prog w) A (call (.builtin "max") [.int a ta, .int b tb, .int c tc, .int d td]) Q E s := by
  have nm : (toString "max" ++ toString ".loop" : String) = "max.loop" := by decide
  let its : Array (Int × Tok) := #[(a, ta), (b, tb), (c, tc), (d, td)]
  have hT : (s.heap.push (tup4 (.int a ta) (.int b tb) (.int c tc) (.int d td))).IsTuple s.heap.objs.size (intItems its) :=
    ⟨_, Heap.get?_push_size _ rfl, rfl, 0, by simp [its, intItems]⟩
  have sz : (s.heap.push (tup4 (.int a ta) (.int b tb) (.int c tc) (.int d td))).objs.size = s.heap.objs.size + 1 := Heap.size_push ..
  refine call_function_tree F.kind_max F.plain_max F.entry_max (argsMax4 _ _ _ _) ?_
  show wpAny _ A.in1 (Builtin.Builtins.bindParams "max" _ 0 ⟨[], []⟩ >>= _) _ _ s
  refine wpAny_bind (wpAny_of_eq (show Builtin.Builtins.bindParams "max" _ 0 _ = pure [none, none] from rfl) ?_)
  show wpAny _ A.in1 (newTuple [.int a ta, .int b tb, .int c tc, .int d td] >>= _) _ _ s
  refine wpAny_bind (wpAny_newObj_type ?_)
  refine wpAny_bind (wpAny_pyIter_tuple (items := intItems its) hT ?_)
  refine wpAny_bind (wpAny_newObj_type ?_)
  rw [nm]
  have W := Walks.tuple (prog := prog) (w := w) (A := A.in1) hh (s.heap.push (tup4 (.int a ta) (.int b tb) (.int c tc) (.int d td))).objs.size s.heap.objs.size (by rw [sz]; exact Nat.ne_of_lt (Nat.lt_succ_self _)) (intItems its)
  refine wpAny_pure ⟨plainId_quiet F.plain_max_loop _, ?_⟩
  refine codeAny_max_loop_first W _ (CmpOf.ints_gt (numAt its) (fun _ _ => intItems_at)) _ ?_ (by simp [its, intItems]) ?_ (Heap.get?_push_size _ rfl) fun v h' tk hP hk => ?_
  · intro hm
    have e1 := Heap.size_push (s.heap.push (tup4 (.int a ta) (.int b tb) (.int c tc) (.int d td))) { cls := .type "tuple_iterator", data := .fields #[.ref s.heap.objs.size, .int 0 0] }
    simp only [List.mem_cons, List.not_mem_nil, or_false] at hm
    exact no4 e1 sz hm
  · refine ⟨⟨_, Heap.get?_push_of_some _ (Heap.get?_push_size _ rfl), rfl, rfl⟩, ?_⟩
    exact (hT.push _).push _
  · have keep : ∀ x o, s.heap.get? x = some o → h'.get? x = some o := fun x o e => by
      have lx := Heap.lt_size e
      refine hk x o (fun hm => ?_) (fun hm => ?_) (Heap.get?_push_of_some _ (Heap.get?_push_of_some _ (Heap.get?_push_of_some _ e)))
      · simp only [List.mem_cons, List.not_mem_nil, or_false] at hm
        exact no5 sz lx hm
      · have e1 := Heap.size_push (s.heap.push (tup4 (.int a ta) (.int b tb) (.int c tc) (.int d td))) { cls := .type "tuple_iterator", data := .fields #[.ref s.heap.objs.size, .int 0 0] }
        exact no6 e1 sz lx hm
    have best := hP
    have key : ∃ t', v = .int (max (max (max a b) c) d) t' := by
      have sz2 : (intItems its).size - 1 = 3 := by simp [its, intItems]
      rw [sz2] at best
      by_cases h1 : b > a <;> by_cases h2 : c > a <;> by_cases h3 : c > b <;> by_cases h4 : d > a <;> by_cases h5 : d > b <;> by_cases h6 : d > c <;>
        simp [argBest, numAt, its, h1, h2, h3, h4, h5, h6, intItems] at best <;> (subst best; refine ⟨_, congrArg (fun i => Value.int i _) ?_⟩; omega)
    obtain ⟨t', rfl⟩ := key
    exact hQ h' tk t' keep
end
section
variable {X : Cx} {T : Tab} {G : Pg}
theorem max_ok (hc : X.calm = true) : CallR X (.builtin "max") (rPrm T maxV) := by
  intro pins s σ H xs us Q I rx hh
  obtain ⟨m, h, ps, r, hr, rs, e, k⟩ := hh
  unfold maxV at e
  split at e
  · cases e
    rename_i a b
    obtain ⟨v, u, rfl, rv, ru⟩ := rvs2 rs
    have rv : v = _ := rv
    have ru : u = _ := ru
    subst rv; subst ru
    refine call_max2 hc pins s σ H _ us Q I rx ⟨_, _, rfl, k.now hr ?_⟩
    show V.int (if b > a then b else a) = V.int (max a b)
    congr 1
    rw [Int.max_def]
    split <;> split <;> omega
  · cases e
    rename_i a b c
    have ex := ints_rv (ns := [a, b, c]) rfl rs
    subst ex
    cases rx with | cons r1 t => cases t with | cons r2 t => cases t with | cons r3 t => cases t with | nil =>
    obtain ⟨t1, rfl⟩ := r1
    obtain ⟨t2, rfl⟩ := r2
    obtain ⟨t3, rfl⟩ := r3
    refine max_three_ints (I.ok.hd hc) fun h' tk kp => ⟨.int (max (max a b) c), H, I.kept kp, ?_, k.now hr rfl⟩
    rw [Int.max_def, Int.max_def]
    by_cases h1 : b > a <;> by_cases h2 : c > b <;> by_cases h3 : c > a <;> simp only [h1, h2, h3, if_true, if_false] <;> refine ⟨_, congrArg (fun i => Value.int i _) ?_⟩ <;> (repeat' split) <;> omega
  · cases e
    rename_i a b c d
    have ex := ints_rv (ns := [a, b, c, d]) rfl rs
    subst ex
    cases rx with | cons r1 t => cases t with | cons r2 t => cases t with | cons r3 t => cases t with | cons r4 t => cases t with | nil =>
    obtain ⟨t1, rfl⟩ := r1
    obtain ⟨t2, rfl⟩ := r2
    obtain ⟨t3, rfl⟩ := r3
    obtain ⟨t4, rfl⟩ := r4
    exact max_four (I.ok.hd hc) fun h' tk t' kp => ⟨.int _, H, I.kept kp, ⟨t', rfl⟩, k.now hr rfl⟩
  · cases e
theorem sum_ok (hc : X.calm = true) (hK : X.K = T.K) (ok : KOk T G) : CallR X (.builtin "sum") (rPrm T (sumV G)) := by
  refine callr_of fun xs H Q hh => ?_
  obtain ⟨m, h, ps, r, hr, rs, e, k⟩ := hh
  unfold sumV at e
  split at e
  · rename_i p
    obtain ⟨v, rfl, rv⟩ := rvs1 rs
    cases q : lstOf G h p with
    | none => rw [q] at e; cases e
    | some ys =>
      rw [q] at e
      cases q2 : intsOf ys with
      | none => rw [Option.bind_some, q2] at e; cases e
      | some ns =>
        rw [Option.bind_some, q2] at e; cases e
        obtain ⟨a, vs, rfl, hS, rs'⟩ := lstOf_ok ok hr rv q
        have ev := ints_rv q2 rs'
        subst ev
        exact ⟨_, cr_sum hc, a, ns, rfl, by rw [hK]; exact hS, k.now hr rfl⟩
  · cases e
theorem maxP_of : ∀ {ns : List Int} {i m : Int}, maxP ns = some i → m ∈ ns → (∀ y, y ∈ ns → y ≤ m) → m = i
  | [], _, _, e, _, _ => by cases e
  | a :: r, i, m, e, hm, hl => by
    unfold maxP at e
    split at e
    · rename_i q
      cases e
      cases r with
      | nil => simpa using hm
      | cons b r' => unfold maxP at q; split at q <;> cases q
    · rename_i b q
      cases e
      have hb : b ∈ r ∧ ∀ y, y ∈ r → y ≤ b := by
        clear hm hl
        have all : ∀ (r : List Int) (b : Int), maxP r = some b → b ∈ r ∧ ∀ y, y ∈ r → y ≤ b := by
          intro r
          induction r with
          | nil => intro b q; cases q
          | cons c r ih =>
            intro b q
            unfold maxP at q
            split at q
            · rename_i q2
              cases q
              cases r with
              | nil => exact ⟨List.mem_cons_self, fun y hy => by simp at hy; omega⟩
              | cons d r' => unfold maxP at q2; split at q2 <;> cases q2
            · rename_i d q2
              cases q
              obtain ⟨i1, i2⟩ := ih d q2
              constructor
              · by_cases hcd : c ≤ d
                · rw [Int.max_eq_right hcd]; exact List.mem_cons_of_mem _ i1
                · rw [Int.max_eq_left (by omega)]; exact List.mem_cons_self
              · intro y hy
                rcases List.mem_cons.mp hy with rfl | hy
                · exact Int.le_max_left _ _
                · exact Int.le_trans (i2 y hy) (Int.le_max_right _ _)
        exact all r b q
      have h1 := hl a List.mem_cons_self
      have h2 := hl b (List.mem_cons_of_mem _ hb.1)
      rcases List.mem_cons.mp hm with rfl | hm
      · rw [Int.max_eq_left h2]
      · have h3 := hb.2 m hm
        have h4 : m = b := by omega
        subst h4
        rw [Int.max_eq_right h1]
theorem maxl_ok (hc : X.calm = true) (hK : X.K = T.K) (ok : KOk T G) : CallR X (.builtin "max") (rPrm T (maxlV G)) := by
  refine callr_of fun xs H Q hh => ?_
  obtain ⟨m, h, ps, r, hr, rs, e, k⟩ := hh
  unfold maxlV at e
  split at e
  · rename_i p
    obtain ⟨v, rfl, rv⟩ := rvs1 rs
    cases q : lstOf G h p with
    | none => rw [q] at e; cases e
    | some ys =>
      rw [q] at e
      cases q2 : intsOf ys with
      | none => rw [Option.bind_some, q2] at e; cases e
      | some ns =>
        rw [Option.bind_some, q2] at e
        cases q3 : maxP ns with
        | none => rw [Option.bind_some, q3] at e; cases e
        | some i =>
          rw [Option.bind_some, q3] at e; cases e
          obtain ⟨a, vs, rfl, hS, rs'⟩ := lstOf_ok ok hr rv q
          have ev := ints_rv q2 rs'
          subst ev
          refine ⟨_, cr_max hc, a, ns, rfl, by rw [hK]; exact hS, ?_, fun j hj hl => ?_⟩
          · cases ns with
            | nil => cases q3
            | cons _ _ => exact Nat.succ_pos _
          · rw [maxP_of q3 hj hl]
            exact k.now hr rfl
  · cases e

/-! ### methods -/
/-- what a method of a built-in type needs -/
structure Mth (X : Cx) (name : Str) (Ty id : String) (r : V → List V → Hp → VK → Prop) : Prop where
  pa : PlainAttrs Ty
  slot : Slot Ty name id
  ty : typeOf (.builtin id) = pure (.type "method_descriptor")
  mt : MtR X id r
def tMth (X : Cx) (name : Str) (to : TE) (t : TA) : TE := fun σ H Q => to σ H fun x H1 => ∃ Ty id r, Mth X name Ty id r ∧ tyV X.K Ty x H1 ∧ t σ H1 fun xs H2 => r x xs H2 Q
theorem pe_mth {o e : Expr} {es : List Expr} {to : TE} {t : TA} {name : Str} {apos cpos : Pos} (ho : PE X o to) (ha : PA X (e :: es) t)
    (hbase : attributeBase o name X.env (eval o X.env) = eval o X.env)
    (hfew : ((backTo cpos (starEach (e :: es) X.env)).all (fun x => !x.1) && (backToKw cpos (keywordEach [] X.env)).all (fun x => x.1.isSome) && decide ((e :: es).length + ([] : List Keyword).length + (if ([] : List Keyword).isEmpty then 0 else 1) < 30)) = true)
    (hline : (apos.endLine == cpos.line) = true) (hs : starEach (e :: es) X.env = (false, eval e X.env) :: starEach es X.env) (hplain : (backTo cpos (starEach es X.env)).any (·.1) = false) :
    PE X (.Call (.Attribute o name apos) (e :: es) [] cpos) (tMth X name to t) := by
  refine ⟨fun pins s σ H Q I h => ?_⟩
  refine wpAny_Call_method_late hbase hfew hline rfl (thn (ho.run pins s σ H _ I h) fun v s1 ⟨x, H1, I1, r1, Ty, id, r, M, ty, q1⟩ => ?_)
  obtain ⟨h1, h2⟩ := tyV_is I1 r1 ty
  refine ⟨Ty, id, M.pa, M.slot, M.ty, h1, h2, ?_⟩
  have hA := ha.run cpos pins s1 σ H1 _ I1 q1
  rw [hs] at hA ⊢
  have z : (((false, eval e X.env) :: starEach es X.env).map fun (star, t) => (star, if star then do let v ← t; standAt cpos; pure v else t)).any (·.1) = false := by
    show (false || (backTo cpos (starEach es X.env)).any (·.1)) = false
    rw [hplain]; rfl
  refine Calls.callWith_builtin z (Calls.evalArgs_plain ?_)
  exact thn hA fun us s2 ⟨vs, H2, I2, r2, q2⟩ => M.mt pins s2 σ H2 x vs v us Q I2 r1 r2 q2
theorem pe_mth0 {o : Expr} {to : TE} {name : Str} {apos cpos : Pos} (ho : PE X o to) (hbase : attributeBase o name X.env (eval o X.env) = eval o X.env) (hline : (apos.endLine == cpos.line) = true) :
    PE X (.Call (.Attribute o name apos) [] [] cpos) (tMth X name to tNil) := by
  refine ⟨fun pins s σ H Q I h => ?_⟩
  refine wpAny_Call_method0_late hbase hline (thn (ho.run pins s σ H _ I h) fun v s1 ⟨x, H1, I1, r1, Ty, id, r, M, ty, q1⟩ => ?_)
  obtain ⟨h1, h2⟩ := tyV_is I1 r1 ty
  have z := M.mt pins s1 σ H1 x [] v [] Q I1 r1 .nil q1
  exact ⟨Ty, id, M.pa, M.slot, M.ty, h1, h2, Calls.callWith_builtin rfl (PySem.evalArgs_none z)⟩
def rMt (T : Tab) (f : List PV → PH → R2') : V → List V → Hp → VK → Prop := fun x xs H Q => ∃ m h p ps r, HR T m h H ∧ RV T m p x ∧ RVs T m ps xs ∧ f (p :: ps) h = some r ∧ KR T m r Q
theorem mtr_of {id : String} {r : V → List V → Hp → VK → Prop} (k : ∀ x xs H Q, r x xs H Q → ∃ r' : V → List V → Hp → VK → Prop, MtR X id r' ∧ r' x xs H Q) : MtR X id r := fun pins s σ H x xs v us Q I rx rs h => by
  obtain ⟨r', o, h'⟩ := k x xs H Q h
  exact o pins s σ H x xs v us Q I rx rs h'
theorem append_ok : MtR X "list.append" (rMt T appendV) := by
  refine mtr_of fun x xs H Q hh => ?_
  obtain ⟨m, h, p, ps, r, hr, rx, rs, e, k⟩ := hh
  unfold appendV at e
  split at e
  · rename_i n y hp
    obtain ⟨rfl, rfl⟩ := List.cons.inj hp
    split at e
    · split at e
      · cases e
        rename_i ys hy hz
        obtain ⟨u, rfl, ru⟩ := rvs1 rs
        obtain ⟨a, vs, m1, h1, r1⟩ := hr.lst hy
        obtain ⟨a', m2, rfl⟩ := rx
        rw [m1] at m2; cases m2
        refine ⟨_, mt_append, a, vs, u, rfl, rfl, h1, by rw [← r1.length]; exact hz, ?_⟩
        exact k _ _ _ pre_refl (hr.putL m1 hy h1 (r1.append (.cons ru .nil))) rfl
      · cases e
    · cases e
  · cases e
theorem pop_ok : MtR X "list.pop" (rMt T popV) := by
  refine mtr_of fun x xs H Q hh => ?_
  obtain ⟨m, h, p, ps, r, hr, rx, rs, e, k⟩ := hh
  unfold popV at e
  split at e
  · rename_i n hp
    obtain ⟨rfl, rfl⟩ := List.cons.inj hp
    split at e
    · rename_i ys hy
      cases q : ys[ys.length - 1]? with
      | none => rw [q] at e; cases e
      | some y =>
        rw [q] at e; cases e
        cases rs
        obtain ⟨a, vs, m1, h1, r1⟩ := hr.lst hy
        obtain ⟨a', m2, rfl⟩ := rx
        rw [m1] at m2; cases m2
        obtain ⟨u, e1, ru⟩ := r1.get q
        rw [r1.length] at e1
        refine ⟨_, mt_pop, a, vs, u, rfl, rfl, h1, e1, ?_⟩
        exact k _ _ _ pre_refl (hr.putL m1 hy h1 r1.dropLast) ru
    · cases e
  · cases e
theorem reverse_ok : MtR X "list.reverse" (rMt T reverseV) := by
  refine mtr_of fun x xs H Q hh => ?_
  obtain ⟨m, h, p, ps, r, hr, rx, rs, e, k⟩ := hh
  unfold reverseV at e
  split at e
  · rename_i n hp
    obtain ⟨rfl, rfl⟩ := List.cons.inj hp
    split at e
    · rename_i ys hy
      cases e
      cases rs
      obtain ⟨a, vs, m1, h1, r1⟩ := hr.lst hy
      obtain ⟨a', m2, rfl⟩ := rx
      rw [m1] at m2; cases m2
      refine ⟨_, mt_reverse, a, vs, rfl, rfl, h1, ?_⟩
      exact k _ _ _ pre_refl (hr.putL m1 hy h1 r1.reverse) rfl
    · cases e
  · cases e
end
end Fw
set_option Elab.async false
set_option linter.all false
set_option maxRecDepth 100000
set_option maxHeartbeats 1000000
/-! Fw5: expressions, one construct after the other. -/
namespace Fw
open PySem PySem.Spec PyProof.Rows L2

/-- an exception, by its class and its own dict -/
def RX (T : Tab) (m : List Addr) (x : PX) (cls : Value) (d : Option Addr) : Prop :=
  (∃ C, T.cls[x.c]? = some C ∧ cls = .ref C) ∧ (match x.d, d with
    | none, none => True
    | some n, some a => m[n]? = some a
    | _, _ => False)
theorem RX.ext {T : Tab} {m m' : List Addr} {x : PX} {cls : Value} {d : Option Addr} (h : m <+: m') (r : RX T m x cls d) : RX T m' x cls d := by
  refine ⟨r.1, ?_⟩
  have q := r.2
  cases hx : x.d <;> cases d <;> simp only [hx] at q ⊢
  exact get_ext h q
abbrev FE := (PX → PH → Prop) → PSt → PH → (PV → PH → Prop) → Prop
abbrev FT := (PX → PH → Prop) → PSt → PH → (Bool → PH → Prop) → Prop
abbrev FA := (PX → PH → Prop) → PSt → PH → (List PV → PH → Prop) → Prop
abbrev FS := (PX → PSt → PH → Prop) → PEnds → PSt → PH → Prop
section
variable (T : Tab) (X : Cx)
def TkE (m : List Addr) (σ : L2.St) (Ef : PX → PH → Prop) : Prop := Takes X fun cls d σ' H' => σ' = σ ∧ ∃ m' h' x, m <+: m' ∧ HR T m' h' H' ∧ RX T m' x cls d ∧ Ef x h'
def TkS (m : List Addr) (Ef : PX → PSt → PH → Prop) : Prop := Takes X fun cls d σ' H' => ∃ m' ps' h' x, m <+: m' ∧ SR T m' ps' σ' ∧ HR T m' h' H' ∧ RX T m' x cls d ∧ Ef x ps' h'
def KT (m : List Addr) (Qf : Bool → PH → Prop) (Q : Bool → Hp → Prop) : Prop := ∀ (m' : List Addr) (h' : PH) (b : Bool) (H' : Hp), m <+: m' → HR T m' h' H' → Qf b h' → Q b H'
def KA (m : List Addr) (Qf : List PV → PH → Prop) (Q : List V → Hp → Prop) : Prop := ∀ (m' : List Addr) (h' : PH) (ps : List PV) (vs : List V) (H' : Hp), m <+: m' → HR T m' h' H' → RVs T m' ps vs → Qf ps h' → Q vs H'
def tE (f : FE) : TE := fun σ H Q => ∃ m ps h Qf Ef, SR T m ps σ ∧ HR T m h H ∧ KQ T m Qf Q ∧ TkE T X m σ Ef ∧ f Ef ps h Qf
def tT (f : FT) : TT := fun σ H Q => ∃ m ps h Qf Ef, SR T m ps σ ∧ HR T m h H ∧ KT T m Qf Q ∧ TkE T X m σ Ef ∧ f Ef ps h Qf
def tA (f : FA) : TA := fun σ H Q => ∃ m ps h Qf Ef, SR T m ps σ ∧ HR T m h H ∧ KA T m Qf Q ∧ TkE T X m σ Ef ∧ f Ef ps h Qf
end
section
variable {T : Tab} {X : Cx} {m m' : List Addr} {σ : L2.St}
theorem TkE.ext {Ef : PX → PH → Prop} (h : m <+: m') (t : TkE T X m σ Ef) : TkE T X m' σ Ef := Takes.imp t fun _ _ _ _ ⟨a, m2, h2, x, b, c, d, e⟩ => ⟨a, m2, h2, x, pre_trans h b, c, d, e⟩
theorem TkS.ext {Ef : PX → PSt → PH → Prop} (h : m <+: m') (t : TkS T X m Ef) : TkS T X m' Ef := Takes.imp t fun _ _ _ _ ⟨m2, p2, h2, x, b, c, d, e, g⟩ => ⟨m2, p2, h2, x, pre_trans h b, c, d, e, g⟩
theorem TkS.at {Ef : PX → PSt → PH → Prop} {ps : PSt} (t : TkS T X m Ef) (r : SR T m ps σ) : TkE T X m σ (fun x h => Ef x ps h) := Takes.imp t fun _ _ _ _ ⟨a, m2, h2, x, b, c, d, e⟩ => by
  subst a
  exact ⟨m2, ps, h2, x, b, r.ext b, c, d, e⟩
theorem TkE.none : TkE T X m σ (fun _ _ => False) := Takes.imp takes0 fun _ _ _ _ ⟨_, _, _, _, _, _, _, e⟩ => e
theorem KQ.ext {Qf : PV → PH → Prop} {Q : VK} (h : m <+: m') (k : KQ T m Qf Q) : KQ T m' Qf Q := fun m2 h2 p v H2 a b c d => k m2 h2 p v H2 (pre_trans h a) b c d
theorem KT.ext {Qf : Bool → PH → Prop} {Q : Bool → Hp → Prop} (h : m <+: m') (k : KT T m Qf Q) : KT T m' Qf Q := fun m2 h2 p H2 a b c => k m2 h2 p H2 (pre_trans h a) b c
theorem KA.ext {Qf : List PV → PH → Prop} {Q : List V → Hp → Prop} (h : m <+: m') (k : KA T m Qf Q) : KA T m' Qf Q := fun m2 h2 p v H2 a b c d => k m2 h2 p v H2 (pre_trans h a) b c d
theorem KQ.at {Qf : PV → PH → Prop} {Q : VK} {r : PV × PH} (k : KQ T m Qf Q) (q : Qf r.1 r.2) : KR T m r Q := fun m2 v H2 a b c => k m2 r.2 r.1 v H2 a b c q
end
/-- another reading -/
theorem pe_imp {X : Cx} {e : Expr} {t u : TE} (h : PE X e t) (k : ∀ σ H Q, u σ H Q → t σ H Q) : PE X e u := ⟨fun pins s σ H Q I q => h.run pins s σ H Q I (k σ H Q q)⟩
theorem pt_imp {X : Cx} {e : Expr} {t u : TT} (h : PT X e t) (k : ∀ σ H Q, u σ H Q → t σ H Q) : PT X e u := ⟨fun pins s σ H Q I q => h.run pins s σ H Q I (k σ H Q q)⟩
theorem pw_imp {X : Cx} {e : Expr} {t u : TT} (h : PW X e t) (k : ∀ σ H Q, u σ H Q → t σ H Q) : PW X e u := ⟨fun wh pins s σ H Q I q => h.run wh pins s σ H Q I (k σ H Q q)⟩
theorem pa_imp {X : Cx} {es : List Expr} {t u : TA} (h : PA X es t) (k : ∀ σ H Q, u σ H Q → t σ H Q) : PA X es u := ⟨fun pos pins s σ H Q I q => h.run pos pins s σ H Q I (k σ H Q q)⟩
/-- whatever reading is chosen at the place -/
theorem pe_any {X : Cx} {e : Expr} {u : TE} (k : ∀ σ H Q, u σ H Q → ∃ t : TE, PE X e t ∧ t σ H Q) : PE X e u := ⟨fun pins s σ H Q I q => by
  obtain ⟨t, h, z⟩ := k σ H Q q
  exact h.run pins s σ H Q I z⟩

/-- what a def promises -/
def spOf (T : Tab) (f : List PV → PH → (PV → PH → Prop) → (PX → PH → Prop) → Prop) (n : Nat) : Sp := fun vs H Q E => vs.length = n ∧ ∃ m ps h Qf Ef, RVs T m ps vs ∧ HR T m h H ∧ KQ T m Qf Q ∧
  (∀ m' h' x cls d H', m <+: m' → HR T m' h' H' → RX T m' x cls d → Ef x h' → E cls d H') ∧ f ps h Qf Ef

abbrev wE (G : Pg) (cl cm : CSem) (ie : IE) : FE := fun E => wpE G cl cm E ie
abbrev wT (G : Pg) (cl cm : CSem) (it : IT) : FT := fun E => wpT G cl cm E it
abbrev wA (G : Pg) (cl cm : CSem) (es : List IE) : FA := fun E => wpEs G cl cm E es
section
variable {X : Cx} {T : Tab} {G : Pg} {cl cm : CSem} {a b c : Expr} {pos : Pos}
theorem sE_var {i : Nat} {x : Str} (hN : X.N[i]? = some x) (hv : Vis X.env.scope x) (hd : (x == ("__debug__" : Str)) = false) (hcd : (x == ("__classdict__" : Str)) = false) : PE X (.Name x pos) (tE T X (wE G cl cm (.var i))) := by
  refine pe_imp (pe_var hN hv hd hcd) fun σ H Q hh => ?_
  obtain ⟨m, ps, h, Qf, Ef, hs, hr, k, tk, v, e, q⟩ := hh
  obtain ⟨u, e1, rv⟩ := hs.get e
  exact ⟨u, e1, k m h v u H pre_refl hr rv q⟩
theorem sE_cst {e : Expr} {p : PV} {v : V} (he : PE X e (tC v)) (r : ∀ m, RV T m p v) : PE X e (tE T X (wE G cl cm (.cst p))) := by
  refine pe_imp he fun σ H Q hh => ?_
  obtain ⟨m, ps, h, Qf, Ef, hs, hr, k, tk, q⟩ := hh
  exact k m h p v H pre_refl hr (r m) q
/-- one after the other -/
theorem two {fa fb : IE} {σ : L2.St} {H : Hp} {m : List Addr} {ps : PSt} {h : PH} {Ef : PX → PH → Prop} {R : PV → PV → PH → Prop} {S : V → V → Hp → Prop} (hs : SR T m ps σ) (hr : HR T m h H) (tk : TkE T X m σ Ef)
    (q : wpE G cl cm Ef fa ps h fun x h1 => wpE G cl cm Ef fb ps h1 fun y h2 => R x y h2)
    (k : ∀ m' h' p q x y H', m <+: m' → HR T m' h' H' → RV T m' p x → RV T m' q y → R p q h' → S x y H') :
    tE T X (wE G cl cm fa) σ H fun x H1 => tE T X (wE G cl cm fb) σ H1 fun y H2 => S x y H2 := by
  refine ⟨m, ps, h, _, Ef, hs, hr, fun m1 h1 p x H1 a1 r1 rx q1 => ?_, tk, q⟩
  exact ⟨m1, ps, h1, _, Ef, hs.ext a1, r1, fun m2 h2 p2 y H2 a2 r2 ry q2 => k m2 h2 p p2 x y H2 (pre_trans a1 a2) r2 (rx.ext a2) ry q2, tk.ext a1, q1⟩
theorem sE_bin (hK : X.K = T.K) (ok : KOk T G) {op : Operator} {fa fb : IE} (ha : PE X a (tE T X (wE G cl cm fa))) (hb : PE X b (tE T X (wE G cl cm fb))) : PE X (.BinOp a op b pos) (tE T X (wE G cl cm (.bin op fa fb))) := by
  refine pe_imp (pe_op (op_bin hK ok) ha hb) fun σ H Q hh => ?_
  obtain ⟨m, ps, h, Qf, Ef, hs, hr, k, tk, q⟩ := hh
  refine two hs hr tk q fun m' h' p q' x y H' ex r rx ry ⟨r', e, q2⟩ => ?_
  exact ⟨m', h', p, q', r', r, rx, ry, e, (k.ext ex).at q2⟩
theorem sE_cmp (hK : X.K = T.K) (ok : KOk T G) (hu : X.A.units + 64 < cLine) {op : CmpOp} {fa fb : IE} (ha : PE X a (tE T X (wE G cl cm fa))) (hb : PE X b (tE T X (wE G cl cm fb))) (hm : behindInMarks op b = false) : PE X (.Compare a [op] [b] pos) (tE T X (wE G cl cm (.cmp op fa fb))) := by
  refine pe_imp (pe_cmpR (op_cmp hK ok hu) ha hb hm) fun σ H Q hh => ?_
  obtain ⟨m, ps, h, Qf, Ef, hs, hr, k, tk, q⟩ := hh
  refine two hs hr tk q fun m' h' p q' x y H' ex r rx ry ⟨b', e, q2⟩ => ?_
  exact ⟨m', h', p, q', b', r, rx, ry, e, k m' h' (.bl b') _ H' ex r rfl q2⟩
theorem sT_cmp (hK : X.K = T.K) (ok : KOk T G) (hu : X.A.units + 64 < cLine) {op : CmpOp} {fa fb : IE} (ha : PE X a (tE T X (wE G cl cm fa))) (hb : PE X b (tE T X (wE G cl cm fb))) (hm : behindInMarks op b = false) :
    PT X (.Compare a [op] [b] pos) (tT T X (wT G cl cm (.tru (.cmp op fa fb)))) := by
  refine pt_imp (pt_cmpR (op_cmp hK ok hu) ha hb hm) fun σ H Q hh => ?_
  obtain ⟨m, ps, h, Qf, Ef, hs, hr, k, tk, q⟩ := hh
  have q' : wpE G cl cm Ef fa ps h fun x h1 => wpE G cl cm Ef fb ps h1 fun y h2 => ∃ r, cmpV G op x y h2 = some r ∧ ∃ c, truP G h2 (.bl r) = some c ∧ Qf c h2 := q
  refine two hs hr tk q' fun m' h' p q' x y H' ex r rx ry ⟨b', e, c, e2, q2⟩ => ?_
  have e2 : some b' = some c := e2
  cases e2
  exact ⟨m', h', p, q', b', r, rx, ry, e, b', rfl, k m' h' _ H' ex r q2⟩
theorem sE_chn (hK : X.K = T.K) (ok : KOk T G) (hu : X.A.units + 64 < cLine) {op op' : CmpOp} {fa fb fc : IE} (ha : PE X a (tE T X (wE G cl cm fa))) (hb : PE X b (tE T X (wE G cl cm fb))) (hc : PE X c (tE T X (wE G cl cm fc))) (hm : lastMarks [op, op'] [b, c] = false) :
    PE X (.Compare a [op, op'] [b, c] pos) (tE T X (wE G cl cm (.chn op op' fa fb fc))) := by
  refine pe_imp (pe_chain (op_cmp hK ok hu) (op_cmp hK ok hu) ha hb hc hm) fun σ H Q hh => ?_
  obtain ⟨m, ps, h, Qf, Ef, hs, hr, k, tk, q⟩ := hh
  refine two hs hr tk q fun m' h' p q' x y H' ex r rx ry ⟨b', e, q2⟩ => ?_
  refine ⟨m', h', p, q', b', r, rx, ry, e, b', rfl, ?_⟩
  cases b' with
  | false => exact k m' h' (.bl false) _ H' ex r rfl q2
  | true =>
    refine ⟨m', ps, h', _, Ef, hs.ext ex, r, fun m2 h2 p2 z H2 a2 r2 rz q3 => ?_, tk.ext ex, q2⟩
    obtain ⟨b2, e2, q3⟩ := q3
    exact ⟨m2, h2, q', p2, b2, r2, ry.ext a2, rz, e2, k m2 h2 (.bl b2) _ H2 (pre_trans ex a2) r2 rfl q3⟩
theorem sE_neg {fa : IE} (ha : PE X a (tE T X (wE G cl cm fa))) : PE X (.UnaryOp .USub a pos) (tE T X (wE G cl cm (.neg fa))) := by
  refine pe_imp (pe_un un_neg ha) fun σ H Q hh => ?_
  obtain ⟨m, ps, h, Qf, Ef, hs, hr, k, tk, q⟩ := hh
  refine ⟨m, ps, h, _, Ef, hs, hr, fun m1 h1 p x H1 a1 r1 rx q1 => ?_, tk, q⟩
  obtain ⟨i, rfl, q1⟩ := q1
  exact ⟨i, rx, k m1 h1 (.int (-i)) _ H1 a1 r1 rfl q1⟩
theorem tru_rv (ok : KOk T G) {m : List Addr} {h : PH} {H : Hp} (hr : HR T m h H) {p : PV} {v : V} {c : Bool} (rv : RV T m p v) (e : truP G h p = some c) : TruV T.K v H c := by
  unfold truP at e
  split at e
  · cases e; have rv : v = _ := rv; subst rv; rfl
  · cases e; have rv : v = _ := rv; subst rv; rfl
  · cases e; have rv : v = _ := rv; subst rv
    rename_i i
    show decide (i ≠ 0) = (i != 0)
    by_cases h0 : i = 0 <;> simp [h0]
  · split at e
    · cases e; have rv : v = _ := rv; subst rv
      rename_i l hz
      refine ⟨by rw [sOf_len]; exact hz, ?_⟩
      rw [sOf_len]
      cases l with
      | nil => rfl
      | cons x r =>
        show true = (((r.length + 1 : Nat) : Int) != 0)
        have : ((r.length + 1 : Nat) : Int) ≠ 0 := by omega
        exact (bne_iff_ne.mpr this).symm
    · cases e
  · rename_i n
    obtain ⟨a, m1, rfl⟩ := rv
    have em : ∀ {xs : List PV} {vs : List V}, RVs T m xs vs → (!xs.isEmpty) = !vs.isEmpty := fun r => by cases r <;> rfl
    split at e
    · rename_i xs hx
      cases e
      obtain ⟨vs, e2, r2⟩ := hr.obj _ _ _ m1 hx
      exact .inl ⟨vs, .of e2, em r2⟩
    · rename_i xs hx
      cases e
      obtain ⟨vs, e2, r2⟩ := hr.obj _ _ _ m1 hx
      refine .inl ⟨vs, ?_, em r2⟩
      rcases e2 with ⟨o, e2⟩ | e2
      · exact .inl (.inr ⟨o, e2⟩)
      · exact .inr e2
    · rename_i xs hx
      cases e
      obtain ⟨vs, e2, r2⟩ := hr.obj _ _ _ m1 hx
      exact .inr (.inl ⟨vs, .of e2, em r2⟩)
    · rename_i xs hx
      cases e
      obtain ⟨vs, e2, r2⟩ := hr.obj _ _ _ m1 hx
      refine .inr (.inr ⟨vs, e2, ?_⟩)
      cases r2 <;> rfl
    · cases e
  · rename_i n
    obtain ⟨a, o, m1, rfl⟩ := rv
    split at e
    · rename_i xs hx
      cases e
      obtain ⟨a', e2⟩ := kon_get ok hx
      rw [m1] at e2; cases e2
      rcases ok.tup _ _ _ m1 with ⟨xs', vs, z, kk, rr⟩ | ⟨_, z⟩
      · cases z
        refine .inr (.inl ⟨vs, .inr kk, ?_⟩)
        cases rr <;> rfl
      · cases z
    · cases e
  · cases e
theorem sE_not (hK : X.K = T.K) (ok : KOk T G) {fa : IE} (ha : PE X a (tE T X (wE G cl cm fa))) : PE X (.UnaryOp .Not a pos) (tE T X (wE G cl cm (.not fa))) := by
  refine pe_imp (pe_notT ha) fun σ H Q hh => ?_
  obtain ⟨m, ps, h, Qf, Ef, hs, hr, k, tk, q⟩ := hh
  refine ⟨m, ps, h, _, Ef, hs, hr, fun m1 h1 p x H1 a1 r1 rx q1 => ?_, tk, q⟩
  obtain ⟨c, e, q1⟩ := q1
  exact ⟨c, by rw [hK]; exact tru_rv ok r1 rx e, k m1 h1 (.bl (!c)) _ H1 a1 r1 rfl q1⟩
theorem sE_and (hK : X.K = T.K) (ok : KOk T G) {rest : List Expr} {fa fb : IE} (ha : PE X a (tE T X (wE G cl cm fa))) (hb : PE X (.BoolOp .And (b :: rest) pos) (tE T X (wE G cl cm fb))) : PE X (.BoolOp .And (a :: b :: rest) pos) (tE T X (wE G cl cm (.and fa fb))) := by
  refine pe_imp (pe_andT ha hb) fun σ H Q hh => ?_
  obtain ⟨m, ps, h, Qf, Ef, hs, hr, k, tk, q⟩ := hh
  refine ⟨m, ps, h, _, Ef, hs, hr, fun m1 h1 p x H1 a1 r1 rx q1 => ?_, tk, q⟩
  obtain ⟨c, e, q1⟩ := q1
  refine ⟨c, by rw [hK]; exact tru_rv ok r1 rx e, ?_⟩
  cases c with
  | true => exact ⟨m1, ps, h1, Qf, Ef, hs.ext a1, r1, k.ext a1, tk.ext a1, q1⟩
  | false => exact k m1 h1 _ _ H1 a1 r1 rx q1
theorem sE_or (hK : X.K = T.K) (ok : KOk T G) {rest : List Expr} {fa fb : IE} (ha : PE X a (tE T X (wE G cl cm fa))) (hb : PE X (.BoolOp .Or (b :: rest) pos) (tE T X (wE G cl cm fb))) : PE X (.BoolOp .Or (a :: b :: rest) pos) (tE T X (wE G cl cm (.or fa fb))) := by
  refine pe_imp (pe_orT ha hb) fun σ H Q hh => ?_
  obtain ⟨m, ps, h, Qf, Ef, hs, hr, k, tk, q⟩ := hh
  refine ⟨m, ps, h, _, Ef, hs, hr, fun m1 h1 p x H1 a1 r1 rx q1 => ?_, tk, q⟩
  obtain ⟨c, e, q1⟩ := q1
  refine ⟨c, by rw [hK]; exact tru_rv ok r1 rx e, ?_⟩
  cases c with
  | true => exact k m1 h1 _ _ H1 a1 r1 rx q1
  | false => exact ⟨m1, ps, h1, Qf, Ef, hs.ext a1, r1, k.ext a1, tk.ext a1, q1⟩
/-! tests -/
theorem sT_tru (hK : X.K = T.K) (ok : KOk T G) {fa : IE} (ha : PE X a (tE T X (wE G cl cm fa))) (he : ∀ whole, isTrue a X.env whole = (do let v ← whole; standAt a.pos; holding [v] (truthy v))) : PT X a (tT T X (wT G cl cm (.tru fa))) := by
  refine pt_imp (pt_truth ha he) fun σ H Q hh => ?_
  obtain ⟨m, ps, h, Qf, Ef, hs, hr, k, tk, q⟩ := hh
  refine ⟨m, ps, h, _, Ef, hs, hr, fun m1 h1 p x H1 a1 r1 rx q1 => ?_, tk, q⟩
  obtain ⟨c, e, q1⟩ := q1
  exact ⟨c, by rw [hK]; exact tru_rv ok r1 rx e, k m1 h1 _ H1 a1 r1 q1⟩
theorem sT_chn (hK : X.K = T.K) (ok : KOk T G) (hu : X.A.units + 64 < cLine) {op op' : CmpOp} {fa fb fc : IE} (ha : PE X a (tE T X (wE G cl cm fa))) (hb : PE X b (tE T X (wE G cl cm fb))) (hc : PE X c (tE T X (wE G cl cm fc))) (hm : lastMarks [op, op'] [b, c] = false) :
    PT X (.Compare a [op, op'] [b, c] pos) (tT T X (wT G cl cm (.tru (.chn op op' fa fb fc)))) := by
  refine pt_imp (pt_chain (op_cmp hK ok hu) (op_cmp hK ok hu) ha hb hc hm) fun σ H Q hh => ?_
  obtain ⟨m, ps, h, Qf, Ef, hs, hr, k, tk, q⟩ := hh
  refine two hs hr tk q fun m' h' p q' x y H' ex r rx ry ⟨b', e, q2⟩ => ?_
  refine ⟨m', h', p, q', b', r, rx, ry, e, b', rfl, ?_⟩
  cases b' with
  | false =>
    obtain ⟨c, e2, q2⟩ := q2
    cases e2
    exact ⟨false, rfl, k m' h' _ H' ex r q2⟩
  | true =>
    refine ⟨m', ps, h', _, Ef, hs.ext ex, r, fun m2 h2 p2 z H2 a2 r2 rz q3 => ?_, tk.ext ex, q2⟩
    obtain ⟨b2, e2, c, e3, q3⟩ := q3
    cases e3
    exact ⟨m2, h2, q', p2, b2, r2, ry.ext a2, rz, e2, b2, rfl, k m2 h2 _ H2 (pre_trans ex a2) r2 q3⟩
theorem sT_not {fa : IT} (ha : PT X a (tT T X (wT G cl cm fa))) : PT X (.UnaryOp .Not a pos) (tT T X (wT G cl cm (.not fa))) := by
  refine pt_imp (pt_not ha) fun σ H Q hh => ?_
  obtain ⟨m, ps, h, Qf, Ef, hs, hr, k, tk, q⟩ := hh
  exact ⟨m, ps, h, _, Ef, hs, hr, fun m1 h1 c H1 a1 r1 q1 => k m1 h1 _ H1 a1 r1 q1, tk, q⟩
theorem sT_and {rest : List Expr} {fa fb : IT} (ha : PT X a (tT T X (wT G cl cm fa))) (hb : PW X (.BoolOp .And (b :: rest) pos) (tT T X (wT G cl cm fb))) : PW X (.BoolOp .And (a :: b :: rest) pos) (tT T X (wT G cl cm (.and fa fb))) := by
  refine pw_imp (pw_and ha hb) fun σ H Q hh => ?_
  obtain ⟨m, ps, h, Qf, Ef, hs, hr, k, tk, q⟩ := hh
  refine ⟨m, ps, h, _, Ef, hs, hr, fun m1 h1 c H1 a1 r1 q1 => ?_, tk, q⟩
  cases c with
  | true => exact ⟨m1, ps, h1, Qf, Ef, hs.ext a1, r1, k.ext a1, tk.ext a1, q1⟩
  | false => exact k m1 h1 _ H1 a1 r1 q1
theorem sT_or {rest : List Expr} {fa fb : IT} (ha : PT X a (tT T X (wT G cl cm fa))) (hb : PW X (.BoolOp .Or (b :: rest) pos) (tT T X (wT G cl cm fb))) : PW X (.BoolOp .Or (a :: b :: rest) pos) (tT T X (wT G cl cm (.or fa fb))) := by
  refine pw_imp (pw_or ha hb) fun σ H Q hh => ?_
  obtain ⟨m, ps, h, Qf, Ef, hs, hr, k, tk, q⟩ := hh
  refine ⟨m, ps, h, _, Ef, hs, hr, fun m1 h1 c H1 a1 r1 q1 => ?_, tk, q⟩
  cases c with
  | true => exact k m1 h1 _ H1 a1 r1 q1
  | false => exact ⟨m1, ps, h1, Qf, Ef, hs.ext a1, r1, k.ext a1, tk.ext a1, q1⟩
/-! arguments -/
theorem sA_nil : PA X [] (tA T X (wA G cl cm [])) := by
  refine pa_imp pa_nil fun σ H Q hh => ?_
  obtain ⟨m, ps, h, Qf, Ef, hs, hr, k, tk, q⟩ := hh
  exact k m h [] [] H pre_refl hr .nil q
theorem sA_cons {es : List Expr} {fa : IE} {fs : List IE} (ha : PE X a (tE T X (wE G cl cm fa))) (hr : PA X es (tA T X (wA G cl cm fs))) (hst : starEach (a :: es) X.env = (false, eval a X.env) :: starEach es X.env) : PA X (a :: es) (tA T X (wA G cl cm (fa :: fs))) := by
  refine pa_imp (pa_cons ha hr hst) fun σ H Q hh => ?_
  obtain ⟨m, ps, h, Qf, Ef, hs, hr, k, tk, q⟩ := hh
  refine ⟨m, ps, h, _, Ef, hs, hr, fun m1 h1 p x H1 a1 r1 rx q1 => ?_, tk, q⟩
  refine ⟨m1, ps, h1, _, Ef, hs.ext a1, r1, fun m2 h2 ps2 vs H2 a2 r2 rs q2 => ?_, tk.ext a1, q1⟩
  exact k m2 h2 _ _ H2 (pre_trans a1 a2) r2 (.cons (rx.ext a2) rs) q2
theorem sE_lst {es : List Expr} {fs : List IE} (h : PA X es (tA T X (wA G cl cm fs))) : PE X (.List es pos) (tE T X (wE G cl cm (.lst fs))) := by
  refine pe_imp (pe_lst h) fun σ H Q hh => ?_
  obtain ⟨m, ps, h, Qf, Ef, hs, hr, k, tk, q⟩ := hh
  refine ⟨m, ps, h, _, Ef, hs, hr, fun m1 h1 ps1 vs H1 a1 r1 rs q1 => ?_, tk, q⟩
  exact ⟨by rw [← rs.length]; exact q1.1, fun p hp => ((k.ext a1).at (r := (_, _)) q1.2).newL r1 rs hp⟩
theorem sE_tup {es : List Expr} {fs : List IE} {x1 : Nat} (h : PA X es (tA T X (wA G cl cm fs))) : PE X (.Tuple es x1 pos) (tE T X (wE G cl cm (.tup fs))) := by
  refine pe_imp (pe_tup h) fun σ H Q hh => ?_
  obtain ⟨m, ps, h, Qf, Ef, hs, hr, k, tk, q⟩ := hh
  refine ⟨m, ps, h, _, Ef, hs, hr, fun m1 h1 ps1 vs H1 a1 r1 rs q1 => ?_, tk, q⟩
  exact ⟨by rw [← rs.length]; exact q1.1, fun p hp => ((k.ext a1).at (r := (_, _)) q1.2).newT r1 rs hp⟩
/-! places -/
theorem ixr_of {r : R2} (k : ∀ x y H Q, r x y H Q → ∃ r' : R2, IxR X r' ∧ r' x y H Q) : IxR X r := fun value slice pins s σ H x y v u Q I rx ry h hs => by
  obtain ⟨r', o, h'⟩ := k x y H Q h
  exact o value slice pins s σ H x y v u Q I rx ry h' hs
def rIdx (T : Tab) (f : PV → PV → PH → Option PV) : R2 := fun x y H Q => ∃ m h p q r, HR T m h H ∧ RV T m p x ∧ RV T m q y ∧ f p q h = some r ∧ KR T m (r, h) Q
theorem atI_map {α : Type} {xs : List α} {i : Int} {r : α} (e : atI xs i = some r) : ∃ j, ixN xs.length i = some j ∧ xs[j]? = some r := by
  unfold atI at e
  cases q : ixN xs.length i with
  | none => rw [q] at e; cases e
  | some j => rw [q] at e; exact ⟨j, rfl, e⟩
theorem atI_rv {m : List Addr} {ps : List PV} {vs : List V} {i : Int} {p : PV} (rs : RVs T m ps vs) (e : atI ps i = some p) : ∃ v, atI vs i = some v ∧ RV T m p v := by
  obtain ⟨j, e1, e2⟩ := atI_map e
  obtain ⟨v, e3, rv⟩ := rs.get e2
  refine ⟨v, ?_, rv⟩
  unfold atI
  rw [← rs.length, e1]
  exact e3
theorem idx_ok (hK : X.K = T.K) (ok : KOk T G) : IxR X (rIdx T (fun x i h => idxP G h x i)) := by
  refine ixr_of fun x y H Q hh => ?_
  obtain ⟨m, h, p, q, r, hr, rx, ry, e0, k⟩ := hh
  have e : idxP G h p q = some r := e0
  clear e0
  unfold idxP at e
  split at e
  · rename_i i
    have ry : y = .int i := ry
    subst ry
    split at e
    · split at e
      · rename_i l hz
        have rx : x = .str (sOf l) := rx
        subst rx
        cases q1 : atI l i with
        | none => rw [q1] at e; cases e
        | some c =>
          rw [q1] at e; cases e
          exact ⟨_, ix_str, sOf l, i, c, rfl, rfl, by rw [sOf_len]; exact hz, by rw [sOf_list]; exact q1, k.now hr rfl⟩
      · cases e
    · split at e
      · rename_i ys q1
        obtain ⟨a, vs, rfl, hS, rs⟩ := seqOf_ok ok hr rx q1
        obtain ⟨v, e2, rv⟩ := atI_rv rs e
        rcases hS with hS | hS
        · exact ⟨_, ix_list, a, vs, i, v, rfl, rfl, by rw [hK]; exact hS, e2, k.now hr rv⟩
        · exact ⟨_, ix_tup, a, vs, i, v, rfl, rfl, by rw [hK]; exact hS, e2, k.now hr rv⟩
      · cases e
  · cases e
theorem sE_idx (hK : X.K = T.K) (ok : KOk T G) {fa fb : IE} (ha : PE X a (tE T X (wE G cl cm fa))) (hb : PE X b (tE T X (wE G cl cm fb))) (hp : PlainIx b) : PE X (.Subscript a b pos) (tE T X (wE G cl cm (.idx fa fb))) := by
  refine pe_imp (pe_ix (idx_ok hK ok) ha hb hp) fun σ H Q hh => ?_
  obtain ⟨m, ps, h, Qf, Ef, hs, hr, k, tk, q⟩ := hh
  refine two hs hr tk q fun m' h' p q' x y H' ex r rx ry ⟨v, e, q2⟩ => ?_
  exact ⟨m', h', p, q', v, r, rx, ry, e, (k.ext ex).at (r := (v, h')) q2⟩
/-! slices -/
theorem slr_of {r : V → Option Int → Option Int → Hp → VK → Prop} (k : ∀ x a b H Q, r x a b H Q → ∃ r' : V → Option Int → Option Int → Hp → VK → Prop, SlR X r' ∧ r' x a b H Q) : SlR X r := fun pins s σ H x v vl vu lo hi sl Q I rx h1 h2 h3 h => by
  obtain ⟨r', o, h'⟩ := k x lo hi H Q h
  exact o pins s σ H x v vl vu lo hi sl Q I rx h1 h2 h3 h'
def rSlc (T : Tab) (G : Pg) : V → Option Int → Option Int → Hp → VK → Prop := fun x a b H Q => ∃ m h p r, HR T m h H ∧ RV T m p x ∧ slcV G p a b h = some r ∧ KR T m r Q
theorem cut_rv {m : List Addr} {ps : List PV} {vs : List V} {a b : Option Int} (rs : RVs T m ps vs) : RVs T m (cutP ps a b) (cutV vs a b) := by
  unfold cutP cutV
  rw [← rs.length]
  exact (rs.drop _).take _
theorem slc_ok (hK : X.K = T.K) (ok : KOk T G) : SlR X (rSlc T G) := by
  refine slr_of fun x a b H Q hh => ?_
  obtain ⟨m, h, p, r, hr, rx, e, k⟩ := hh
  unfold slcV at e
  split at e
  · split at e
    · cases e
      rename_i l hz
      have rx : x = .str (sOf l) := rx
      subst rx
      refine ⟨_, sl_str, sOf l, rfl, by rw [sOf_len]; exact hz, ?_⟩
      have : cutS (sOf l) a b = sOf (cutP l a b) := by
        unfold cutS cutP
        rw [sOf_list, sOf_len]; rfl
      rw [this]
      exact k.now hr rfl
    · cases e
  · split at e
    · rename_i ys q1
      cases e
      obtain ⟨a', vs, rfl, hS, rs⟩ := lstOf_ok ok hr rx q1
      exact ⟨_, sl_list, a', vs, rfl, by rw [hK]; exact hS, fun l hl => k.newL hr (cut_rv rs) hl⟩
    · split at e
      · rename_i ys q1
        split at e
        · cases e
        · rename_i hz
          cases e
          obtain ⟨a', vs, rfl, hS, rs⟩ := tupOf_ok ok hr rx q1
          refine ⟨_, sl_tup, a', vs, rfl, by rw [hK]; exact hS, ?_, fun l hl => k.newT hr (cut_rv rs) hl⟩
          rw [← rs.length]; exact hz
      · cases e
abbrev wO (G : Pg) (cl cm : CSem) (o : Option IE) : (PX → PH → Prop) → PSt → PH → (Option PV → PH → Prop) → Prop := fun E => wpO G cl cm E o
def tO (T : Tab) (X : Cx) (f : (PX → PH → Prop) → PSt → PH → (Option PV → PH → Prop) → Prop) : TO := fun σ H Q => ∃ m ps h Qf Ef, SR T m ps σ ∧ HR T m h H ∧
  (∀ m' h' o H', m <+: m' → HR T m' h' H' → Qf o h' → ∃ a, partP o = some a ∧ Q a H') ∧ TkE T X m σ Ef ∧ f Ef ps h Qf
theorem po_imp {e : Option Expr} {t u : TO} (h : L2.PO X e t) (k : ∀ σ H Q, u σ H Q → t σ H Q) : L2.PO X e u := ⟨fun pins s σ H Q I q => h.run pins s σ H Q I (k σ H Q q)⟩
theorem sO_none : L2.PO X none (tO T X (wO G cl cm none)) := by
  refine po_imp po_none fun σ H Q hh => ?_
  obtain ⟨m, ps, h, Qf, Ef, hs, hr, k, tk, q⟩ := hh
  obtain ⟨a, e, z⟩ := k m h _ H pre_refl hr q
  cases e
  exact z
theorem sO_some {fa : IE} (ha : PE X a (tE T X (wE G cl cm fa))) : L2.PO X (some a) (tO T X (wO G cl cm (some fa))) := by
  refine po_imp (po_some ha) fun σ H Q hh => ?_
  obtain ⟨m, ps, h, Qf, Ef, hs, hr, k, tk, q⟩ := hh
  refine ⟨m, ps, h, _, Ef, hs, hr, fun m1 h1 p x H1 a1 r1 rx q1 => ?_, tk, q⟩
  obtain ⟨i, e, z⟩ := k m1 h1 _ H1 a1 r1 q1
  cases p with
  | int j =>
    cases e
    exact ⟨j, rx, z⟩
  | _ => cases e
theorem sE_slc (hK : X.K = T.K) (ok : KOk T G) {fa : IE} {lo hi : Option Expr} {fl fh : Option IE} {p2 : Pos} (ha : PE X a (tE T X (wE G cl cm fa))) (hl : L2.PO X lo (tO T X (wO G cl cm fl))) (hh : L2.PO X hi (tO T X (wO G cl cm fh))) :
    PE X (.Subscript a (.Slice lo hi none p2) pos) (tE T X (wE G cl cm (.slc fa fl fh))) := by
  refine pe_imp (pe_slice (slc_ok (G := G) hK ok) ha hl hh) fun σ H Q hh => ?_
  obtain ⟨m, ps, h, Qf, Ef, hs, hr, k, tk, q⟩ := hh
  refine ⟨m, ps, h, _, Ef, hs, hr, fun m1 h1 p x H1 a1 r1 rx q1 => ?_, tk, q⟩
  refine ⟨m1, ps, h1, _, Ef, hs.ext a1, r1, fun m2 h2 o H2 a2 r2 q2 => ?_, tk.ext a1, q1⟩
  obtain ⟨lo', e1, q2⟩ := q2
  refine ⟨lo', e1, m2, ps, h2, _, Ef, hs.ext (pre_trans a1 a2), r2, fun m3 h3 o' H3 a3 r3 q3 => ?_, tk.ext (pre_trans a1 a2), q2⟩
  obtain ⟨hi', e2, r, e3, q3⟩ := q3
  exact ⟨hi', e2, m3, h3, p, r, r3, rx.ext (pre_trans a2 a3), e3, (k.ext (pre_trans a1 (pre_trans a2 a3))).at q3⟩
end
end Fw
set_option Elab.async false
set_option linter.all false
set_option maxRecDepth 100000
set_option maxHeartbeats 1000000
/-! Fw6: calls, instances, fields. -/
namespace Fw
open PySem PySem.Spec PyProof.Rows L2

section
variable {X : Cx} {T : Tab} {G : Pg} {cl cm : CSem} {a b c : Expr} {pos : Pos}
/-- built-in functions -/
theorem sE_prmB {id : String} {x : Str} {p : Pos} {pr : Prm} {e : Expr} {es : List Expr} {fs : List IE} (hc : CallR X (.builtin id) (rPrm T (prmV G pr))) (hg : Gl X x) (hm : X.mg x = none) (hv : bootBuiltins x = some (.builtin id)) (ha : PA X (e :: es) (tA T X (wA G cl cm fs)))
    (hn : x ≠ "__name__") (hdb : (x == ("__debug__" : Str)) = false) (he : starEach (e :: es) X.env = (false, eval e X.env) :: starEach es X.env) (hpl : (backTo pos (starEach es X.env)).any (·.1) = false) :
    PE X (.Call (.Name x p) (e :: es) [] pos) (tE T X (wE G cl cm (.prm pr fs))) := by
  refine pe_imp (pe_callB hc hg hm hv ha hn hdb he hpl) fun σ H Q hh => ?_
  obtain ⟨m, ps, h, Qf, Ef, hs, hr, k, tk, q⟩ := hh
  refine ⟨m, ps, h, _, Ef, hs, hr, fun m1 h1 p1 vs H1 a1 r1 rs ⟨r, e1, q1⟩ => ?_, tk, q⟩
  exact ⟨m1, h1, p1, r, r1, rs, e1, (k.ext a1).at q1⟩
/-- built-in types -/
theorem sE_prmT {id : String} {x : Str} {p : Pos} {pr : Prm} {e : Expr} {es : List Expr} {fs : List IE} (hc : CallR X (.type id) (rPrm T (prmV G pr))) (hg : Gl X x) (hm : X.mg x = none) (hv : bootBuiltins x = some (.type id)) (ha : PA X (e :: es) (tA T X (wA G cl cm fs)))
    (hn : x ≠ "__name__") (hdb : (x == ("__debug__" : Str)) = false) (he : starEach (e :: es) X.env = (false, eval e X.env) :: starEach es X.env) (hpl : (backTo pos (starEach es X.env)).any (·.1) = false) :
    PE X (.Call (.Name x p) (e :: es) [] pos) (tE T X (wE G cl cm (.prm pr fs))) := by
  refine pe_imp (pe_callTy hc hg hm hv ha hn hdb he hpl) fun σ H Q hh => ?_
  obtain ⟨m, ps, h, Qf, Ef, hs, hr, k, tk, q⟩ := hh
  refine ⟨m, ps, h, _, Ef, hs, hr, fun m1 h1 p1 vs H1 a1 r1 rs ⟨r, e1, q1⟩ => ?_, tk, q⟩
  exact ⟨m1, h1, p1, r, r1, rs, e1, (k.ext a1).at q1⟩
/-- methods of built-in types -/
structure MOk (X : Cx) (T : Tab) (G : Pg) (name : Str) (pr : Prm) : Prop where
  ok : ∀ (m : List Addr) (h : PH) (H : Hp) (p : PV) (v : V), HR T m h H → RV T m p v → mtyP G pr p h = true → ∃ Ty id, Mth X name Ty id (rMt T (prmV G pr)) ∧ tyV X.K Ty v H
theorem sE_mtd {name : Str} {apos : Pos} {pr : Prm} {e : Expr} {es : List Expr} {fa : IE} {fs : List IE} (M : MOk X T G name pr) (ha : PE X a (tE T X (wE G cl cm fa))) (hs : PA X (e :: es) (tA T X (wA G cl cm fs)))
    (hbase : attributeBase a name X.env (eval a X.env) = eval a X.env)
    (hfew : ((backTo pos (starEach (e :: es) X.env)).all (fun x => !x.1) && (backToKw pos (keywordEach [] X.env)).all (fun x => x.1.isSome) && decide ((e :: es).length + ([] : List Keyword).length + (if ([] : List Keyword).isEmpty then 0 else 1) < 30)) = true)
    (hline : (apos.endLine == pos.line) = true) (hst : starEach (e :: es) X.env = (false, eval e X.env) :: starEach es X.env) (hpl : (backTo pos (starEach es X.env)).any (·.1) = false) :
    PE X (.Call (.Attribute a name apos) (e :: es) [] pos) (tE T X (wE G cl cm (.mtd pr fa fs))) := by
  refine pe_imp (pe_mth ha hs hbase hfew hline hst hpl) fun σ H Q hh => ?_
  obtain ⟨m, ps, h, Qf, Ef, hs, hr, k, tk, q⟩ := hh
  refine ⟨m, ps, h, _, Ef, hs, hr, fun m1 h1 p x H1 a1 r1 rx ⟨t1, q1⟩ => ?_, tk, q⟩
  obtain ⟨Ty, id, M1, ty⟩ := M.ok m1 h1 H1 p x r1 rx t1
  refine ⟨Ty, id, _, M1, ty, m1, ps, h1, _, Ef, hs.ext a1, r1, fun m2 h2 ps2 vs H2 a2 r2 rs ⟨r, e1, q2⟩ => ?_, tk.ext a1, q1⟩
  exact ⟨m2, h2, p, ps2, r, r2, rx.ext a2, rs, e1, (k.ext (pre_trans a1 a2)).at q2⟩
theorem sE_mtd0 {name : Str} {apos : Pos} {pr : Prm} {fa : IE} (M : MOk X T G name pr) (ha : PE X a (tE T X (wE G cl cm fa))) (hbase : attributeBase a name X.env (eval a X.env) = eval a X.env) (hline : (apos.endLine == pos.line) = true) :
    PE X (.Call (.Attribute a name apos) [] [] pos) (tE T X (wE G cl cm (.mtd pr fa []))) := by
  refine pe_imp (pe_mth0 ha hbase hline) fun σ H Q hh => ?_
  obtain ⟨m, ps, h, Qf, Ef, hs, hr, k, tk, q⟩ := hh
  refine ⟨m, ps, h, _, Ef, hs, hr, fun m1 h1 p x H1 a1 r1 rx ⟨t1, r, e1, q1⟩ => ?_, tk, q⟩
  obtain ⟨Ty, id, M1, ty⟩ := M.ok m1 h1 H1 p x r1 rx t1
  exact ⟨Ty, id, _, M1, ty, m1, h1, p, [], r, r1, rx, .nil, e1, (k.ext a1).at q1⟩

/-! ### calls of the program's own -/
/-- the wish of a call, from the wish at the place -/
abbrev wish (T : Tab) (m : List Addr) (Ef : PX → PH → Prop) : XK := fun cls d H' => ∃ m' h' x, m <+: m' ∧ HR T m' h' H' ∧ RX T m' x cls d ∧ Ef x h'
theorem tk_pass {m : List Addr} {σ : L2.St} {Ef : PX → PH → Prop} (tk : TkE T X m σ Ef) : PassesAt (L2.CX X.prog X.w) X σ (wish T m Ef) := by
  have q := passAt tk σ
  intro pins H s e s' I c
  refine q pins H s e s' I ?_
  obtain ⟨a, B, H', cls, d, h1, h2, h3, h4, h5, h6, h7, h8⟩ := c
  exact ⟨a, B, H', cls, d, h1, h2, h3, h4, h5, h6, h7, rfl, h8⟩
/-- an own def by its number: where it stands, what it promises -/
structure FOk (X : Cx) (T : Tab) (k : Nat) (x : Str) (np : Nat) (f : List PV → PH → (PV → PH → Prop) → (PX → PH → Prop) → Prop) : Prop where
  ex : ∃ (fa : Addr) (fd : FuncData) (ps : List Str), X.mg x = some (.ref fa) ∧ PySem.W.keepIn X.K (.ref fa) = true ∧ ps.length = np ∧ Binds X.K fd ps [] ∧ FnOk X.prog X.w X.K X.mg X.base (L2.CX X.prog X.w) k fa fd ps (spOf T f np)
theorem sp_of {f : List PV → PH → (PV → PH → Prop) → (PX → PH → Prop) → Prop} {np : Nat} {m m1 : List Addr} {h : PH} {H : Hp} {p : List PV} {vs : List V} {Qf : PV → PH → Prop} {Q : VK} {Ef : PX → PH → Prop} (a1 : m <+: m1) (hr : HR T m1 h H) (rs : RVs T m1 p vs) (k : KQ T m Qf Q) (hn : p.length = np) (q : f p h Qf Ef) :
    spOf T f np vs H Q (wish T m Ef) :=
  ⟨by rw [← rs.length]; exact hn, m1, p, h, Qf, Ef, rs, hr, k.ext a1, fun m' h' x cls d H' a2 r2 rx e => ⟨m', h', x, pre_trans a1 a2, r2, rx, e⟩, q⟩
/-- what a call asks: as many arguments as parameters -/
def lenF (np : Nat) (f : List PV → PH → (PV → PH → Prop) → (PX → PH → Prop) → Prop) : Prop := ∀ vs h Q E, f vs h Q E → vs.length = np
theorem sE_call {k : Nat} {x : Str} {p : Pos} {i np : Nat} {e : Expr} {es : List Expr} {fs : List IE} (F : FOk X T k x np (cl i)) (hl : lenF np (cl i)) (room : Room k X.A) (hg : Gl X x) (ha : PA X (e :: es) (tA T X (wA G cl cm fs)))
    (hdb : (x == ("__debug__" : Str)) = false) (he : starEach (e :: es) X.env = (false, eval e X.env) :: starEach es X.env) (hpl : (backTo pos (starEach es X.env)).any (·.1) = false) :
    PE X (.Call (.Name x p) (e :: es) [] pos) (tE T X (wE G cl cm (.call i fs))) := by
  obtain ⟨fa, fd, ps, hm, hk, hps, hb, F⟩ := F.ex
  refine ⟨fun pins s σ H Q I hh => ?_⟩
  obtain ⟨m, pst, h, Qf, Ef, hs, hr, kq, tk, q⟩ := hh
  refine wpAny_Call_Name_kw (ld_glob I hg hm ?_ hdb)
  refine PySem.W.callWith_K (h₀ := X.base) I.ok.mod.kin hk (thn (ha.run pos pins s σ H (fun vs H1 => spOf T (cl i) np vs H1 Q (wish T m Ef)) I ?_) fun us s1 ⟨vs, H1, I1, r, q1⟩ => ⟨I1.kIn, ?_⟩) he hpl
  · exact ⟨m, pst, h, _, Ef, hs, hr, fun m1 h1 p1 vs H1 a1 r1 rs q1 => sp_of a1 r1 rs kq (hl _ _ _ _ q1) q1, tk, q⟩
  · exact run_fnS (E := fun _ => wish T m Ef) F room hb (tk_pass tk) I1 r q1
theorem sE_call0 {k : Nat} {x : Str} {p : Pos} {i np : Nat} (F : FOk X T k x np (cl i)) (hl : lenF np (cl i)) (room : Room k X.A) (hg : Gl X x) (hdb : (x == ("__debug__" : Str)) = false) :
    PE X (.Call (.Name x p) [] [] pos) (tE T X (wE G cl cm (.call i []))) := by
  obtain ⟨fa, fd, ps, hm, hk, hps, hb, F⟩ := F.ex
  refine ⟨fun pins s σ H Q I hh => ?_⟩
  obtain ⟨m, pst, h, Qf, Ef, hs, hr, kq, tk, q⟩ := hh
  refine wpAny_Call_Name_kw (ld_glob I hg hm ?_ hdb)
  refine PySem.W.callWith_K0 I.kIn hk ?_
  exact run_fnS (us := []) (vs := []) (E := fun _ => wish T m Ef) F room hb (tk_pass tk) I .nil (sp_of pre_refl hr .nil kq (hl _ _ _ _ q) q)
end
end Fw
set_option Elab.async false
set_option linter.all false
set_option maxRecDepth 100000
set_option maxHeartbeats 1000000
/-! Fw7: what is walked; for, comprehensions; targets. -/
namespace Fw
open PySem PySem.Spec PyProof.Rows L2

/-- an iterator and a walk of the small heap -/
structure WkOk (T : Tab) (m : List Addr) (J : It) (W : Walk) : Prop where
  go : ∀ (m' : List Addr) (h' : PH) (H' : Hp) (i : Nat) (x : Item), m <+: m' → HR T m' h' H' → W.chk h' → W.its[i]? = some x → J.go i H' ∧ ∀ v H'', J.yld i H' v H'' → ∃ m'', m' <+: m'' ∧ HR T m'' (x.h h') H'' ∧ RV T m'' (x.v h') v
  stop : ∀ (m' : List Addr) (h' : PH) (H' : Hp) (i : Nat), m <+: m' → HR T m' h' H' → W.chk h' → W.its.length ≤ i → J.stop i H'
theorem WkOk.ext {T : Tab} {m m1 : List Addr} {J : It} {W : Walk} (h : m <+: m1) (k : WkOk T m J W) : WkOk T m1 J W :=
  ⟨fun m' h' H' i x a => k.go m' h' H' i x (pre_trans h a), fun m' h' H' i a => k.stop m' h' H' i (pre_trans h a)⟩
abbrev FI := (PX → PH → Prop) → PSt → PH → (Walk → PH → Prop) → Prop
def tI (T : Tab) (X : Cx) (f : FI) : TI := fun σ H R => ∃ m ps h Rf Ef, SR T m ps σ ∧ HR T m h H ∧ (∀ m' h' W J H', m <+: m' → HR T m' h' H' → WkOk T m' J W → Rf W h' → R J H') ∧ TkE T X m σ Ef ∧ f Ef ps h Rf
abbrev wI (G : Pg) (cl cm : CSem) (i : II) : FI := fun E => wpI G cl cm E i
theorem pi_imp {X : Cx} {tg e : Expr} {t u : TI} (h : PI X tg e t) (k : ∀ σ H Q, u σ H Q → t σ H Q) : PI X tg e u := ⟨fun pins s σ H Q I q => h.run pins s σ H Q I (k σ H Q q)⟩
section
variable {X : Cx} {T : Tab} {G : Pg} {cl cm : CSem} {a b c tg : Expr} {pos : Pos}
theorem iter_list {pins : List (Addr × Obj)} {s : Shared} {σ : L2.St} {H : Hp} {R : It → Hp → Prop} {l : Addr} {xs : List V} (I : Inv X pins σ H s) (hq : SqL X.K H l xs) (q : R (Itl X.K l) H) :
    wpAny (model X.prog X.w) X.A (pyIter (.ref l)) (PIE X pins σ tg R) X.xe s := by
  obtain ⟨its, rv, p, hz⟩ := I.list hq
  exact wpAny_pyIter_list p.isList (pi_one (tk := s.toks) I _ (turn_list l _) ⟨_, Heap.get?_push_size _ rfl, rfl, rfl⟩ q)
theorem iter_tup {pins : List (Addr × Obj)} {s : Shared} {σ : L2.St} {H : Hp} {R : It → Hp → Prop} {l : Addr} {xs : List V} (I : Inv X pins σ H s) (hq : SqT X.K H l xs) (q : R (Itt X.K l) H) :
    wpAny (model X.prog X.w) X.A (pyIter (.ref l)) (PIE X pins σ tg R) X.xe s := by
  obtain ⟨its, rv, p, hz⟩ := I.tuple hq
  exact wpAny_pyIter_tuple (show s.heap.IsTuple l its.toArray from p) (pi_one (tk := s.toks) I _ (turn_tuple l _) ⟨_, Heap.get?_push_size _ rfl, rfl, rfl⟩ q)
theorem iter_str {pins : List (Addr × Obj)} {s : Shared} {σ : L2.St} {H : Hp} {R : It → Hp → Prop} {x : Str} {t : Tok} (I : Inv X pins σ H s) (q : R (Its x) H) :
    wpAny (model X.prog X.w) X.A (pyIter (.str x t)) (PIE X pins σ tg R) X.xe s := by
  cases ha : x.cps.all (· < 128)
  · exact wpAny_pyIter_wide ha (pi_one (tk := s.toks) I _ (turn_str _ x t "str_iterator" (.inr rfl)) ⟨_, Heap.get?_push_size _ rfl, rfl, rfl⟩ q)
  · exact wpAny_pyIter_ascii ha (pi_one (tk := s.toks) I _ (turn_str _ x t "str_ascii_iterator" (.inl rfl)) ⟨_, Heap.get?_push_size _ rfl, rfl, rfl⟩ q)
theorem its_at {α : Type} {f : α → Item} {l : List α} {i : Nat} {x : Item} (e : (l.map f)[i]? = some x) : ∃ y, l[i]? = some y ∧ x = f y := by
  rw [List.getElem?_map] at e
  cases q : l[i]? with
  | none => rw [q] at e; cases e
  | some y => rw [q] at e; cases e; exact ⟨y, rfl, rfl⟩
theorem sql_eq (hK : X.K = T.K) (ok : KOk T G) {m : List Addr} {h : PH} {H : Hp} (hr : HR T m h H) {p : PV} {l : Addr} {xs : List PV} (rx : RV T m p (.ref l)) (e : lstOf G h p = some xs) : ∃ vs, SqL X.K H l vs ∧ RVs T m xs vs := by
  obtain ⟨l', vs, e1, hS, rs⟩ := lstOf_ok ok hr rx e
  cases e1
  exact ⟨vs, by rw [hK]; exact hS, rs⟩
theorem sqt_eq (hK : X.K = T.K) (ok : KOk T G) {m : List Addr} {h : PH} {H : Hp} (hr : HR T m h H) {p : PV} {l : Addr} {xs : List PV} (rx : RV T m p (.ref l)) (e : tupOf G h p = some xs) : ∃ vs, SqT X.K H l vs ∧ RVs T m xs vs := by
  obtain ⟨l', vs, e1, hS, rs⟩ := tupOf_ok ok hr rx e
  cases e1
  exact ⟨vs, by rw [hK]; exact hS, rs⟩
/-- a list that is walked -/
theorem wk_list (hK : X.K = T.K) (ok : KOk T G) {m : List Addr} {p : PV} {l : Addr} {o : PO} {xs : List PV} (rx : RV T m p (.ref l)) (ho : o = .lst xs ∨ o = .rol xs) : WkOk T m (Itl X.K l) ⟨fun h' => deref G h' p = some o, xs.map .val⟩ := by
  have lo : ∀ {h' : PH}, deref G h' p = some o → lstOf G h' p = some xs := fun e => by
    unfold lstOf; rw [e]; rcases ho with rfl | rfl <;> rfl
  constructor
  · intro m' h' H' i x a hr e hx
    obtain ⟨y, hy, rfl⟩ := its_at hx
    obtain ⟨vs, hS, rs⟩ := sql_eq hK ok hr (rx.ext a) (lo e)
    obtain ⟨v, hv, rv⟩ := rs.get hy
    refine ⟨⟨vs, v, hS, hv⟩, fun v' H'' ⟨e1, hy'⟩ => ?_⟩
    subst e1
    have e2 := hy' vs hS
    rw [hv] at e2; cases e2
    exact ⟨m', pre_refl, hr, rv⟩
  · intro m' h' H' i a hr e hl
    obtain ⟨vs, hS, rs⟩ := sql_eq hK ok hr (rx.ext a) (lo e)
    exact ⟨vs, hS, by rw [← rs.length]; simpa using hl⟩
theorem wk_tup (hK : X.K = T.K) (ok : KOk T G) {m : List Addr} {p : PV} {l : Addr} {xs : List PV} (rx : RV T m p (.ref l)) : WkOk T m (Itt X.K l) ⟨fun h' => deref G h' p = some (.tup xs), xs.map .val⟩ := by
  have lo : ∀ {h' : PH}, deref G h' p = some (.tup xs) → tupOf G h' p = some xs := fun e => by
    unfold tupOf; rw [e]
  constructor
  · intro m' h' H' i x a hr e hx
    obtain ⟨y, hy, rfl⟩ := its_at hx
    obtain ⟨vs, hS, rs⟩ := sqt_eq hK ok hr (rx.ext a) (lo e)
    obtain ⟨v, hv, rv⟩ := rs.get hy
    refine ⟨⟨vs, v, hS, hv⟩, fun v' H'' ⟨e1, hy'⟩ => ?_⟩
    subst e1
    have e2 := hy' vs hS
    rw [hv] at e2; cases e2
    exact ⟨m', pre_refl, hr, rv⟩
  · intro m' h' H' i a hr e hl
    obtain ⟨vs, hS, rs⟩ := sqt_eq hK ok hr (rx.ext a) (lo e)
    exact ⟨vs, hS, by rw [← rs.length]; simpa using hl⟩
theorem wk_str {m : List Addr} (l : List Nat) : WkOk T m (Its (sOf l)) ⟨fun _ => True, l.map fun c => .val (.str [c])⟩ := by
  have sz : (sOf l).cps.size = l.length := by simp [sOf]
  constructor
  · intro m' h' H' i x a hr e hx
    obtain ⟨y, hy, rfl⟩ := its_at hx
    refine ⟨?_, fun v' H'' ⟨e1, c, hc, e2⟩ => ?_⟩
    · show i < (sOf l).cps.size
      rw [sz]; exact get_len hy
    · subst e1
      have : c = y := by
        have h1 : (sOf l).cps[i]? = l[i]? := by simp [sOf]
        rw [h1, hy] at hc
        exact (Option.some.inj hc).symm
      subst this
      exact ⟨m', pre_refl, hr, e2⟩
  · intro m' h' H' i a hr e hl
    show (sOf l).cps.size ≤ i
    rw [sz]; simpa using hl
theorem seq_ref (ok : KOk T G) {m : List Addr} {h : PH} {H : Hp} {p : PV} {x : V} {o : PO} (hr : HR T m h H) (rx : RV T m p x) (e : deref G h p = some o) : ∃ l, x = .ref l := by
  cases p with
  | loc n => obtain ⟨a, _, rfl⟩ := rx; exact ⟨a, rfl⟩
  | kon n => obtain ⟨a, _, _, rfl⟩ := rx; exact ⟨a, rfl⟩
  | _ => cases e
theorem sI_seq (hK : X.K = T.K) (ok : KOk T G) {fa : IE} (ha : PE X a (tE T X (wE G cl cm fa))) : PI X tg a (tI T X (wI G cl cm (.seq fa))) := by
  refine ⟨fun pins s σ H R I hh => ?_⟩
  obtain ⟨m, ps, h, Rf, Ef, hs, hr, k, tk, q⟩ := hh
  refine thn (ha.run pins s σ H (fun x H1 => ∃ m1 h1 p, m <+: m1 ∧ HR T m1 h1 H1 ∧ RV T m1 p x ∧ (match p with
    | .str l => Rf ⟨fun _ => True, l.map fun c => .val (.str [c])⟩ h1
    | v => ∃ o xs, deref G h1 v = some o ∧ o.seq? = some xs ∧ Rf ⟨fun h' => deref G h' v = some o, xs.map .val⟩ h1)) I ⟨m, ps, h, _, Ef, hs, hr, fun m1 h1 p x H1 a1 r1 rx q1 => ⟨m1, h1, p, a1, r1, rx, q1⟩, tk, q⟩) fun v s1 ⟨x, H1, I1, rv, m1, h1, p, a1, r1, rx, q1⟩ => ?_
  have seqCase : ∀ o xs, deref G h1 p = some o → o.seq? = some xs → Rf ⟨fun h' => deref G h' p = some o, xs.map .val⟩ h1 → wpAny (model X.prog X.w) X.A (pyIter v) (PIE X pins σ tg R) X.xe s1 := fun o xs e e2 q2 => by
    obtain ⟨l, rfl⟩ := seq_ref ok r1 rx e
    cases rv
    have kl : ∀ xs, (o = .lst xs ∨ o = .rol xs) → o.seq? = some xs := fun xs z => by rcases z with rfl | rfl <;> rfl
    have lo : (∃ ys, o = .lst ys ∨ o = .rol ys) ∨ ∃ ys, o = .tup ys := by
      cases o with
      | lst ys => exact .inl ⟨ys, .inl rfl⟩
      | rol ys => exact .inl ⟨ys, .inr rfl⟩
      | tup ys => exact .inr ⟨ys, rfl⟩
      | _ => cases e2
    rcases lo with ⟨ys, ho⟩ | ⟨ys, ho⟩
    · have : ys = xs := Option.some.inj ((kl ys ho).symm.trans e2)
      subst this
      have le : lstOf G h1 p = some ys := by unfold lstOf; rw [e]; rcases ho with rfl | rfl <;> rfl
      obtain ⟨vs, hS, _⟩ := sql_eq hK ok r1 rx le
      exact iter_list I1 hS (k m1 h1 _ _ H1 a1 r1 (wk_list hK ok rx ho) q2)
    · subst ho
      cases e2
      have le : tupOf G h1 p = some xs := by unfold tupOf; rw [e]
      obtain ⟨vs, hS, _⟩ := sqt_eq hK ok r1 rx le
      exact iter_tup I1 hS (k m1 h1 _ _ H1 a1 r1 (wk_tup hK ok rx) q2)
  cases p with
  | str l =>
    have rx : x = .str (sOf l) := rx
    subst rx
    obtain ⟨t, rfl⟩ := rv
    exact iter_str I1 (k m1 h1 _ _ H1 a1 r1 (wk_str l) q1)
  | loc n => obtain ⟨o, xs, e, e2, q2⟩ := q1; exact seqCase o xs e e2 q2
  | kon n => obtain ⟨o, xs, e, e2, q2⟩ := q1; exact seqCase o xs e e2 q2
  | _ => obtain ⟨o, xs, e, _⟩ := q1; cases e
/-! ranges -/
theorem wk_rng {m : List Addr} {lo c : Int} {n : Nat} {J : It} (hg : ∀ (i : Nat) H, i < n → J.go i H) (hy : ∀ (i : Nat) H v H'', J.yld i H v H'' → H'' = H ∧ v = .int (lo + (i : Nat) * c)) (hs : ∀ (i : Nat) H, n ≤ i → J.stop i H) : WkOk T m J ⟨fun _ => True, rngL lo c n⟩ := by
  constructor
  · intro m' h' H' i x a hr e hx
    obtain ⟨y, hy', rfl⟩ := its_at (l := List.range n) hx
    have hi : i < n := by simpa using get_len hy'
    have : y = i := by
      rw [List.getElem?_range hi] at hy'
      exact (Option.some.inj hy').symm
    subst this
    refine ⟨hg y H' hi, fun v' H'' z => ?_⟩
    obtain ⟨rfl, rfl⟩ := hy _ _ _ _ z
    exact ⟨m', pre_refl, hr, rfl⟩
  · intro m' h' H' i a hr e hl
    refine hs i H' ?_
    have e1 : (rngL lo c n).length = n := by simp [rngL]
    have hl : (rngL lo c n).length ≤ i := hl
    rw [e1] at hl
    exact hl
theorem pi_any {X : Cx} {tg e : Expr} {u : TI} (k : ∀ σ H Q, u σ H Q → ∃ t : TI, PI X tg e t ∧ t σ H Q) : PI X tg e u := ⟨fun pins s σ H Q I q => by
  obtain ⟨t, h, z⟩ := k σ H Q q
  exact h.run pins s σ H Q I z⟩
/-- one, two, three arguments as they come -/
def q1of (R : PV → PH → Prop) : List PV → PH → Prop
  | [x], h => R x h
  | _, _ => False
def q2of (R : PV → PV → PH → Prop) : List PV → PH → Prop
  | [x, y], h => R x y h
  | _, _ => False
def q3of (R : PV → PV → PV → PH → Prop) : List PV → PH → Prop
  | [x, y, z], h => R x y z h
  | _, _ => False
theorem arg1 {fa : IE} {σ : L2.St} {H : Hp} {m : List Addr} {ps : PSt} {h : PH} {Ef : PX → PH → Prop} {R : PV → PH → Prop} {S : List V → Hp → Prop} (hs : SR T m ps σ) (hr : HR T m h H) (tk : TkE T X m σ Ef) (q : wpE G cl cm Ef fa ps h R)
    (k : ∀ m' h' p x H', m <+: m' → HR T m' h' H' → RV T m' p x → R p h' → S [x] H') : tA T X (wA G cl cm [fa]) σ H S := by
  refine ⟨m, ps, h, q1of R, Ef, hs, hr, fun m1 h1 ps1 vs H1 a1 r1 rs q1 => ?_, tk, q⟩
  unfold q1of at q1
  split at q1
  · obtain ⟨v, rfl, rv⟩ := rvs1 rs
    exact k m1 h1 _ _ H1 a1 r1 rv q1
  · exact q1.elim
theorem arg2 {fa fb : IE} {σ : L2.St} {H : Hp} {m : List Addr} {ps : PSt} {h : PH} {Ef : PX → PH → Prop} {R : PV → PV → PH → Prop} {S : List V → Hp → Prop} (hs : SR T m ps σ) (hr : HR T m h H) (tk : TkE T X m σ Ef)
    (q : wpE G cl cm Ef fa ps h fun x h1 => wpE G cl cm Ef fb ps h1 (R x))
    (k : ∀ m' h' p q x y H', m <+: m' → HR T m' h' H' → RV T m' p x → RV T m' q y → R p q h' → S [x, y] H') : tA T X (wA G cl cm [fa, fb]) σ H S := by
  refine ⟨m, ps, h, q2of R, Ef, hs, hr, fun m1 h1 ps1 vs H1 a1 r1 rs q1 => ?_, tk, q⟩
  unfold q2of at q1
  split at q1
  · obtain ⟨v, u, rfl, rv, ru⟩ := rvs2 rs
    exact k m1 h1 _ _ _ _ H1 a1 r1 rv ru q1
  · exact q1.elim
theorem arg3 {fa fb fc : IE} {σ : L2.St} {H : Hp} {m : List Addr} {ps : PSt} {h : PH} {Ef : PX → PH → Prop} {R : PV → PV → PV → PH → Prop} {S : List V → Hp → Prop} (hs : SR T m ps σ) (hr : HR T m h H) (tk : TkE T X m σ Ef)
    (q : wpE G cl cm Ef fa ps h fun x h1 => wpE G cl cm Ef fb ps h1 fun y h2 => wpE G cl cm Ef fc ps h2 (R x y))
    (k : ∀ m' h' p q r x y z H', m <+: m' → HR T m' h' H' → RV T m' p x → RV T m' q y → RV T m' r z → R p q r h' → S [x, y, z] H') : tA T X (wA G cl cm [fa, fb, fc]) σ H S := by
  refine ⟨m, ps, h, q3of R, Ef, hs, hr, fun m1 h1 ps1 vs H1 a1 r1 rs q1 => ?_, tk, q⟩
  unfold q3of at q1
  split at q1
  · cases rs with
    | cons rv t =>
      obtain ⟨u, w, rfl, ru, rw'⟩ := rvs2 t
      exact k m1 h1 _ _ _ _ _ _ H1 a1 r1 rv ru rw' q1
  · exact q1.elim
theorem rng_one {m : List Addr} {lo : Int} {n : Nat} : WkOk T m (Itr lo n) ⟨fun _ => True, rngL lo 1 n⟩ := wk_rng (fun i H z => z) (fun i H v H'' ⟨z1, z2⟩ => ⟨z1, by rw [z2, Int.mul_one]⟩) fun i H z => z
theorem sI_rng1 {fa : IE} {p : Pos} (hg : Gl X "range") (hm : X.mg "range" = none) (ha : PA X [a] (tA T X (wA G cl cm [fa]))) (hst : starEach [a] X.env = [(false, eval a X.env)]) : PI X tg (.Call (.Name "range" p) [a] [] pos) (tI T X (wI G cl cm (.rng1 fa))) := by
  refine pi_imp (pi_range1 hg hm ha hst) fun σ H R hh => ?_
  obtain ⟨m, ps, h, Rf, Ef, hs, hr, k, tk, q⟩ := hh
  refine arg1 hs hr tk q fun m1 h1 p x H1 a1 r1 rx ⟨r, e, q1⟩ => ?_
  unfold rngOf at e
  split at e <;> rename_i hp <;> first | (cases hp; done) | (cases e; done) | skip
  split at e
  · rename_i j hz
    cases hp
    cases e
    have rx : x = _ := rx
    subst rx
    exact ⟨_, rfl, hz.1, hz.2, k m1 h1 _ _ H1 a1 r1 rng_one q1⟩
  · cases e
theorem sI_rng2 {fa fb : IE} {p : Pos} (hg : Gl X "range") (hm : X.mg "range" = none) (ha : PA X [a, b] (tA T X (wA G cl cm [fa, fb]))) (hst : starEach [a, b] X.env = [(false, eval a X.env), (false, eval b X.env)]) (hst2 : starEach [b] X.env = [(false, eval b X.env)]) : PI X tg (.Call (.Name "range" p) [a, b] [] pos) (tI T X (wI G cl cm (.rng2 fa fb))) := by
  refine pi_imp (pi_range2 hg hm ha hst hst2) fun σ H R hh => ?_
  obtain ⟨m, ps, h, Rf, Ef, hs, hr, k, tk, q⟩ := hh
  refine arg2 hs hr tk q fun m1 h1 p p' x y H1 a1 r1 rx ry ⟨r, e, q1⟩ => ?_
  unfold rngOf at e
  split at e <;> rename_i hp <;> first | (cases hp; done) | (cases e; done) | skip
  split at e
  · rename_i i j hz
    cases hp
    cases e
    have rx : x = _ := rx
    have ry : y = _ := ry
    subst rx; subst ry
    exact ⟨_, _, rfl, hz, k m1 h1 _ _ H1 a1 r1 rng_one q1⟩
  · cases e
theorem sI_rng3 {fa fb fc : IE} {p : Pos} (hg : Gl X "range") (hm : X.mg "range" = none) (ha : PA X [a, b, c] (tA T X (wA G cl cm [fa, fb, fc]))) (hst : starEach [a, b, c] X.env = (false, eval a X.env) :: starEach [b, c] X.env) (hpl : (backTo pos (starEach [b, c] X.env)).any (·.1) = false) :
    PI X tg (.Call (.Name "range" p) [a, b, c] [] pos) (tI T X (wI G cl cm (.rng3 fa fb fc))) := by
  refine pi_imp (pi_range3 hg hm ha hst hpl) fun σ H R hh => ?_
  obtain ⟨m, ps, h, Rf, Ef, hs, hr, k, tk, q⟩ := hh
  refine arg3 hs hr tk q fun m1 h1 p p' p'' x y z H1 a1 r1 rx ry rz ⟨r, e, q1⟩ => ?_
  unfold rngOf at e
  split at e <;> rename_i hp <;> first | (cases hp; done) | (cases e; done) | skip
  split at e
  · rename_i i j cc hz
    cases hp
    cases e
    have rx : x = _ := rx
    have ry : y = _ := ry
    have rz : z = _ := rz
    subst rx; subst ry; subst rz
    refine ⟨i, j, cc, _, rfl, ⟨hz.1, hz.2.1, hz.2.2.1, (Int.toNat_of_nonneg hz.2.2.2).symm⟩, k m1 h1 _ _ H1 a1 r1 ?_ q1⟩
    exact wk_rng (fun i H z => z) (fun i H v H'' z => z) fun i H z => z
  · cases e
/-! enumerate, zip, reversed -/
theorem new_tup {m : List Addr} {h : PH} {H : Hp} {p : Addr} {ps : List PV} {vs : List V} (hr : HR T m h H) (hp : H p = none) (rs : RVs T m ps vs) : ∃ m'', m <+: m'' ∧ HR T m'' (h ++ [.tup ps]) (upd H p (.tup vs)) ∧ RV T m'' (.loc h.length) (.ref p) :=
  ⟨m ++ [p], ext_snoc, hr.new hp ⟨vs, upd_same, rs.ext ext_snoc⟩ rfl, p, by rw [← hr.len, List.getElem?_append_right (Nat.le_refl _), Nat.sub_self]; rfl, rfl⟩
theorem wk_enum (hK : X.K = T.K) (ok : KOk T G) {m : List Addr} {p : PV} {l : Addr} {xs : List PV} (rx : RV T m p (.ref l)) : WkOk T m (Ite X.K l) ⟨fun h' => lstOf G h' p = some xs, enumL xs⟩ := by
  have len : (enumL xs).length = xs.length := by simp [enumL]
  constructor
  · intro m' h' H' i x a hr e hx
    obtain ⟨y, hy, rfl⟩ := its_at (l := xs.zipIdx) hx
    have hy2 : xs[i]? = some y.1 ∧ y.2 = i := by
      rw [List.getElem?_zipIdx] at hy
      cases q : xs[i]? with
      | none => rw [q] at hy; cases hy
      | some z => rw [q] at hy; cases hy; exact ⟨rfl, by simp⟩
    obtain ⟨vs, hS, rs⟩ := sql_eq hK ok hr (rx.ext a) e
    obtain ⟨v, hv, rv⟩ := rs.get hy2.1
    refine ⟨⟨vs, v, hS, hv⟩, fun v' H'' ⟨t, x1, e1, e2, e3, e4⟩ => ?_⟩
    have e5 := e4 vs hS
    rw [hv] at e5; cases e5
    subst e1; subst e3
    refine new_tup hr e2 (.cons ?_ (.cons rv .nil))
    show V.int (i : Nat) = V.int (y.2 : Nat)
    rw [hy2.2]
  · intro m' h' H' i a hr e hl
    obtain ⟨vs, hS, rs⟩ := sql_eq hK ok hr (rx.ext a) e
    have hl : (enumL xs).length ≤ i := hl
    rw [len, rs.length] at hl
    exact ⟨vs, hS, hl⟩
theorem sI_enum (hK : X.K = T.K) (ok : KOk T G) {fa : IE} {p tpos : Pos} {elts : List Expr} {kk : Nat} (hg : Gl X "enumerate") (hm : X.mg "enumerate" = none) (ha : PA X [a] (tA T X (wA G cl cm [fa]))) (hst : starEach [a] X.env = [(false, eval a X.env)]) :
    PI X (.Tuple elts kk tpos) (.Call (.Name "enumerate" p) [a] [] pos) (tI T X (wI G cl cm (.enum fa))) := by
  refine pi_imp (pi_enum hg hm ha hst) fun σ H R hh => ?_
  obtain ⟨m, ps, h, Rf, Ef, hs, hr, k, tk, q⟩ := hh
  refine arg1 hs hr tk q fun m1 h1 p x H1 a1 r1 rx ⟨xs, e, q1⟩ => ?_
  obtain ⟨l, vs, rfl, hS, rs⟩ := lstOf_ok ok r1 rx e
  exact ⟨l, vs, rfl, by rw [hK]; exact hS, k m1 h1 _ _ H1 a1 r1 (wk_enum hK ok rx) q1⟩
theorem wk_zip (hK : X.K = T.K) (ok : KOk T G) {m : List Addr} {p p' : PV} {l l' : Addr} {xs ys : List PV} (rx : RV T m p (.ref l)) (ry : RV T m p' (.ref l')) : WkOk T m (Itz X.K l l') ⟨fun h' => lstOf G h' p = some xs ∧ lstOf G h' p' = some ys, zipL xs ys⟩ := by
  have len : (zipL xs ys).length = min xs.length ys.length := by simp [zipL]
  constructor
  · intro m' h' H' i x a hr ⟨e, e'⟩ hx
    obtain ⟨y, hy, rfl⟩ := its_at (l := xs.zip ys) hx
    obtain ⟨hy1, hy2⟩ : xs[i]? = some y.1 ∧ ys[i]? = some y.2 := by
      have := List.getElem?_zip_eq_some.mp hy
      exact this
    obtain ⟨vs, hS, rs⟩ := sql_eq hK ok hr (rx.ext a) e
    obtain ⟨us, hS', rs'⟩ := sql_eq hK ok hr (ry.ext a) e'
    obtain ⟨v, hv, rv⟩ := rs.get hy1
    obtain ⟨u, hu, ru⟩ := rs'.get hy2
    refine ⟨⟨vs, us, v, u, hS, hS', hv, hu⟩, fun v' H'' ⟨t, x1, y1, e1, e2, e3, e4, e5⟩ => ?_⟩
    have f4 := e4 vs hS
    have f5 := e5 us hS'
    rw [hv] at f4; cases f4
    rw [hu] at f5; cases f5
    subst e1; subst e3
    exact new_tup hr e2 (.cons rv (.cons ru .nil))
  · intro m' h' H' i a hr ⟨e, e'⟩ hl
    obtain ⟨vs, hS, rs⟩ := sql_eq hK ok hr (rx.ext a) e
    obtain ⟨us, hS', rs'⟩ := sql_eq hK ok hr (ry.ext a) e'
    have hl : (zipL xs ys).length ≤ i := hl
    rw [len, rs.length, rs'.length] at hl
    refine ⟨vs, us, hS, hS', ?_⟩
    by_cases z : vs.length ≤ i
    · exact .inl z
    · exact .inr (by omega)
theorem sI_zip (hK : X.K = T.K) (ok : KOk T G) {fa fb : IE} {p tpos : Pos} {elts : List Expr} {kk : Nat} (hg : Gl X "zip") (hm : X.mg "zip" = none) (ha : PA X [a, b] (tA T X (wA G cl cm [fa, fb]))) (hst : starEach [a, b] X.env = (false, eval a X.env) :: starEach [b] X.env) (hpl : (backTo pos (starEach [b] X.env)).any (·.1) = false) :
    PI X (.Tuple elts kk tpos) (.Call (.Name "zip" p) [a, b] [] pos) (tI T X (wI G cl cm (.zip fa fb))) := by
  refine pi_imp (pi_zip hg hm ha hst hpl) fun σ H R hh => ?_
  obtain ⟨m, ps, h, Rf, Ef, hs, hr, k, tk, q⟩ := hh
  refine arg2 hs hr tk q fun m1 h1 p p' x y H1 a1 r1 rx ry ⟨xs, ys, e, e', q1⟩ => ?_
  obtain ⟨l, vs, rfl, hS, rs⟩ := lstOf_ok ok r1 rx e
  obtain ⟨l', us, rfl, hS', rs'⟩ := lstOf_ok ok r1 ry e'
  exact ⟨l, l', vs, us, rfl, by rw [hK]; exact hS, by rw [hK]; exact hS', k m1 h1 _ _ H1 a1 r1 (wk_zip hK ok rx ry) q1⟩
theorem wk_rev (hK : X.K = T.K) (ok : KOk T G) {m : List Addr} {p : PV} {l : Addr} {xs : List PV} {n : Nat} (hn : n = xs.length) (rx : RV T m p (.ref l)) : WkOk T m (Itv X.K l n) ⟨fun h' => lstOf G h' p = some xs, xs.reverse.map .val⟩ := by
  constructor
  · intro m' h' H' i x a hr e hx
    obtain ⟨y, hy, rfl⟩ := its_at hx
    have hi : i < xs.length := by simpa using get_len hy
    rw [List.getElem?_reverse hi] at hy
    obtain ⟨vs, hS, rs⟩ := sql_eq hK ok hr (rx.ext a) e
    obtain ⟨v, hv, rv⟩ := rs.get hy
    rw [← hn] at hv
    refine ⟨⟨by rw [hn]; exact hi, vs, v, hS, hv⟩, fun v' H'' ⟨e1, hy'⟩ => ?_⟩
    subst e1
    have e2 := hy' vs hS
    rw [hv] at e2; cases e2
    exact ⟨m', pre_refl, hr, rv⟩
  · intro m' h' H' i a hr e hl
    show n ≤ i
    rw [hn]; simpa using hl
theorem sI_rev (hK : X.K = T.K) (ok : KOk T G) {fa : IE} {p : Pos} (hg : Gl X "reversed") (hm : X.mg "reversed" = none) (ha : PA X [a] (tA T X (wA G cl cm [fa]))) (hst : starEach [a] X.env = [(false, eval a X.env)]) :
    PI X tg (.Call (.Name "reversed" p) [a] [] pos) (tI T X (wI G cl cm (.rev fa))) := by
  refine pi_imp (pi_reversed hg hm ha hst) fun σ H R hh => ?_
  obtain ⟨m, ps, h, Rf, Ef, hs, hr, k, tk, q⟩ := hh
  refine arg1 hs hr tk q fun m1 h1 p x H1 a1 r1 rx ⟨xs, e, q1⟩ => ?_
  obtain ⟨l, vs, rfl, hS, rs⟩ := lstOf_ok ok r1 rx e
  exact ⟨l, vs, rfl, by rw [hK]; exact hS, k m1 h1 _ _ H1 a1 r1 (wk_rev hK ok rs.length.symm rx) q1⟩
end
end Fw
set_option Elab.async false
set_option linter.all false
set_option maxRecDepth 100000
set_option maxHeartbeats 1000000
/-! Fw8: targets, comprehensions, statements. -/
namespace Fw
open PySem PySem.Spec PyProof.Rows L2

/-! a list as the source of several targets -/
section
variable {prog : Program} {w : World} {A : Around} {E : Value → Shared → Prop} {s : Shared}
theorem draw_l {it l : Addr} {its : Array Value} (ne : l ≠ it) : ∀ (n i : Nat) (s : Shared) (Q : List Value → Shared → Prop), s.heap.IsListIter it l i → s.heap.IsList l its → i + n ≤ its.size →
    (∀ h', h'.IsListIter it l (i + n) → Heap.SameBut it s.heap h' → Q ((its.toList.drop i).take n) { s with heap := h' }) → wpAny (model prog w) A (draw (.ref it) n) Q E s
  | 0, i, s, Q, hi, _, _, q => wpAny_pure (by simpa using q s.heap hi (Heap.SameBut.refl ..))
  | n + 1, i, s, Q, hi, hl, le, q => by
    have lt : i < its.size := by omega
    have here : its[i]? = some its[i] := by simp [lt]
    have split : its.toList.drop i = its[i] :: its.toList.drop (i + 1) := by simp [List.drop_eq_getElem_cons, lt]
    show wpAny _ _ (pyNext (.ref it) >>= fun _ => _) Q E s
    refine wpAny_bind (wpAny_pyNext_list_item hi hl here fun h1 hi1 sb1 => wpAny_bind (wpAny_holding ?_))
    refine draw_l ne n (i + 1) _ _ hi1 (hl.at fun o e => sb1.extBut _ _ ne e) (by omega) fun h2 hi2 sb2 => wpAny_pure ?_
    have z := q h2 (by rw [show i + (n + 1) = i + 1 + n by omega]; exact hi2) (sb1.trans sb2)
    rw [split, List.take_succ_cons] at z
    exact z
theorem unpack_l {l : Addr} {its : Array Value} {Q : List Value → Shared → Prop} (hh : A.handled = none) (hl : s.heap.IsList l its)
    (q : ∀ h', Heap.ExtBut s.heap.objs.size s.heap h' → Q its.toList { s with heap := h' }) : wpAny (model prog w) A (unpackItems (.ref l) its.size none) Q E s := by
  have lt : l ≠ s.heap.objs.size := by
    obtain ⟨o, ho, _⟩ := hl
    exact Nat.ne_of_lt (Heap.lt_size ho)
  unfold unpackItems notIterableAtAll
  refine wpAny_bind (wpAny_bind (wpAny_specialOf hl.typeIs slot_list_iter.lookup (wpAny_pure ?_)))
  rw [if_neg (by simp)]
  refine wpAny_bind (wpAny_holding (wpAny_pyIter_list hl ?_))
  refine wpAny_bind (wpAny_holding (draw_l lt its.size 0 _ _ ⟨_, Heap.get?_push_size _ rfl, rfl, rfl⟩ (hl.push _) (by omega) fun h1 hi1 sb1 => ?_))
  have all : List.take its.size (List.drop 0 its.toList) = its.toList := by
    rw [List.drop_zero, List.take_of_length_le (by simp)]
  rw [all, if_neg (by simp)]
  refine wpAny_bind (wpAny_holding (wpAny_pyNext_list_end hh hi1 ((hl.push _).at fun o e => sb1.extBut _ _ lt e) (by simp) fun h2 e2 => ?_))
  rw [if_neg (by simp)]
  exact wpAny_pure (q h2 fun b o hb e => e2 b o hb (sb1.extBut b o hb (Heap.get?_push_of_some _ e)))
theorem assign_l {env : Env} {es : List Expr} {kk : Nat} {pos : Pos} {l : Addr} {its : Array Value} {Q : Unit → Shared → Prop} (hh : A.handled = none) (hl : s.heap.IsList l its) (hn : (assignEach es env).length = its.size) (hs : (assignEach es env).findIdx? (·.1) = none)
    (k : ∀ h', Heap.ExtBut s.heap.objs.size s.heap h' → wpAny (model prog w) A (assignInOrder ((assignEach es env).map (·.2)) its.toList) Q E { s with heap := h' }) : wpAny (model prog w) A (assign (.Tuple es kk pos) env (.ref l)) Q E s := by
  rw [assign_Tuple]
  refine wpAny_bind (wpAny_standAt ?_)
  unfold unpack
  rw [hn, hs]
  exact wpAny_bind (wpAny_holding (unpack_l hh hl k))
end
/-- a tuple or a list -/
def gSeq (K : PySem.W.Frag) (n : Nat) (t : TGs) : TG := fun v σ H Q => ∃ a xs, v = .ref a ∧ (SqL K H a xs ∨ SqT K H a xs) ∧ xs.length = n ∧ t xs σ H Q
theorem pg_seq {X : Cx} {es : List Expr} {k : Nat} {t : TGs} {n : Nat} {pos : Pos} (hc : X.calm = true) (h : PGs X es t) (hn : (assignEach es X.env).length = n) (hst : (assignEach es X.env).findIdx? (·.1) = none) : PG X (.Tuple es k pos) (gSeq X.K n t) := by
  refine ⟨fun pins s σ H v u Q I r hw => ?_⟩
  obtain ⟨a, xs, e1, hq, hl, hw⟩ := hw
  rcases hq with hq | hq
  · subst e1
    cases r
    obtain ⟨its, rv, pl, hz⟩ := I.list hq
    refine assign_l (I.ok.hd hc) pl.isList (by simp [hn, ← hl, rv.length]) hst fun h' hx => ?_
    have I1 : Inv X pins σ H { s with heap := h' } := I.kept (t' := s.toks) fun b o e => hx b o (Nat.ne_of_lt (Heap.lt_size e)) e
    exact h.run pins _ σ H xs _ Q I1 (by simpa using rv) hw
  · exact (pg_tup hc h hn hst).run pins s σ H v u Q I r ⟨a, xs, e1, hq, hl, hw⟩
abbrev FG := (PX → PH → Prop) → PV → PSt → PH → (PSt → PH → Prop) → Prop
def KS (T : Tab) (m : List Addr) (Qf : PSt → PH → Prop) (Q : L2.St → Hp → Prop) : Prop := ∀ (m' : List Addr) (ps : PSt) (σ : L2.St) (h' : PH) (H' : Hp), m <+: m' → SR T m' ps σ → HR T m' h' H' → Qf ps h' → Q σ H'
theorem KS.ext {T : Tab} {m m' : List Addr} {Qf : PSt → PH → Prop} {Q : L2.St → Hp → Prop} (h : m <+: m') (k : KS T m Qf Q) : KS T m' Qf Q := fun m2 ps σ h2 H2 a b c d => k m2 ps σ h2 H2 (pre_trans h a) b c d
def tG (T : Tab) (X : Cx) (f : FG) : TG := fun v σ H Q => ∃ m ps h p Qf Ef, SR T m ps σ ∧ HR T m h H ∧ RV T m p v ∧ KS T m Qf Q ∧ TkE T X m σ Ef ∧ f Ef p ps h Qf
abbrev wG (G : Pg) (cl cm : CSem) (g : IG) : FG := fun E => wpG G cl cm E g
theorem pg_imp {X : Cx} {e : Expr} {t u : TG} (h : PG X e t) (k : ∀ v σ H Q, u v σ H Q → t v σ H Q) : PG X e u := ⟨fun pins s σ H v w Q I r q => h.run pins s σ H v w Q I r (k v σ H Q q)⟩
section
variable {X : Cx} {T : Tab} {G : Pg} {cl cm : CSem} {a b c tg : Expr} {pos : Pos}
theorem sG_name {i : Nat} {x : Str} (hN : X.N.Nodup) (hi : X.N[i]? = some x) (hx : Loc X.env.scope x) (hf : X.fn x = true ∨ X.env.scope.names.lookup x = some .local) : PG X (.Name x pos) (tG T X (wG G cl cm (.name i))) := by
  refine pg_imp (pg_name hN hi hx hf) fun v σ H Q hh => ?_
  obtain ⟨m, ps, h, p, Qf, Ef, hs, hr, rv, k, tk, q⟩ := hh
  exact k m _ _ h H pre_refl (hs.set rv i) hr q
/-- a name as a target -/
structure NmOk (X : Cx) (i : Nat) (x : Str) : Prop where
  hi : X.N[i]? = some x
  hx : Loc X.env.scope x
  hf : X.fn x = true ∨ X.env.scope.names.lookup x = some .local
/-- the targets within a tuple are names -/
inductive NmsOk (X : Cx) : List Nat → List Expr → Prop
  | nil : NmsOk X [] []
  | cons {i : Nat} {x : Str} {p : Pos} {is : List Nat} {es : List Expr} : NmOk X i x → NmsOk X is es → NmsOk X (i :: is) (.Name x p :: es)
def tGn (T : Tab) (is : List Nat) : TGs := fun vs σ H Q => ∃ m ps h p Qf, SR T m ps σ ∧ HR T m h H ∧ RVs T m p vs ∧ p.length = is.length ∧ KS T m Qf Q ∧ Qf (setAll ps is p) h
theorem sGs (hN : X.N.Nodup) : ∀ {is : List Nat} {es : List Expr}, NmsOk X is es → PGs X es (tGn T is)
  | [], _, .nil => by
    refine ⟨fun pins s σ H vs us Q I r hh => pgs_nil.run pins s σ H vs us Q I r ?_⟩
    obtain ⟨m, ps, h, p, Qf, hs, hr, rv, hl, k, q⟩ := hh
    cases p with
    | nil => cases rv; exact ⟨rfl, k m _ _ h H pre_refl hs hr q⟩
    | cons _ _ => cases hl
  | i :: is, _, .cons (es := es) n t => by
    refine ⟨fun pins s σ H vs us Q I r hh => (pgs_cons (pg_name hN n.hi n.hx n.hf) (sGs hN t) ?_).run pins s σ H vs us Q I r ?_⟩
    · cases es <;> rfl
    · obtain ⟨m, ps, h, p, Qf, hs, hr, rv, hl, k, q⟩ := hh
      cases p with
      | nil => cases hl
      | cons p1 p =>
        cases rv with
        | cons r1 t1 => exact ⟨_, _, rfl, m, _, h, p, Qf, hs.set r1 i, hr, t1, Nat.succ.inj hl, k, q⟩
theorem asgE_len : ∀ {es : List Expr} {is : List Nat}, NmsOk X is es → (assignEach es X.env).length = is.length
  | _, _, .nil => rfl
  | _, _, .cons n t => by
    show (assignEach _ X.env).length + 1 = _ + 1
    rw [asgE_len t]
theorem asgE_star : ∀ {es : List Expr} {is : List Nat}, NmsOk X is es → (assignEach es X.env).findIdx? (·.1) = none
  | _, _, .nil => rfl
  | _, _, .cons (x := x) (p := p) (es := es) n t => by
    have e : assignEach (.Name x p :: es) X.env = (false, assign (.Name x p) X.env) :: assignEach es X.env := rfl
    rw [e, List.findIdx?_cons]
    simp [asgE_star t]
theorem sG_names (hK : X.K = T.K) (ok : KOk T G) (hc : X.calm = true) (hN : X.N.Nodup) {es : List Expr} {is : List Nat} {kk : Nat} (n : NmsOk X is es) : PG X (.Tuple es kk pos) (tG T X (wG G cl cm (.names is))) := by
  refine pg_imp (pg_seq (n := is.length) hc (sGs (T := T) hN n) (asgE_len n) (asgE_star n)) fun v σ H Q hh => ?_
  obtain ⟨m, ps, h, p, Qf, Ef, hs, hr, rv, k, tk, q⟩ := hh
  obtain ⟨xs, e, hl, q⟩ := q
  obtain ⟨l, vs, rfl, hS, rs⟩ := seqOf_ok ok hr rv e
  exact ⟨l, vs, rfl, by rw [hK]; exact hS, by rw [← rs.length]; exact hl, m, ps, h, xs, Qf, hs, hr, rs, hl, k, q⟩
/-- o[i] = v, of a list -/
theorem set_ok {m : List Addr} {h h3 : PH} {H : Hp} {o i v : PV} {x y z : V} {Q : Hp → Prop} (hr : HR T m h H) (ro : RV T m o x) (ri : RV T m i y) (rv : RV T m v z) (e : setP o i v h = some h3) (q : ∀ H', HR T m h3 H' → Q H') : rSetL x y z H Q := by
  unfold setP at e
  split at e
  · rename_i n kk
    split at e
    · rename_i xs hx
      obtain ⟨a, vs, m1, h1, rs⟩ := hr.lst hx
      obtain ⟨a', m2, rfl⟩ := ro
      rw [m1] at m2; cases m2
      have ri : y = _ := ri
      subst ri
      cases e2 : ixN xs.length kk with
      | none => rw [e2] at e; cases e
      | some j =>
        rw [e2] at e; cases e
        exact ⟨a, vs, kk, j, rfl, rfl, h1, by rw [← rs.length]; exact e2, q _ (hr.putL m1 hx h1 (rs.set rv j))⟩
    · cases e
  · cases e
theorem sG_sub {fa fb : IE} (ha : PE X a (tE T X (wE G cl cm fa))) (hb : PE X b (tE T X (wE G cl cm fb))) (hs : ∀ v, assign (.Subscript a b pos) X.env v = (do
      let ov ← holding [v] (eval a X.env)
      let iv ← holding [v, ov] (eval b X.env)
      standAt pos
      holding [v, ov, iv] (setItem ov iv v)
      release [v, ov, iv] [])) : PG X (.Subscript a b pos) (tG T X (wG G cl cm (.sub fa fb))) := by
  refine pg_imp (pg_sub ha hb set_list hs) fun v σ H Q hh => ?_
  obtain ⟨m, ps, h, p, Qf, Ef, hs, hr, rv, k, tk, q⟩ := hh
  refine two hs hr tk q fun m' h' o i x y H' ex r rx ry ⟨h3, e, q2⟩ => ?_
  exact set_ok r rx ry (rv.ext ex) e fun H'' r3 => k m' ps σ h3 H'' ex (hs.ext ex) r3 q2

/-! ### statements -/
def KD (T : Tab) (m : List Addr) (D' : PEnds) (D : Ends) : Prop := KS T m D'.nx D.nx ∧ KQ T m D'.rt D.rt ∧ KS T m D'.bk D.bk ∧ KS T m D'.ct D.ct
theorem KD.ext {m m' : List Addr} {D' : PEnds} {D : Ends} (h : m <+: m') (k : KD T m D' D) : KD T m' D' D := ⟨k.1.ext h, k.2.1.ext h, k.2.2.1.ext h, k.2.2.2.ext h⟩
def tS (T : Tab) (X : Cx) (f : FS) : TS := fun D σ H => ∃ m ps h D' Ef, SR T m ps σ ∧ HR T m h H ∧ KD T m D' D ∧ TkS T X m Ef ∧ f Ef D' ps h
abbrev wS (G : Pg) (cl cm : CSem) (s : IS) : FS := fun E => wpSt G cl cm E s
abbrev wB (G : Pg) (cl cm : CSem) (s : List IS) : FS := fun E => wpSs G cl cm E s
theorem ps_imp {st : Stmt} {t u : TS} (h : PS X st t) (k : ∀ D σ H, u D σ H → t D σ H) : PS X st u := ⟨fun pins s σ H D I q => h.run pins s σ H D I (k D σ H q)⟩
theorem pss_imp {st : List Stmt} {t u : TS} (h : PSs X st t) (k : ∀ D σ H, u D σ H → t D σ H) : PSs X st u := ⟨fun pins s σ H D I q => h.run pins s σ H D I (k D σ H q)⟩
theorem sB_nil : PSs X [] (tS T X (wB G cl cm [])) := by
  refine pss_imp pss_nil fun D σ H hh => ?_
  obtain ⟨m, ps, h, D', Ef, hs, hr, k, tk, q⟩ := hh
  exact k.1 m _ _ h H pre_refl hs hr q
theorem sB_cons {st : Stmt} {sts : List Stmt} {fs : IS} {fr : List IS} (h1 : PS X st (tS T X (wS G cl cm fs))) (h2 : PSs X sts (tS T X (wB G cl cm fr))) : PSs X (st :: sts) (tS T X (wB G cl cm (fs :: fr))) := by
  refine pss_imp (pss_cons h1 h2) fun D σ H hh => ?_
  obtain ⟨m, ps, h, D', Ef, hs, hr, k, tk, q⟩ := hh
  have q : wpSt G cl cm Ef fs { D' with nx := wpSs G cl cm Ef fr D' } ps h := q
  refine ⟨m, ps, h, { D' with nx := wpSs G cl cm Ef fr D' }, Ef, hs, hr, ⟨fun m1 ps1 σ1 h1 H1 a1 s1 r1 q1 => ?_, k.2⟩, tk, q⟩
  exact ⟨m1, ps1, h1, D', Ef, s1, r1, k.ext a1, tk.ext a1, q1⟩
theorem sS_exp {e : Expr} {fe : IE} (he : PE X e (tE T X (wE G cl cm fe))) (hs : swapsWith e none pos.line X.env = pure false) : PS X (.Expr e pos) (tS T X (wS G cl cm (.exp fe))) := by
  refine ps_imp (ps_expr he hs) fun D σ H hh => ?_
  obtain ⟨m, ps, h, D', Ef, hs, hr, k, tk, q⟩ := hh
  exact ⟨m, ps, h, _, _, hs, hr, fun m1 h1 p x H1 a1 r1 rx q1 => k.1 m1 ps σ h1 H1 a1 (hs.ext a1) r1 q1, tk.at hs, q⟩
theorem sS_ret {e : Expr} {fe : IE} (he : PE X e (tE T X (wE G cl cm fe))) : PS X (.Return (some e) pos) (tS T X (wS G cl cm (.ret fe))) := by
  refine ps_imp (ps_ret he) fun D σ H hh => ?_
  obtain ⟨m, ps, h, D', Ef, hs, hr, k, tk, q⟩ := hh
  exact ⟨m, ps, h, _, _, hs, hr, k.2.1, tk.at hs, q⟩
theorem sS_retN : PS X (.Return none pos) (tS T X (wS G cl cm (.ret (.cst .non)))) := by
  refine ps_imp ps_retN fun D σ H hh => ?_
  obtain ⟨m, ps, h, D', Ef, hs, hr, k, tk, q⟩ := hh
  exact k.2.1 m h .non .non H pre_refl hr rfl q
theorem sS_skip : PS X (.Pass pos) (tS T X (wS G cl cm .skip)) := by
  refine ps_imp ps_pass fun D σ H hh => ?_
  obtain ⟨m, ps, h, D', Ef, hs, hr, k, tk, q⟩ := hh
  exact k.1 m _ _ h H pre_refl hs hr q
theorem sS_brk : PS X (.Break pos) (tS T X (wS G cl cm .brk)) := by
  refine ps_imp ps_break fun D σ H hh => ?_
  obtain ⟨m, ps, h, D', Ef, hs, hr, k, tk, q⟩ := hh
  exact k.2.2.1 m _ _ h H pre_refl hs hr q
theorem sS_cont : PS X (.Continue pos) (tS T X (wS G cl cm .cont)) := by
  refine ps_imp ps_continue fun D σ H hh => ?_
  obtain ⟨m, ps, h, D', Ef, hs, hr, k, tk, q⟩ := hh
  exact k.2.2.2 m _ _ h H pre_refl hs hr q
theorem sS_ite {t : Expr} {x y : List Stmt} {ft : IT} {fx fy : List IS} (ht : PT X t (tT T X (wT G cl cm ft))) (hx : PSs X x (tS T X (wB G cl cm fx))) (hy : PSs X y (tS T X (wB G cl cm fy))) : PS X (.If t x y pos) (tS T X (wS G cl cm (.ite ft fx fy))) := by
  refine ps_imp (ps_if ht hx hy) fun D σ H hh => ?_
  obtain ⟨m, ps, h, D', Ef, hs, hr, k, tk, q⟩ := hh
  refine ⟨m, ps, h, _, _, hs, hr, fun m1 h1 c H1 a1 r1 q1 => ?_, tk.at hs, q⟩
  cases c with
  | true => exact ⟨m1, ps, h1, D', Ef, hs.ext a1, r1, k.ext a1, tk.ext a1, q1⟩
  | false => exact ⟨m1, ps, h1, D', Ef, hs.ext a1, r1, k.ext a1, tk.ext a1, q1⟩
theorem sS_asg {e : Expr} {fe : IE} {g : IG} (he : PE X e (tE T X (wE G cl cm fe))) (hg : PG X tg (tG T X (wG G cl cm g))) (h1 : swapsWithSole [tg] e pos.line X.env = pure false) (h2 : swappedStores [tg] e X.env = pure none) (h3 : (assignEach [tg] X.env).map (·.2) = [assign tg X.env]) :
    PS X (.Assign [tg] e pos) (tS T X (wS G cl cm (.asg g fe))) := by
  refine ps_imp (ps_asg he hg h1 h2 h3) fun D σ H hh => ?_
  obtain ⟨m, ps, h, D', Ef, hs, hr, k, tk, q⟩ := hh
  refine ⟨m, ps, h, _, _, hs, hr, fun m1 h1 p x H1 a1 r1 rx q1 => ?_, tk.at hs, q⟩
  exact ⟨m1, ps, h1, p, D'.nx, _, hs.ext a1, r1, rx, k.1.ext a1, (tk.at hs).ext a1, q1⟩
theorem sS_aug (hK : X.K = T.K) (ok : KOk T G) {e : Expr} {fe : IE} {i : Nat} {x : Str} {op : Operator} {p1 : Pos} (hN : X.N.Nodup) (n : NmOk X i x) (he : PE X e (tE T X (wE G cl cm fe))) : PS X (.AugAssign (.Name x p1) op e pos) (tS T X (wS G cl cm (.aug i op fe))) := by
  refine ps_imp (ps_aug hN n.hi n.hx he (op_iop (G := G) hK ok) n.hf) fun D σ H hh => ?_
  obtain ⟨m, ps, h, D', Ef, hs, hr, k, tk, v, e1, q⟩ := hh
  obtain ⟨u, e2, rv⟩ := hs.get e1
  refine ⟨u, e2, m, ps, h, _, _, hs, hr, fun m1 h1 p x H1 a1 r1 rx q1 => ?_, tk.at hs, q⟩
  obtain ⟨r, e3, q1⟩ := q1
  refine ⟨m1, h1, v, p, r, r1, rv.ext a1, rx, e3, fun m2 w H2 a2 r2 rw' => ?_⟩
  exact k.1 m2 _ _ r.2 H2 (pre_trans a1 a2) ((hs.ext (pre_trans a1 a2)).set rw' i) r2 q1
theorem get_list {pins : List (Addr × Obj)} {s : Shared} {σ : L2.St} {H : Hp} {l : Addr} {xs : List V} {i : Int} {t : Tok} {z : V} {Q : VK} (I : Inv X pins σ H s) (hq : SqL X.K H l xs) (he : atI xs i = some z) (q : Q z H) :
    wpAny (model X.prog X.w) X.A (getItem (.ref l) (.int i t)) (EP X pins σ Q) X.xe s := by
  obtain ⟨its, r, pl, hz⟩ := I.list hq
  obtain ⟨j, h1, h2, h3, h4, h5⟩ := atI_get he
  obtain ⟨w, ew, rw'⟩ := r.get h2
  have hl := r.length
  have hn := line63
  have fin : EP X pins σ Q w s := ⟨z, H, I, rw', q⟩
  by_cases h0 : 0 ≤ i
  · rw [seqIndex_of h0 h5] at h1
    have hj : i.toNat = j := Option.some.inj h1
    exact wpAny_getItem_list pl.isList h0 (by omega) (by rw [hj]; simpa using ew) fin
  · rw [seqIndex_neg (by omega) h4] at h1
    have hj : (i + (its.toArray.size : Int)).toNat = j := by
      rw [List.size_toArray, ← hl]
      exact Option.some.inj h1
    exact wpAny_getItem_list_neg pl.isList (by omega) (by rw [List.size_toArray]; omega) (by omega) (by rw [hj]; simpa using ew) fin
theorem idxL_ok (hK : X.K = T.K) (ok : KOk T G) : PGet X (rIdx T (fun x i h => idxL G h x i)) := by
  intro pins s σ H x y v u Q I rx ry hh
  obtain ⟨m, h, p, q, r, hr, rp, rq, e0, k⟩ := hh
  have e : idxL G h p q = some r := e0
  clear e0
  unfold idxL at e
  split at e
  · rename_i i
    have rq : y = _ := rq
    subst rq
    obtain ⟨t, rfl⟩ := ry
    split at e
    · rename_i ys q1
      obtain ⟨a, vs, rfl, hS, rs⟩ := lstOf_ok ok hr rp q1
      obtain ⟨z, e2, rz⟩ := atI_rv rs e
      cases rx
      exact get_list I (by rw [hK]; exact hS) e2 (k.now hr rz)
    · cases e
  · cases e
theorem sS_augS (hK : X.K = T.K) (ok : KOk T G) {e : Expr} {fa fb fe : IE} {op : Operator} {p1 : Pos} (ha : PE X a (tE T X (wE G cl cm fa))) (hb : PE X b (tE T X (wE G cl cm fb))) (he : PE X e (tE T X (wE G cl cm fe)))
    (hs : ∀ ov iv new, augStore b ov iv new = (do holding [new, ov, iv] (setItem ov iv new); release [new, ov, iv] []; pure .next)) : PS X (.AugAssign (.Subscript a b p1) op e pos) (tS T X (wS G cl cm (.augS fa fb op fe))) := by
  refine ps_imp (ps_augS ha hb (idxL_ok (G := G) hK ok) he (op_iop (G := G) hK ok) set_list hs) fun D σ H hh => ?_
  obtain ⟨m, ps, h, D', Ef, hs, hr, k, tk, q⟩ := hh
  refine two hs hr (tk.at hs) q fun m1 h1 p q' x y H1 a1 r1 rx ry ⟨v, e1, q1⟩ => ?_
  refine ⟨m1, h1, p, q', v, r1, rx, ry, e1, fun m2 z H2 a2 r2 rz => ?_⟩
  have a12 := pre_trans a1 a2
  refine ⟨m2, ps, h1, _, _, hs.ext a12, r2, fun m3 h3 p3 u H3 a3 r3 ru q3 => ?_, (tk.at hs).ext a12, q1⟩
  obtain ⟨r, e3, h4, e4, q3⟩ := q3
  refine ⟨m3, h3, v, p3, r, r3, rz.ext a3, ru, e3, fun m4 w H4 a4 r4 rw' => ?_⟩
  have a24 := pre_trans a2 (pre_trans a3 a4)
  exact set_ok r4 (rx.ext a24) (ry.ext a24) rw' e4 fun H' r5 => k.1 m4 ps σ h4 H' (pre_trans a1 a24) (hs.ext (pre_trans a1 a24)) r5 q3
theorem sS_whl {t : Expr} {y : List Stmt} {ft : IT} {fy : List IS} (hp : PassesOwn (model X.prog X.w) X.A X.env X.xe) (ht : PT X t (tT T X (wT G cl cm ft))) (hy : PSs X y (tS T X (wB G cl cm fy))) : PS X (.While t y [] pos) (tS T X (wS G cl cm (.whl ft fy))) := by
  refine ps_imp (ps_while hp ht hy) fun D σ H hh => ?_
  obtain ⟨m, ps, h, D', Ef, hs, hr, k, tk, W, ⟨n, w0⟩, step⟩ := hh
  refine ⟨fun n σ H => ∃ m' ps h, m <+: m' ∧ SR T m' ps σ ∧ HR T m' h H ∧ W n ps h, ⟨n, m, ps, h, pre_refl, hs, hr, w0⟩, ?_⟩
  rintro n σ1 H1 ⟨m1, ps1, h1, a1, s1, r1, w1⟩
  refine ⟨m1, ps1, h1, _, _, s1, r1, fun m2 h2 c H2 a2 r2 q2 => ?_, (tk.ext a1).at s1, step n ps1 h1 w1⟩
  cases c with
  | true =>
    refine ⟨fun σ' H' => ∃ n', n' < n ∧ ∃ m' ps h, m <+: m' ∧ SR T m' ps σ' ∧ HR T m' h H' ∧ W n' ps h, fun σ' H' z => z, ?_⟩
    have q2 : wpSs G cl cm Ef fy { D' with nx := fun σ' h' => ∃ m', m' < n ∧ W m' σ' h', ct := fun σ' h' => ∃ m', m' < n ∧ W m' σ' h', bk := D'.nx } ps1 h2 := q2
    refine ⟨m2, ps1, h2, { D' with nx := fun σ' h' => ∃ m', m' < n ∧ W m' σ' h', ct := fun σ' h' => ∃ m', m' < n ∧ W m' σ' h', bk := D'.nx }, Ef, s1.ext a2, r2, ⟨?_, k.2.1.ext (pre_trans a1 a2), k.1.ext (pre_trans a1 a2), ?_⟩, tk.ext (pre_trans a1 a2), q2⟩
    · intro m3 ps3 σ3 h3 H3 a3 s3 r3 ⟨n', hn, w3⟩
      exact ⟨n', hn, m3, ps3, h3, pre_trans a1 (pre_trans a2 a3), s3, r3, w3⟩
    · intro m3 ps3 σ3 h3 H3 a3 s3 r3 ⟨n', hn, w3⟩
      exact ⟨n', hn, m3, ps3, h3, pre_trans a1 (pre_trans a2 a3), s3, r3, w3⟩
  | false => exact k.1 m2 _ _ h2 H2 (pre_trans a1 a2) (s1.ext a2) r2 q2
theorem drop_at {α : Type} {l : List α} {i : Nat} {x : α} {r : List α} (e : l.drop i = x :: r) : l[i]? = some x ∧ l.drop (i + 1) = r := by
  have h1 : (l.drop i)[0]? = some x := by rw [e]; rfl
  rw [List.getElem?_drop] at h1
  refine ⟨by simpa using h1, ?_⟩
  rw [← List.drop_drop, e]; rfl
theorem sS_for {it : Expr} {y : List Stmt} {fi : II} {g : IG} {fy : List IS} (hp : PassesOwn (model X.prog X.w) X.A X.env X.xe) (hc : X.calm = true) (hi : PI X tg it (tI T X (wI G cl cm fi))) (hg : PG X tg (tG T X (wG G cl cm g))) (hy : PSs X y (tS T X (wB G cl cm fy)))
    (hf : ∀ x, foldedSetIterable it X.env x = pure x) : PS X (.For tg it y [] pos) (tS T X (wS G cl cm (.for_ g fi fy))) := by
  refine ps_imp (ps_for hp hc hi hg hy hf) fun D σ H hh => ?_
  obtain ⟨m, ps, h, D', Ef, hs, hr, k, tk, q⟩ := hh
  refine ⟨m, ps, h, _, _, hs, hr, fun m1 h1 W J H1 a1 r1 wk q1 => ?_, tk.at hs, q⟩
  let L : List Item → PSt → PH → Prop := wpFor (fun v σ h Q => wpG G cl cm (fun x => Ef x σ) g v σ h Q) (fun D σ h => wpSs G cl cm Ef fy D σ h) D' W.chk
  have q1 : L W.its ps h1 := q1
  refine ⟨fun i n σ H => n = W.its.length - i ∧ i ≤ W.its.length ∧ ∃ m' ps h, m1 <+: m' ∧ SR T m' ps σ ∧ HR T m' h H ∧ L (W.its.drop i) ps h, ⟨W.its.length, by simp, Nat.zero_le _, m1, ps, h1, pre_refl, hs.ext a1, r1, q1⟩, ?_⟩
  rintro i n σ2 H2 ⟨rfl, hi, m2, ps2, h2, a2, s2, r2, q2⟩
  cases hd : W.its.drop i with
  | nil =>
    rw [hd] at q2
    have hl : W.its.length ≤ i := by
      have := congrArg List.length hd
      rw [List.length_drop] at this
      simp at this
      omega
    have q2 : W.chk h2 ∧ D'.nx ps2 h2 := q2
    exact .inl ⟨wk.stop m2 h2 H2 i a2 r2 q2.1 hl, k.1 m2 _ _ h2 H2 (pre_trans a1 a2) s2 r2 q2.2⟩
  | cons x r =>
    obtain ⟨e1, e2⟩ := drop_at hd
    rw [hd] at q2
    have q2 : W.chk h2 ∧ wpG G cl cm (fun y => Ef y ps2) g (x.v h2) ps2 (x.h h2) fun σ3 h3 => wpSs G cl cm Ef fy { nx := L r, ct := L r, bk := D'.nx, rt := D'.rt } σ3 h3 := q2
    obtain ⟨go, yl⟩ := wk.go m2 h2 H2 i x a2 r2 q2.1 e1
    have lt := get_len e1
    have a12 := pre_trans a1 a2
    refine .inr ⟨go, fun σ' H' => ∃ m' ps h, m1 <+: m' ∧ SR T m' ps σ' ∧ HR T m' h H' ∧ L r ps h, fun σ' H' ⟨m3, ps3, h3, a3, s3, r3, q3⟩ => ⟨W.its.length - (i + 1), by omega, rfl, lt, m3, ps3, h3, a3, s3, r3, by rw [e2]; exact q3⟩, fun v H3 hy3 => ?_⟩
    obtain ⟨m3, a3, r3, rv⟩ := yl v H3 hy3
    have a13 := pre_trans a12 a3
    refine ⟨m3, ps2, _, _, _, _, s2.ext a3, r3, rv, fun m4 ps4 σ4 h4 H4 a4 s4 r4 q4 => ?_, ((tk.ext a12).at s2).ext a3, q2.2⟩
    refine ⟨m4, ps4, h4, { nx := L r, ct := L r, bk := D'.nx, rt := D'.rt }, Ef, s4, r4, ⟨?_, k.2.1.ext (pre_trans a13 a4), k.1.ext (pre_trans a13 a4), ?_⟩, tk.ext (pre_trans a13 a4), q4⟩
    · intro m5 ps5 σ5 h5 H5 a5 s5 r5 q5
      exact ⟨m5, ps5, h5, pre_trans a2 (pre_trans a3 (pre_trans a4 a5)), s5, r5, q5⟩
    · intro m5 ps5 σ5 h5 H5 a5 s5 r5 q5
      exact ⟨m5, ps5, h5, pre_trans a2 (pre_trans a3 (pre_trans a4 a5)), s5, r5, q5⟩
/-! ### list comprehensions -/
theorem SR.wipe {m : List Addr} {ps : PSt} {σ : L2.St} (r : SR T m ps σ) : ∀ vs : List Nat, SR T m (wipeP ps vs) (wipe σ vs)
  | [] => r
  | v :: vs => by
    show SR T m ((wipeP ps vs).set v none) ((L2.wipe σ vs).set v none)
    exact (SR.wipe r vs).clr v none
def setV (σ : L2.St) : List Nat → List V → L2.St
  | i :: is, x :: xs => setV (σ.set i (some x)) is xs
  | _, _ => σ
def tNames (K : PySem.W.Frag) (is : List Nat) : TG := fun v σ H Q => ∃ l xs, v = .ref l ∧ (SqL K H l xs ∨ SqT K H l xs) ∧ xs.length = is.length ∧ Q (setV σ is xs) H
theorem pgs_names (hN : X.N.Nodup) : ∀ {is : List Nat} {es : List Expr}, NmsOk X is es → PGs X es (fun vs σ H Q => vs.length = is.length ∧ Q (setV σ is vs) H)
  | [], _, .nil => by
    refine ⟨fun pins s σ H vs us Q I r hh => pgs_nil.run pins s σ H vs us Q I r ?_⟩
    cases vs with
    | nil => exact ⟨rfl, hh.2⟩
    | cons _ _ => cases hh.1
  | i :: is, _, .cons (es := es) n t => by
    refine ⟨fun pins s σ H vs us Q I r hh => (pgs_cons (pg_name hN n.hi n.hx n.hf) (pgs_names hN t) ?_).run pins s σ H vs us Q I r ?_⟩
    · cases es <;> rfl
    · cases vs with
      | nil => cases hh.1
      | cons v vs => exact ⟨v, vs, rfl, Nat.succ.inj hh.1, hh.2⟩
theorem pg_names (hc : X.calm = true) (hN : X.N.Nodup) {es : List Expr} {is : List Nat} {kk : Nat} (n : NmsOk X is es) : PG X (.Tuple es kk pos) (tNames X.K is) := by
  refine pg_imp (pg_seq (n := is.length) hc (pgs_names hN n) (asgE_len n) (asgE_star n)) fun v σ H Q hh => ?_
  obtain ⟨l, xs, rfl, hS, hl, q⟩ := hh
  exact ⟨l, xs, rfl, hS, hl, hl, q⟩
/-- the slots of a target; its reading over the hand layer's slots -/
def tgSl : IG → List Nat
  | .name i => [i]
  | .names is => is
  | _ => []
def tgL (K : PySem.W.Frag) : IG → TG
  | .name i => gName i
  | .names is => tNames K is
  | _ => fun _ _ _ _ => False
theorem SR.setAll {m : List Addr} : ∀ {is : List Nat} {ps : List PV} {vs : List V} {st : PSt} {σ : L2.St}, RVs T m ps vs → SR T m st σ → SR T m (setAll st is ps) (setV σ is vs)
  | [], _, _, _, _, _, s => s
  | _ :: _, _, _, _, _, .nil, s => s
  | i :: is, _, _, _, _, .cons r t, s => SR.setAll (is := is) t (s.set r i)
theorem tgl_ok (hK : X.K = T.K) (ok : KOk T G) {E : PX → PH → Prop} {m : List Addr} {ps : PSt} {h : PH} {σ : L2.St} {H : Hp} {g : IG} {p : PV} {v : V} {Qf : PSt → PH → Prop} {Q : L2.St → Hp → Prop} (hs : SR T m ps σ) (hr : HR T m h H) (rv : RV T m p v) (hg : tgSl g ≠ [])
    (q : wpG G cl cm E g p ps h Qf) (k : ∀ ps' is xs, is = tgSl g → SR T m ps' (setV σ is xs) → Qf ps' h → Q (setV σ is xs) H) : tgL X.K g v σ H Q := by
  cases g with
  | name i => exact k _ [i] [v] rfl (hs.set rv i) q
  | names is =>
    obtain ⟨xs, e, hl, q⟩ := q
    obtain ⟨l, vs, rfl, hS, rs⟩ := seqOf_ok ok hr rv e
    exact ⟨l, vs, rfl, by rw [hK]; exact hS, by rw [← rs.length]; exact hl, k _ is vs rfl (SR.setAll rs hs) q⟩
  | _ => exact absurd rfl hg
theorem wipe_set {i : Nat} {x : Option V} : ∀ {vs : List Nat} {σ : L2.St}, i ∈ vs → L2.wipe (σ.set i x) vs = L2.wipe σ vs
  | [], _, h => by cases h
  | v :: vs, σ, h => by
    show (L2.wipe (σ.set i x) vs).set v none = (L2.wipe σ vs).set v none
    by_cases hi : i ∈ vs
    · rw [wipe_set hi]
    · have e : i = v := by rcases List.mem_cons.mp h with e | e; exact e; exact absurd e hi
      subst e
      have out : ∀ {vs : List Nat} {σ : L2.St}, i ∉ vs → L2.wipe (σ.set i x) vs = (L2.wipe σ vs).set i x := by
        intro vs
        induction vs with
        | nil => intro σ _; rfl
        | cons w vs ih =>
          intro σ hn
          have h1 : i ≠ w := fun z => hn (by rw [z]; exact List.mem_cons_self)
          have h2 : i ∉ vs := fun z => hn (List.mem_cons_of_mem _ z)
          show (L2.wipe (σ.set i x) vs).set w none = ((L2.wipe σ vs).set w none).set i x
          rw [ih h2, List.set_comm _ _ h1]
      rw [out hi, List.set_set]
theorem wipe_setV {vs : List Nat} : ∀ {is : List Nat} {xs : List V} {σ : L2.St}, (∀ i ∈ is, i ∈ vs) → L2.wipe (setV σ is xs) vs = L2.wipe σ vs
  | [], _, _, _ => rfl
  | _ :: _, [], _, _ => rfl
  | i :: is, x :: xs, σ, h => by
    show L2.wipe (setV (σ.set i (some x)) is xs) vs = _
    rw [wipe_setV fun j hj => h j (List.mem_cons_of_mem _ hj), wipe_set (h i List.mem_cons_self)]
theorem wipe_wipe (σ : L2.St) : ∀ vs : List Nat, L2.wipe (L2.wipe σ vs) vs = L2.wipe σ vs := by
  have key : ∀ (us vs : List Nat) (σ : L2.St), (∀ i ∈ us, i ∈ vs) → L2.wipe (L2.wipe σ us) vs = L2.wipe σ vs := by
    intro us
    induction us with
    | nil => intro vs σ _; rfl
    | cons u us ih =>
      intro vs σ h
      show L2.wipe ((L2.wipe σ us).set u none) vs = _
      rw [wipe_set (h u List.mem_cons_self)]
      exact ih vs σ fun i hi => h i (List.mem_cons_of_mem _ hi)
  exact fun vs => key vs vs σ fun _ h => h
def tE0 (T : Tab) (f : FE) : TE := fun σ H Q => ∃ m ps h Qf, SR T m ps σ ∧ HR T m h H ∧ KQ T m Qf Q ∧ f (fun _ _ => False) ps h Qf
def tT0 (T : Tab) (f : FT) : TT := fun σ H Q => ∃ m ps h Qf, SR T m ps σ ∧ HR T m h H ∧ KT T m Qf Q ∧ f (fun _ _ => False) ps h Qf
theorem sE0 {e : Expr} {f : FE} (he : PE X e (tE T X f)) : PE X e (tE0 T f) := pe_imp he fun σ H Q ⟨m, ps, h, Qf, hs, hr, k, q⟩ => ⟨m, ps, h, Qf, _, hs, hr, k, TkE.none, q⟩
theorem sT0 {e : Expr} {f : FT} (he : PT X e (tT T X f)) : PT X e (tT0 T f) := pt_imp he fun σ H Q ⟨m, ps, h, Qf, hs, hr, k, q⟩ => ⟨m, ps, h, Qf, _, hs, hr, k, TkE.none, q⟩
abbrev wTs (G : Pg) (cl cm : CSem) (it : List IT) : FT := fun E => wpTs G cl cm E it
/-- the reading of a comprehension -/
theorem lc_ok (hK : X.K = T.K) (ok : KOk T G) {fi : II} {g : IG} {ft : List IT} {fe : IE} {own : List Nat} (hg : tgSl g ≠ []) (ho : ∀ i ∈ tgSl g, i ∈ own) {σ : L2.St} {H : Hp} {Q : VK} (hh : tE T X (wE G cl cm (.comp fe g fi ft own)) σ H Q) :
    tLc (tI T X (wI G cl cm fi)) (tgL X.K g) (tT0 T (wTs G cl cm ft)) (tE0 T (wE G cl cm fe)) own σ H Q := by
  obtain ⟨m, ps, h, Qf, Ef, hs, hr, k, tk, q⟩ := hh
  refine ⟨m, ps, h, _, _, hs, hr, fun m1 h1 W J H1 a1 r1 wk q1 D hD => ?_, tk, q⟩
  let L : List Item → PH → Prop := wpLc (wpG G cl cm (fun _ _ => False) g) (wpTs G cl cm (fun _ _ => False) ft) (wpE G cl cm (fun _ _ => False) fe) (wipeP ps own) h1.length Qf W.chk
  have q1 : L W.its (h1 ++ [.lst []]) := q1
  have r2 : HR T (m1 ++ [D]) (h1 ++ [.lst []]) (upd H1 D (.lst [])) := r1.new hD ⟨[], upd_same, .nil⟩ rfl
  have dD : (m1 ++ [D])[h1.length]? = some D := by rw [← r1.len, List.getElem?_append_right (Nat.le_refl _), Nat.sub_self]; rfl
  have a1D : m <+: m1 ++ [D] := pre_trans a1 ext_snoc
  refine ⟨fun i n H => n = W.its.length - i ∧ i ≤ W.its.length ∧ ∃ m' h, (m1 ++ [D]) <+: m' ∧ HR T m' h H ∧ L (W.its.drop i) h, ⟨W.its.length, by simp, Nat.zero_le _, _, _, pre_refl, r2, q1⟩, ?_⟩
  rintro i n H2 ⟨rfl, hi, m2, h2, a2, r2, q2⟩
  have a12 : m <+: m2 := pre_trans a1D a2
  have a2' : m1 <+: m2 := pre_trans ext_snoc a2
  cases hd : W.its.drop i with
  | nil =>
    rw [hd] at q2
    have hl : W.its.length ≤ i := by
      have := congrArg List.length hd
      rw [List.length_drop] at this
      simp at this
      omega
    have q2 : W.chk h2 ∧ Qf (.loc h1.length) h2 := q2
    exact .inl ⟨wk.stop m2 h2 H2 i a2' r2 q2.1 hl, k m2 h2 (.loc h1.length) _ H2 a12 r2 ⟨D, get_ext a2 dD, rfl⟩ q2.2⟩
  | cons x r =>
    obtain ⟨e1, e2⟩ := drop_at hd
    rw [hd] at q2
    have q2 : W.chk h2 ∧ wpG G cl cm (fun _ _ => False) g (x.v h2) (wipeP ps own) (x.h h2) fun σ2 h2 => wpTs G cl cm (fun _ _ => False) ft σ2 h2 fun b h3 =>
      if b = true then wpE G cl cm (fun _ _ => False) fe σ2 h3 fun y h4 => ∃ acc, h4[h1.length]? = some (.lst acc) ∧ acc.length < sizeLine ∧ L r (h4.set h1.length (.lst (acc ++ [y]))) else L r h3 := q2
    obtain ⟨go, yl⟩ := wk.go m2 h2 H2 i x a2' r2 q2.1 e1
    have lt := get_len e1
    refine .inr ⟨go, fun H' => ∃ m' h, (m1 ++ [D]) <+: m' ∧ HR T m' h H' ∧ L r h, fun H' ⟨m3, h3, a3, r3, q3⟩ => ⟨W.its.length - (i + 1), by omega, rfl, lt, m3, h3, a3, r3, by rw [e2]; exact q3⟩, fun v H3 hy3 => ?_⟩
    obtain ⟨m3, a3, r3, rv⟩ := yl v H3 hy3
    have a13 := pre_trans a12 a3
    refine tgl_ok hK ok ((hs.ext a13).wipe own) r3 rv hg q2.2 fun ps4 is xs his s4 q4 => ⟨?_, ?_⟩
    · rw [wipe_setV (by rw [his]; exact ho), wipe_wipe]
    · refine ⟨m3, ps4, _, _, s4, r3, fun m5 h5 b H5 a5 r5 q5 => ?_, q4⟩
      cases b with
      | true =>
        refine ⟨m5, ps4, h5, _, s4.ext a5, r5, fun m6 h6 y u H6 a6 r6 ry q6 => ?_, q5⟩
        obtain ⟨acc, ha, hz, q6⟩ := q6
        have a26 := pre_trans a2 (pre_trans a3 (pre_trans a5 a6))
        obtain ⟨a', vs, m7, e7, rs⟩ := r6.lst ha
        have e8 := get_ext a26 dD
        rw [m7] at e8; cases e8
        refine ⟨vs, e7, by rw [← rs.length]; exact hz, m6, _, a26, r6.putL m7 ha e7 (rs.append (.cons ry .nil)), q6⟩
      | false => exact ⟨m5, h5, pre_trans a2 (pre_trans a3 a5), r5, q5⟩
end
end Fw
set_option Elab.async false
set_option linter.all false
set_option maxRecDepth 100000
set_option maxHeartbeats 1000000
/-! Fw9: from the program's syntax to the small language, and why that is right. -/
namespace Fw
open PySem PySem.Spec PyProof.Rows L2

/-! ### shapes -/
def isStar : Expr → Bool
  | .Starred _ _ => true
  | _ => false
def isComp : Expr → Bool
  | .ListComp _ _ _ _ | .SetComp _ _ _ _ | .DictComp _ _ _ _ _ => true
  | _ => false
def isSlice : Expr → Bool
  | .Slice _ _ _ _ => true
  | _ => false
def isSetE : Expr → Bool
  | .Set _ _ _ => true
  | _ => false
def isTupE : Expr → Bool
  | .Tuple _ _ _ | .List _ _ => true
  | _ => false
/-- a call without arguments of a name: it might be super() -/
def isBare : Expr → Bool
  | .Call (.Name _ _) [] [] _ => true
  | _ => false
def isTest : Expr → Bool
  | .UnaryOp .Not _ _ | .BoolOp _ _ _ | .IfExp _ _ _ _ | .Compare _ _ _ _ => true
  | _ => false
section
variable {env : Env} {e : Expr}
theorem star_cons {es : List Expr} (h : isStar e = false) : starEach (e :: es) env = (false, eval e env) :: starEach es env := by
  cases e <;> first | rfl | (cases h; done)
theorem star_any {pos : Pos} : ∀ {es : List Expr}, es.all (fun e => !isStar e) = true → (backTo pos (starEach es env)).any (·.1) = false
  | [], _ => rfl
  | e :: es, h => by
    rw [List.all_cons, Bool.and_eq_true] at h
    have h1 : isStar e = false := by simpa using h.1
    rw [star_cons h1]
    show (false || (backTo pos (starEach es env)).any (·.1)) = false
    rw [star_any h.2]; rfl
theorem star_all {pos : Pos} : ∀ {es : List Expr}, es.all (fun e => !isStar e) = true → (backTo pos (starEach es env)).all (fun x => !x.1) = true
  | [], _ => rfl
  | e :: es, h => by
    rw [List.all_cons, Bool.and_eq_true] at h
    have h1 : isStar e = false := by simpa using h.1
    rw [star_cons h1]
    show (!false && (backTo pos (starEach es env)).all (fun x => !x.1)) = true
    rw [star_all h.2]; rfl
theorem few {pos : Pos} {es : List Expr} (h : es.all (fun e => !isStar e) = true) (hl : es.length < 30) :
    ((backTo pos (starEach es env)).all (fun x => !x.1) && (backToKw pos (keywordEach [] env)).all (fun x => x.1.isSome) && decide (es.length + ([] : List Keyword).length + (if ([] : List Keyword).isEmpty then 0 else 1) < 30)) = true := by
  rw [star_all h]
  have : es.length + ([] : List Keyword).length + (if ([] : List Keyword).isEmpty then 0 else 1) < 30 := by simpa using hl
  rw [decide_eq_true this]
  rfl
theorem base_ok {f : Str} (h : isBare e = false) : attributeBase e f env (eval e env) = eval e env := by
  cases e with
  | Call g as ks pos =>
    cases g with
    | Name i p =>
      cases as with
      | nil =>
        cases ks with
        | nil => cases h
        | cons _ _ => rfl
      | cons _ _ => rfl
    | _ => rfl
  | _ => rfl
theorem test_ok (h : isTest e = false) : ∀ whole, isTrue e env whole = (do let v ← whole; standAt e.pos; holding [v] (truthy v)) := by
  cases e with
  | UnaryOp op x pos => cases op <;> first | (intro _; rfl) | (cases h; done)
  | BoolOp _ _ _ => cases h
  | IfExp _ _ _ _ => cases h
  | Compare _ _ _ _ => cases h
  | _ => intro _; rfl
theorem plain_ok (h : isSlice e = false) : PlainIx e := by
  intro o i
  cases e <;> first | rfl | (cases h; done)
theorem set_free (h : isSetE e = false) : ∀ x, foldedSetIterable e env x = pure x := by
  intro x
  cases e <;> first | rfl | (cases h; done)
theorem mark_free {op : CmpOp} (h : isSetE e = false) : behindInMarks op e = false := by
  cases e <;> first | rfl | (cases h; done)
theorem swap_free {t : Option Expr} {l : Nat} (h : isComp e = false) : swapsWith e t l env = pure false := by
  cases e <;> first | rfl | (cases h; done)
theorem sole_free {t : Expr} {l : Nat} (h : isComp e = false) : swapsWithSole [t] e l env = pure false := swap_free h
theorem stores_free {t : Expr} (h : isTupE t = false ∨ isTupE e = false) : swappedStores [t] e env = pure none := by
  cases t <;> first | rfl | skip
  all_goals cases e <;> first | rfl | (rcases h with h | h <;> cases h; done)
theorem asg_one {t : Expr} (h : isStar t = false) : (assignEach [t] env).map (·.2) = [assign t env] := by
  cases t <;> first | rfl | (cases h; done)
theorem sub_ok {a b : Expr} {pos : Pos} (h : isSlice b = false) : ∀ v, assign (.Subscript a b pos) env v = (do
      let ov ← holding [v] (eval a env)
      let iv ← holding [v, ov] (eval b env)
      standAt pos
      holding [v, ov, iv] (setItem ov iv v)
      release [v, ov, iv] []) := by
  intro v
  cases b <;> first | rfl | (cases h; done)
theorem aug_free (h : isSlice e = false) : ∀ ov iv new, augStore e ov iv new = (do holding [new, ov, iv] (setItem ov iv new); release [new, ov, iv] []; pure .next) := by
  intro ov iv new
  cases e <;> first | rfl | (cases h; done)
end

/-! ### the compiler -/
/-- what the module's top says: defs with the count of their parameters, constants, names that are built-in -/
structure PEnv where
  fs : List (Str × Nat)
  ks : List (Str × PV)
  blt : List Str
/-- a def's names -/
structure LEnv where
  N : List Str
  sc : Scope
  fnB : Str → Bool
def LEnv.slot (L : LEnv) (x : Str) : Option Nat := L.N.findIdx? (· == x)
def visB (sc : Scope) (x : Str) : Bool := match sc.names.lookup x with
  | some .local | some .cell | some .free => true
  | _ => false
def locB (sc : Scope) (x : Str) : Bool := match sc.names.lookup x with
  | some .local | some .cell => true
  | _ => false
def glB (sc : Scope) (x : Str) : Bool := match sc.names.lookup x with
  | some .globalImplicit => true
  | _ => false
def plainName (x : Str) : Bool := !(x == ("__debug__" : Str)) && !(x == ("__classdict__" : Str)) && !(x == ("__name__" : Str))
def fnTab : List (Str × Prm) := [("len", .len), ("isinstance", .isi), ("min", .min), ("sum", .sum)]
def tyTab : List (Str × Prm) := [("int", .int), ("str", .str), ("tuple", .tuple), ("list", .list)]
def tyNames : List (Str × String) := [("int", "int"), ("str", "str"), ("tuple", "tuple"), ("list", "list"), ("bool", "bool")]
def mtTab : List (Str × Prm) := [("append", .append), ("pop", .pop), ("reverse", .reverse)]
def opt2 {α β γ : Type} (a : Option α) (b : Option β) (f : α → β → γ) : Option γ := match a, b with
  | some x, some y => some (f x y)
  | _, _ => none
def opt3 {α β γ δ : Type} (a : Option α) (b : Option β) (c : Option γ) (f : α → β → γ → δ) : Option δ := match a, b, c with
  | some x, some y, some z => some (f x y z)
  | _, _, _ => none
def isLocal (sc : Scope) (x : Str) : Bool := match sc.names.lookup x with
  | some .local => true
  | _ => false
structure Cs where
  E : LEnv → Expr → Option IE
  T : LEnv → Expr → Option IT
  I : LEnv → Expr → Expr → Option II
def Cs.As (c : Cs) (L : LEnv) (es : List Expr) : Option (List IE) := if es.all (fun e => !isStar e) then es.mapM (c.E L) else none
def compNm (L : LEnv) (x : Str) : Option Nat := match L.slot x with
  | some i => if locB L.sc x && (L.fnB x || isLocal L.sc x) then some i else none
  | none => none
def compNms (L : LEnv) : List Expr → Option (List Nat)
  | [] => some []
  | .Name x _ :: r => opt2 (compNm L x) (compNms L r) List.cons
  | _ :: _ => none
/-- a target of names -/
def compTg (L : LEnv) : Expr → Option IG
  | .Name x _ => (compNm L x).map .name
  | .Tuple es _ _ => (compNms L es).map .names
  | _ => none
/-- the names of a comprehension's block -/
def ownOf (N : List Str) (sc : Scope) : List (Str × Nat) := sc.names.filterMap fun y => match y.2 with
  | .local | .cell => (N.findIdx? (· == y.1)).map fun i => (y.1, i)
  | _ => none
def blkL (L : LEnv) (sc : Scope) : LEnv := ⟨L.N, relS sc L.sc, fun x => sc.names.lookup x == some .cell⟩
def compCall (P : PEnv) (c : Cs) (L : LEnv) (f : Expr) (as : List Expr) (kws : List Keyword) (pos : Pos) : Option IE := match f, kws with
  | .Name x _, [] =>
    if plainName x && glB L.sc x then
      match P.fs.findIdx? (fun y => y.1 == x) with
      | some i => (c.As L as).map (.call i)
      | none => if P.blt.contains x then
          match as with
          | [] => none
          | _ :: r => match fnTab.lookup x, tyTab.lookup x with
            | some p, _ => (c.As L as).map (.prm p)
            | none, some p => (c.As L as).map (.prm p)
            | none, none => if x == ("max" : Str) then (match r with
                | [] => (c.As L as).map (.prm .maxl)
                | _ :: _ => (c.As L as).map (.prm .max)) else none
        else none
    else none
  | .Attribute o m apos, [] =>
    if !isBare o && apos.endLine == pos.line && decide (as.length < 30) then
      match mtTab.lookup m with
      | some p => opt2 (c.E L o) (c.As L as) (.mtd p)
      | none => none
    else none
  | _, _ => none
def compIfs (c : Cs) (L : LEnv) : List Expr → Option (List IT)
  | [] => some []
  | [t] => (c.T L t).map fun t => [t]
  | _ => none
def compLc (c : Cs) (L : LEnv) (el : Expr) (gs : List Comprehension) (sc : Scope) : Option IE := match gs with
  | [⟨tg, it, ifs, 0⟩] =>
    let L' := blkL L sc
    let own := ownOf L.N sc
    if blkC L.N L.sc sc own && !isSetE it then
      match compTg L' tg with
      | some g => if (tgSl g).all (fun k => (own.map (·.2)).contains k) && !(tgSl g).isEmpty then opt3 (c.E L' el) (c.I L tg it) (compIfs c L' ifs) fun e i ts => .comp e g i ts (own.map (·.2)) else none
      | none => none
    else none
  | _ => none
def compB (c : Cs) (L : LEnv) (op : BoolOp) (vs : List Expr) (pos : Pos) : Option IE := match vs with
  | [a] => c.E L a
  | a :: b :: r => opt2 (c.E L a) (c.E L (.BoolOp op (b :: r) pos)) (match op with | .And => .and | .Or => .or)
  | [] => none
def compO (c : Cs) (L : LEnv) : Option Expr → Option (Option IE)
  | none => some none
  | some e => (c.E L e).map some
def stepE (P : PEnv) (c : Cs) (L : LEnv) (e : Expr) : Option IE := match e with
  | .Constant (.int i) _ _ => some (.cst (.int i))
  | .Constant (.bool b) _ _ => some (.cst (.bl b))
  | .Constant .none _ _ => some (.cst .non)
  | .Constant (.str x) _ _ => some (.cst (.str x.cps.toList))
  | .Name x _ =>
    if plainName x then
      match L.slot x with
      | some i => if visB L.sc x then some (.var i) else none
      | none => if glB L.sc x then
          match P.ks.lookup x with
          | some p => some (.cst p)
          | none => if P.blt.contains x then (tyNames.lookup x).map fun t => .cst (.ty t) else none
        else none
    else none
  | .BinOp a op b _ => opt2 (c.E L a) (c.E L b) (.bin op)
  | .UnaryOp .Not a _ => (c.E L a).map .not
  | .UnaryOp .USub a _ => (c.E L a).map .neg
  | .BoolOp op vs pos => compB c L op vs pos
  | .Compare a [op] [b] _ => if isSetE b then none else opt2 (c.E L a) (c.E L b) (.cmp op)
  | .Subscript a (.Slice lo hi none _) _ => opt3 (c.E L a) (compO c L lo) (compO c L hi) .slc
  | .Subscript a i _ => if isSlice i then none else opt2 (c.E L a) (c.E L i) .idx
  | .List es _ => (c.As L es).map .lst
  | .Tuple es _ _ => (c.As L es).map .tup
  | .ListComp el gs sc _ => compLc c L el gs sc
  | .Call f as kws pos => compCall P c L f as kws pos
  | _ => none
def compTB (c : Cs) (L : LEnv) (op : BoolOp) (vs : List Expr) (pos : Pos) : Option IT := match vs with
  | [a] => c.T L a
  | a :: b :: r => opt2 (c.T L a) (c.T L (.BoolOp op (b :: r) pos)) (match op with | .And => .and | .Or => .or)
  | [] => none
def stepT (c : Cs) (L : LEnv) (e : Expr) : Option IT := match e with
  | .UnaryOp .Not a _ => (c.T L a).map .not
  | .BoolOp op vs pos => compTB c L op vs pos
  | .Compare a [op] [b] _ => if isSetE b then none else opt2 (c.E L a) (c.E L b) fun x y => .tru (.cmp op x y)
  | e => if isTest e then none else (c.E L e).map .tru
def stepI (P : PEnv) (c : Cs) (L : LEnv) (tg e : Expr) : Option II := match e with
  | .Call (.Name x _) as [] _ =>
    if glB L.sc x && P.blt.contains x && as.all (fun e => !isStar e) then
      if x == ("range" : Str) then match as with
        | [a] => (c.E L a).map .rng1
        | [a, b] => opt2 (c.E L a) (c.E L b) .rng2
        | [a, b, d] => opt3 (c.E L a) (c.E L b) (c.E L d) .rng3
        | _ => none
      else if x == ("enumerate" : Str) then match tg, as with
        | .Tuple _ _ _, [a] => (c.E L a).map .enum
        | _, _ => none
      else if x == ("zip" : Str) then match tg, as with
        | .Tuple _ _ _, [a, b] => opt2 (c.E L a) (c.E L b) .zip
        | _, _ => none
      else if x == ("reversed" : Str) then match as with
        | [a] => (c.E L a).map .rev
        | _ => none
      else (c.E L e).map .seq
    else (c.E L e).map .seq
  | e => (c.E L e).map .seq
def comp (P : PEnv) : Nat → Cs
  | 0 => ⟨fun _ _ => none, fun _ _ => none, fun _ _ _ => none⟩
  | k + 1 => ⟨stepE P (comp P k), stepT (comp P k), stepI P (comp P k)⟩
/-- a target of an assignment -/
def compG (c : Cs) (L : LEnv) (tg : Expr) : Option IG := match tg with
  | .Subscript o i _ => if isSlice i then none else opt2 (c.E L o) (c.E L i) .sub
  | t => compTg L t
/-- whether the store is done within the comprehension -/
def swB (L : LEnv) (tg e : Expr) (pos : Pos) : Bool := match tg, e with
  | .Name y py, .ListComp _ _ sc p => isLocal L.sc y && py.line == p.line && !(sc.names.any fun (n, k) => n == y && (k == .local || k == .cell))
  | _, _ => false
def stepS (c : Cs) (B : LEnv → List Stmt → Option (List IS)) (L : LEnv) (st : Stmt) : Option IS := match st with
  | .Return (some e) _ => (c.E L e).map .ret
  | .Return none _ => some (.ret (.cst .non))
  | .Pass _ => some .skip
  | .Break _ => some .brk
  | .Continue _ => some .cont
  | .Expr e _ => if isComp e then none else (c.E L e).map .exp
  | .If t a b _ => opt3 (c.T L t) (B L a) (B L b) .ite
  | .While t b [] _ => opt2 (c.T L t) (B L b) .whl
  | .For tg it b [] _ => if isSetE it then none else opt3 (compTg L tg) (c.I L tg it) (B L b) .for_
  | .Assign [tg] e pos => if isStar tg || (isTupE tg && isTupE e) then none else opt2 (compG c L tg) (c.E L e) .asg
  | .AugAssign (.Subscript a b _) op e _ => if isSlice b then none else opt3 (c.E L a) (c.E L b) (c.E L e) fun x y z => .augS x y op z
  | .AugAssign (.Name x _) op e _ => opt2 (compNm L x) (c.E L e) fun i y => .aug i op y
  | _ => none
def compB2 (f : LEnv → Stmt → Option IS) (L : LEnv) (b : List Stmt) : Option (List IS) := b.mapM (f L)
def compS (c : Cs) : Nat → LEnv → Stmt → Option IS
  | 0 => fun _ _ => none
  | k + 1 => stepS c (compB2 (compS c k))
end Fw
set_option Elab.async false
set_option linter.all false
set_option maxRecDepth 100000
set_option maxHeartbeats 2000000
/-! Fw10: the compiler is right. -/
namespace Fw
open PySem PySem.Spec PyProof.Rows L2

structure GoodX (P : PEnv) (T : Tab) (G : Pg) (cl cm : CSem) (lv : Nat) (X : Cx) (L : LEnv) : Prop where
  hK : X.K = T.K
  ok : KOk T G
  calm : X.calm = true
  nd : X.N.Nodup
  room : Room lv X.A
  po : PassesOwn (model X.prog X.w) X.A X.env X.xe
  hN : X.N = L.N
  sc : X.env.scope = L.sc
  fn : ∀ x, L.fnB x = true → X.fn x = true
  kind : L.sc.kind = .function
  fs : ∀ (i : Nat) (x : Str) (np : Nat), P.fs[i]? = some (x, np) → FOk X T lv x np (cl i) ∧ lenF np (cl i)
  ks : ∀ (x : Str) (p : PV), P.ks.lookup x = some p → ∃ u v, X.mg x = some u ∧ RelV v u ∧ ∀ m, RV T m p v
  blt : ∀ x, P.blt.contains x = true → X.mg x = none
section
variable {P : PEnv} {T : Tab} {G : Pg} {cl cm : CSem} {lv : Nat}
structure Snd (P : PEnv) (T : Tab) (G : Pg) (cl cm : CSem) (lv : Nat) (c : Cs) : Prop where
  sE : ∀ {X : Cx} {L : LEnv} {e : Expr} {ie : IE}, GoodX P T G cl cm lv X L → c.E L e = some ie → PE X e (tE T X (wE G cl cm ie))
  sT : ∀ {X : Cx} {L : LEnv} {e : Expr} {it : IT}, GoodX P T G cl cm lv X L → c.T L e = some it → PT X e (tT T X (wT G cl cm it))
  sI : ∀ {X : Cx} {L : LEnv} {tg e : Expr} {ii : II}, GoodX P T G cl cm lv X L → c.I L tg e = some ii → PI X tg e (tI T X (wI G cl cm ii))
variable {c : Cs} {X : Cx} {L : LEnv}
theorem GoodX.hu (g : GoodX P T G cl cm lv X L) : X.A.units + 64 < cLine := g.room.units
theorem GoodX.gl (g : GoodX P T G cl cm lv X L) {x : Str} (h : glB L.sc x = true) : Gl X x := by
  unfold glB at h
  show X.env.scope.names.lookup x = some .globalImplicit
  rw [g.sc]
  split at h
  · rename_i e; exact e
  · cases h
theorem GoodX.vis (g : GoodX P T G cl cm lv X L) {x : Str} (h : visB L.sc x = true) : Vis X.env.scope x := by
  unfold visB at h
  unfold Vis
  rw [g.sc]
  split at h
  · rename_i e; exact .inl e
  · rename_i e; exact .inr (.inl e)
  · rename_i e; exact .inr (.inr e)
  · cases h
theorem find_some {α : Type} {p : α → Bool} {l : List α} {i : Nat} (h : l.findIdx? p = some i) : ∃ a, l[i]? = some a ∧ p a = true := by
  rw [List.findIdx?_eq_some_iff_getElem] at h
  obtain ⟨hi, hp, _⟩ := h
  exact ⟨l[i], List.getElem?_eq_getElem hi, hp⟩
theorem GoodX.slot (g : GoodX P T G cl cm lv X L) {x : Str} {i : Nat} (h : L.slot x = some i) : X.N[i]? = some x := by
  obtain ⟨y, h1, h2⟩ := find_some h
  rw [g.hN, h1, beq_iff_eq.mp h2]
theorem loc_of {sc : Scope} {x : Str} (z : isLocal sc x = true) : sc.names.lookup x = some .local := by
  unfold isLocal at z
  split at z
  · rename_i e; exact e
  · cases z
theorem GoodX.nm (g : GoodX P T G cl cm lv X L) {x : Str} {i : Nat} (h : compNm L x = some i) : NmOk X i x := by
  unfold compNm at h
  split at h
  · rename_i j hj
    split at h
    · rename_i hb
      cases h
      rw [Bool.and_eq_true] at hb
      refine ⟨g.slot hj, ?_, ?_⟩
      · have := hb.1
        unfold locB at this
        unfold L2.Loc
        rw [g.sc]
        split at this
        · rename_i e; exact .inl e
        · rename_i e; exact .inr e
        · cases this
      · have := hb.2
        rw [Bool.or_eq_true] at this
        rcases this with z | z
        · exact .inl (g.fn x z)
        · refine .inr ?_
          rw [g.sc]
          exact loc_of z
    · cases h
  · cases h
theorem opt2_some' {α β γ : Type} {a : Option α} {b : Option β} {f : α → β → γ} {r : γ} (h : opt2 a b f = some r) : ∃ x y, a = some x ∧ b = some y ∧ f x y = r := by
  cases a with
  | none => cases h
  | some x => cases b with
    | none => cases h
    | some y => cases h; exact ⟨x, y, rfl, rfl, rfl⟩
theorem GoodX.nms (g : GoodX P T G cl cm lv X L) : ∀ {es : List Expr} {is : List Nat}, compNms L es = some is → NmsOk X is es
  | [], is, h => by cases h; exact .nil
  | e :: es, is, h => by
    unfold compNms at h
    split at h
    · rename_i h0; cases h0
    · rename_i x p r h0
      cases h0
      obtain ⟨i, is', h1, h2, rfl⟩ := opt2_some' h
      exact .cons (g.nm h1) (GoodX.nms g h2)
    · cases h
theorem GoodX.tg (g : GoodX P T G cl cm lv X L) {tg : Expr} {ig : IG} (h : compTg L tg = some ig) : PG X tg (tG T X (wG G cl cm ig)) := by
  unfold compTg at h
  split at h
  · rename_i x p
    cases q : compNm L x with
    | none => rw [q] at h; cases h
    | some i =>
      rw [q] at h; cases h
      have n := g.nm q
      exact sG_name g.nd n.hi n.hx n.hf
  · rename_i es k p
    cases q : compNms L es with
    | none => rw [q] at h; cases h
    | some is =>
      rw [q] at h; cases h
      exact sG_names g.hK g.ok g.calm g.nd (g.nms q)
  · cases h
/-- the same over the hand layer's slots -/
theorem GoodX.tgl (g : GoodX P T G cl cm lv X L) {tg : Expr} {ig : IG} (h : compTg L tg = some ig) : PG X tg (tgL X.K ig) := by
  unfold compTg at h
  split at h
  · rename_i x p
    cases q : compNm L x with
    | none => rw [q] at h; cases h
    | some i =>
      rw [q] at h; cases h
      have n := g.nm q
      exact pg_name g.nd n.hi n.hx n.hf
  · rename_i es k p
    cases q : compNms L es with
    | none => rw [q] at h; cases h
    | some is =>
      rw [q] at h; cases h
      exact pg_names g.calm g.nd (g.nms q)
  · cases h
theorem map_some {α β : Type} {f : α → β} {o : Option α} {b : β} (h : o.map f = some b) : ∃ a, o = some a ∧ f a = b := Option.map_eq_some_iff.mp h
theorem opt2_some {α β γ : Type} {a : Option α} {b : Option β} {f : α → β → γ} {r : γ} (h : opt2 a b f = some r) : ∃ x y, a = some x ∧ b = some y ∧ f x y = r := by
  cases a with
  | none => cases h
  | some x => cases b with
    | none => cases h
    | some y => cases h; exact ⟨x, y, rfl, rfl, rfl⟩
theorem opt3_some {α β γ δ : Type} {a : Option α} {b : Option β} {c : Option γ} {f : α → β → γ → δ} {r : δ} (h : opt3 a b c f = some r) : ∃ x y z, a = some x ∧ b = some y ∧ c = some z ∧ f x y z = r := by
  cases a with
  | none => cases h
  | some x => cases b with
    | none => cases h
    | some y => cases c with
      | none => cases h
      | some z => cases h; exact ⟨x, y, z, rfl, rfl, rfl, rfl⟩
theorem As_ok (s : Snd P T G cl cm lv c) (g : GoodX P T G cl cm lv X L) : ∀ {es : List Expr} {fs : List IE}, c.As L es = some fs → es.all (fun e => !isStar e) = true ∧ PA X es (tA T X (wA G cl cm fs)) := by
  intro es fs h
  unfold Cs.As at h
  split at h
  · rename_i hs
    refine ⟨hs, ?_⟩
    induction es generalizing fs with
    | nil => simp at h; subst h; exact sA_nil
    | cons e es ih =>
      rw [List.mapM_cons] at h
      cases q : c.E L e with
      | none => rw [q] at h; cases h
      | some x =>
        rw [q] at h
        cases q2 : es.mapM (c.E L) with
        | none => rw [q2] at h; cases h
        | some xs =>
          rw [q2] at h; cases h
          rw [List.all_cons, Bool.and_eq_true] at hs
          exact sA_cons (s.sE g q) (ih hs.2 q2) (star_cons (by simpa using hs.1))
  · cases h
theorem boot_ty : ∀ x t, tyNames.lookup x = some t → bootBuiltins x = some (.type t) := by
  intro x t h
  unfold tyNames at h
  simp only [List.lookup] at h
  repeat' split at h
  all_goals first | (cases h; done) | skip
  all_goals (rename_i hx; have hx := beq_iff_eq.mp hx; subst hx; cases h; decide +kernel)
theorem plain_nm {x : Str} (h : plainName x = true) : (x == ("__debug__" : Str)) = false ∧ (x == ("__classdict__" : Str)) = false ∧ x ≠ "__name__" := by
  unfold plainName at h
  rw [Bool.and_eq_true, Bool.and_eq_true] at h
  refine ⟨by simpa using h.1.1, by simpa using h.1.2, ?_⟩
  have := h.2
  intro z
  subst z
  simp at this
theorem call_ok (s : Snd P T G cl cm lv c) (g : GoodX P T G cl cm lv X L) {f : Expr} {as : List Expr} {kws : List Keyword} {pos : Pos} {ie : IE} (h : compCall P c L f as kws pos = some ie) : PE X (.Call f as kws pos) (tE T X (wE G cl cm ie)) := by
  unfold compCall at h
  split at h
  · rename_i x p
    split at h
    · rename_i hp
      rw [Bool.and_eq_true] at hp
      obtain ⟨n1, n2, n3⟩ := plain_nm hp.1
      have hg := g.gl hp.2
      split at h
      · rename_i i hi
        obtain ⟨xs, e1, rfl⟩ := map_some h
        obtain ⟨⟨y, np⟩, h1, h2⟩ := find_some hi
        have h2 : y = x := beq_iff_eq.mp h2
        subst h2
        obtain ⟨F, hl⟩ := g.fs i y np h1
        obtain ⟨hs, ha⟩ := As_ok s g e1
        cases as with
        | nil =>
          have : xs = [] := by
            unfold Cs.As at e1
            simp at e1
            first | exact e1 | exact e1.symm
          subst this
          exact sE_call0 F hl g.room hg n1
        | cons a as =>
          rw [List.all_cons, Bool.and_eq_true] at hs
          exact sE_call F hl g.room hg ha n1 (star_cons (by simpa using hs.1)) (star_any hs.2)
      · split at h
        · rename_i hb
          have hm := g.blt x hb
          split at h
          · cases h
          · rename_i a r
            have goF : ∀ {id : String} {pr : Prm} {xs : List IE}, CallR X (.builtin id) (rPrm T (prmV G pr)) → bootBuiltins x = some (.builtin id) → c.As L (a :: r) = some xs → PE X (.Call (.Name x p) (a :: r) [] pos) (tE T X (wE G cl cm (.prm pr xs))) := fun {id pr xs} hc hv e1 => by
              obtain ⟨hs, ha⟩ := As_ok s g e1
              rw [List.all_cons, Bool.and_eq_true] at hs
              exact sE_prmB hc hg hm hv ha n3 n1 (star_cons (by simpa using hs.1)) (star_any hs.2)
            have goT : ∀ {id : String} {pr : Prm} {xs : List IE}, CallR X (.type id) (rPrm T (prmV G pr)) → bootBuiltins x = some (.type id) → c.As L (a :: r) = some xs → PE X (.Call (.Name x p) (a :: r) [] pos) (tE T X (wE G cl cm (.prm pr xs))) := fun {id pr xs} hc hv e1 => by
              obtain ⟨hs, ha⟩ := As_ok s g e1
              rw [List.all_cons, Bool.and_eq_true] at hs
              exact sE_prmT hc hg hm hv ha n3 n1 (star_cons (by simpa using hs.1)) (star_any hs.2)
            split at h
            · rename_i pr _ hf
              obtain ⟨xs, e1, rfl⟩ := map_some h
              unfold fnTab at hf
              simp only [List.lookup] at hf
              repeat' split at hf
              all_goals first | (cases hf; done) | skip
              all_goals (rename_i hx; have hx := beq_iff_eq.mp hx; subst hx; cases hf)
              · exact goF (len_ok g.hK g.ok) (by decide +kernel) e1
              · exact goF (isi_ok g.hK g.ok) (by decide +kernel) e1
              · exact goF (min_ok g.calm) (by decide +kernel) e1
              · exact goF (sum_ok g.calm g.hK g.ok) (by decide +kernel) e1
            · rename_i pr _ hf
              obtain ⟨xs, e1, rfl⟩ := map_some h
              unfold tyTab at hf
              simp only [List.lookup] at hf
              repeat' split at hf
              all_goals first | (cases hf; done) | skip
              all_goals (rename_i hx; have hx := beq_iff_eq.mp hx; subst hx; cases hf)
              · exact goT int_ok (by decide +kernel) e1
              · exact goT str_ok (by decide +kernel) e1
              · exact goT (tuple_ok g.hK g.ok) (by decide +kernel) e1
              · exact goT (list_ok g.hK g.ok) (by decide +kernel) e1
            · split at h
              · rename_i hx
                have hx := beq_iff_eq.mp hx
                subst hx
                split at h
                · obtain ⟨xs, e1, rfl⟩ := map_some h
                  exact goF (maxl_ok g.calm g.hK g.ok) (by decide +kernel) e1
                · obtain ⟨xs, e1, rfl⟩ := map_some h
                  exact goF (max_ok g.calm) (by decide +kernel) e1
              · cases h
        · cases h
    · cases h
  · rename_i o m apos
    split at h
    · rename_i hc
      rw [Bool.and_eq_true, Bool.and_eq_true] at hc
      have hb : isBare o = false := by simpa using hc.1.1
      have hl : as.length < 30 := of_decide_eq_true hc.2
      split at h
      · rename_i pr hf
        obtain ⟨x, xs, e1, e2, rfl⟩ := opt2_some h
        obtain ⟨hs, ha⟩ := As_ok s g e2
        have go : MOk X T G m pr → PE X (.Call (.Attribute o m apos) as [] pos) (tE T X (wE G cl cm (.mtd pr x xs))) := fun M => by
          cases as with
          | nil =>
            have : xs = [] := by
              unfold Cs.As at e2
              simp at e2
              first | exact e2 | exact e2.symm
            subst this
            exact sE_mtd0 M (s.sE g e1) (base_ok hb) hc.1.2
          | cons a as =>
            have hs' := hs
            rw [List.all_cons, Bool.and_eq_true] at hs'
            exact sE_mtd M (s.sE g e1) ha (base_ok hb) (few hs hl) hc.1.2 (star_cons (by simpa using hs'.1)) (star_any hs'.2)
        have lst : ∀ (pr : Prm), (∀ p h, mtyP G pr p h = (lstOf G h p).isSome) → (∃ id, Mth X m "list" id (rMt T (prmV G pr))) → MOk X T G m pr := fun pr hty ⟨id, M⟩ => by
          refine ⟨fun m1 h1 H1 p v hr rv ht => ⟨"list", id, M, ?_⟩⟩
          rw [hty] at ht
          obtain ⟨ys, hy⟩ := Option.isSome_iff_exists.mp ht
          obtain ⟨l, vs, rfl, hS, _⟩ := lstOf_ok g.ok hr rv hy
          exact .inl ⟨rfl, vs, by rw [g.hK]; exact hS⟩
        unfold mtTab at hf
        simp only [List.lookup] at hf
        repeat' split at hf
        all_goals first | (cases hf; done) | skip
        all_goals (rename_i hx; have hx := beq_iff_eq.mp hx; subst hx; cases hf)
        · exact go (lst _ (fun _ _ => rfl) ⟨_, PySem.F.plainAttrs_list, PySem.F.slot_list_append, PySem.F.type_list_append, append_ok⟩)
        · exact go (lst _ (fun _ _ => rfl) ⟨_, PySem.F.plainAttrs_list, PySem.F.slot_list_pop, PySem.F.type_list_pop, pop_ok⟩)
        · exact go (lst _ (fun _ _ => rfl) ⟨_, PySem.F.plainAttrs_list, PySem.F.slot_list_reverse, PySem.F.type_list_reverse, reverse_ok⟩)
      · cases h
    · cases h
  · cases h
theorem pe_eqE {e : Expr} {t u : TE} (h : PE X e t) (k : t = u) : PE X e u := k ▸ h
theorem ks_ok (g : GoodX P T G cl cm lv X L) {x : Str} {p : PV} {pos : Pos} (hp : plainName x = true) (hg : glB L.sc x = true) (h : P.ks.lookup x = some p) : PE X (.Name x pos) (tE T X (wE G cl cm (.cst p))) := by
  obtain ⟨u, v, hm, r, rm⟩ := g.ks x p h
  exact sE_cst (pe_glob (g.gl hg) hm r (plain_nm hp).1) rm
theorem tyName_ok (g : GoodX P T G cl cm lv X L) {x : Str} {t : String} {pos : Pos} (hp : plainName x = true) (hg : glB L.sc x = true) (hb : P.blt.contains x = true) (h : tyNames.lookup x = some t) : PE X (.Name x pos) (tE T X (wE G cl cm (.cst (.ty t)))) := by
  obtain ⟨n1, n2, n3⟩ := plain_nm hp
  exact sE_cst (pe_bltn (v := .ty t) (g.gl hg) (g.blt x hb) (boot_ty x t h) rfl n3 n1) fun m => rfl
/-- the context of a comprehension's block -/
theorem GoodX.blk (g : GoodX P T G cl cm lv X L) {sc : Scope} (hk : sc.kind = .function) (s : Shared) (H : Hp) (C : Addr) (cl' : List (Str × Addr)) (fp : List Addr) : GoodX P T G cl cm lv (X.blk s H sc (compEnvC sc cl' C X.env) fp) (blkL L sc) := by
  refine ⟨g.hK, g.ok, g.calm, g.nd, g.room, PassesOwn.never, g.hN, ?_, ?_, hk, fun i x np h => ⟨⟨(g.fs i x np h).1.ex⟩, (g.fs i x np h).2⟩, g.ks, g.blt⟩
  · show (compEnvC sc cl' C X.env).scope = relS sc L.sc
    rw [← g.sc]; rfl
  · intro x hx; exact hx
theorem compIfs_ok (s : Snd P T G cl cm lv c) {X' : Cx} {L' : LEnv} (g : GoodX P T G cl cm lv X' L') : ∀ {ifs : List Expr} {ts : List IT}, compIfs c L' ifs = some ts → PTs X' ifs (tT0 T (wTs G cl cm ts))
  | [], ts, h => by
    cases h
    exact ⟨fun pins s σ H Q I ⟨m, ps, h, Qf, hs, hr, k, q⟩ => pts_nil.run pins s σ H Q I (k m h true H pre_refl hr q)⟩
  | [t], ts, h => by
    obtain ⟨x, e, rfl⟩ := map_some h
    have := pts_one (sT0 (s.sT g e))
    exact ⟨fun pins s σ H Q I q => this.run pins s σ H Q I q⟩
  | _ :: _ :: _, ts, h => by cases h
theorem lc_good (s : Snd P T G cl cm lv c) (g : GoodX P T G cl cm lv X L) {el : Expr} {gs : List Comprehension} {sc : Scope} {pos : Pos} {ie : IE} (h : compLc c L el gs sc = some ie) :
    ∃ (tg it : Expr) (ifs : List Expr) (ig : IG) (e' : IE) (i' : II) (ts : List IT), gs = [⟨tg, it, ifs, 0⟩] ∧ ie = .comp e' ig i' ts ((ownOf L.N sc).map (·.2)) ∧ BlkOk X.N X.env.scope sc (ownOf L.N sc) ∧ isSetE it = false ∧ tgSl ig ≠ [] ∧ (∀ k ∈ tgSl ig, k ∈ (ownOf L.N sc).map (·.2)) ∧
      PI X tg it (tI T X (wI G cl cm i')) ∧ (∀ (s : Shared) (H : Hp) (C : Addr) (cl : List (Str × Addr)) (fp : List Addr), PG (X.blk s H sc (compEnvC sc cl C X.env) fp) tg (tgL X.K ig)) ∧
      (∀ (s : Shared) (H : Hp) (C : Addr) (cs : List (Str × Addr)) (fp : List Addr), PTs (X.blk s H sc (compEnvC sc cs C X.env) fp) ifs (tT0 T (wTs G cl cm ts))) ∧ ∀ (s : Shared) (H : Hp) (C : Addr) (cs : List (Str × Addr)) (fp : List Addr), PE (X.blk s H sc (compEnvC sc cs C X.env) fp) el (tE0 T (wE G cl cm e')) := by
  unfold compLc at h
  split at h
  · rename_i tg it ifs
    dsimp only at h
    split at h
    · rename_i hb
      rw [Bool.and_eq_true] at hb
      split at h
      · rename_i ig hig
        split at h
        · rename_i ht
          rw [Bool.and_eq_true] at ht
          obtain ⟨e', i', ts, h1, h2, h3, rfl⟩ := opt3_some h
          have bo : BlkOk X.N X.env.scope sc (ownOf L.N sc) := by rw [g.hN, g.sc]; exact blkOk_by hb.1
          refine ⟨tg, it, ifs, ig, e', i', ts, rfl, rfl, bo, by simpa using hb.2, ?_, ?_, s.sI g h2, ?_, ?_, ?_⟩
          · intro z; rw [z] at ht; simp at ht
          · intro k hk
            have := List.all_eq_true.mp ht.1 k hk
            simpa using this
          · intro s' H C cl' fp
            exact (g.blk bo.kind s' H C cl' fp).tgl hig
          · intro s' H C cl' fp
            exact compIfs_ok s (g.blk bo.kind s' H C cl' fp) h3
          · intro s' H C cl' fp
            exact sE0 (s.sE (g.blk bo.kind s' H C cl' fp) h1)
        · cases h
      · cases h
    · cases h
  · cases h
theorem sE_lc (s : Snd P T G cl cm lv c) (g : GoodX P T G cl cm lv X L) {el : Expr} {gs : List Comprehension} {sc : Scope} {pos : Pos} {ie : IE} (h : compLc c L el gs sc = some ie) : PE X (.ListComp el gs sc pos) (tE T X (wE G cl cm ie)) := by
  obtain ⟨tg, it, ifs, ig, e', i', ts, rfl, rfl, bo, hst, hg, ho, hi, pg, pt, pe⟩ := lc_good s g (pos := pos) h
  exact pe_imp (pe_lc g.calm g.nd hi bo pg pt pe (set_free hst)) fun σ H Q hh => lc_ok g.hK g.ok hg ho hh
theorem compO_ok (s : Snd P T G cl cm lv c) (g : GoodX P T G cl cm lv X L) {o : Option Expr} {r : Option IE} (h : compO c L o = some r) : L2.PO X o (tO T X (wO G cl cm r)) := by
  cases o with
  | none => cases h; exact sO_none
  | some e =>
    obtain ⟨x, e1, rfl⟩ := map_some h
    exact sO_some (s.sE g e1)
theorem ite_none {α : Type} {b : Bool} {o : Option α} {r : α} (h : (if b = true then none else o) = some r) : b = false ∧ o = some r := by
  cases b with
  | true => cases h
  | false => exact ⟨rfl, h⟩
theorem stepE_ok (s : Snd P T G cl cm lv c) (g : GoodX P T G cl cm lv X L) {e : Expr} {ie : IE} (h : stepE P c L e = some ie) : PE X e (tE T X (wE G cl cm ie)) := by
  unfold stepE at h
  split at h
  · cases h; exact sE_cst pe_int fun m => rfl
  · cases h; exact sE_cst pe_bl fun m => rfl
  · cases h; exact sE_cst pe_non fun m => rfl
  · cases h
    rename_i x _ _
    exact sE_cst pe_str fun m => by
      show V.str x = V.str (sOf x.cps.toList)
      unfold sOf; simp
  · rename_i x pos
    split at h
    · rename_i hp
      obtain ⟨n1, n2, n3⟩ := plain_nm hp
      split at h
      · rename_i i hi
        split at h
        · rename_i hv
          cases h
          exact sE_var (g.slot hi) (g.vis hv) n1 n2
        · cases h
      · split at h
        · rename_i hg
          split at h
          · rename_i p hk
            cases h
            exact ks_ok g hp hg hk
          · split at h
            · rename_i hb
              obtain ⟨t, e1, rfl⟩ := map_some h
              exact tyName_ok g hp hg hb e1
            · cases h
        · cases h
    · cases h
  · obtain ⟨x, y, h1, h2, rfl⟩ := opt2_some h
    exact sE_bin g.hK g.ok (s.sE g h1) (s.sE g h2)
  · obtain ⟨x, h1, rfl⟩ := map_some h
    exact sE_not g.hK g.ok (s.sE g h1)
  · obtain ⟨x, h1, rfl⟩ := map_some h
    exact sE_neg (s.sE g h1)
  · rename_i op vs pos
    unfold compB at h
    split at h
    · exact pe_one (s.sE g h)
    · obtain ⟨x, y, h1, h2, rfl⟩ := opt2_some h
      cases op with
      | And => exact sE_and g.hK g.ok (s.sE g h1) (s.sE g h2)
      | Or => exact sE_or g.hK g.ok (s.sE g h1) (s.sE g h2)
    · cases h
  · obtain ⟨hb, h⟩ := ite_none h
    obtain ⟨x, y, h1, h2, rfl⟩ := opt2_some h
    exact sE_cmp g.hK g.ok g.hu (s.sE g h1) (s.sE g h2) (mark_free hb)
  · obtain ⟨x, l, u, h1, h2, h3, rfl⟩ := opt3_some h
    exact sE_slc g.hK g.ok (s.sE g h1) (compO_ok s g h2) (compO_ok s g h3)
  · obtain ⟨hb, h⟩ := ite_none h
    obtain ⟨x, y, h1, h2, rfl⟩ := opt2_some h
    exact sE_idx g.hK g.ok (s.sE g h1) (s.sE g h2) (plain_ok hb)
  · obtain ⟨xs, h1, rfl⟩ := map_some h
    exact sE_lst (As_ok s g h1).2
  · obtain ⟨xs, h1, rfl⟩ := map_some h
    exact sE_tup (As_ok s g h1).2
  · exact sE_lc s g h
  · exact call_ok s g h
  · cases h
theorem pw_one (h : PT X e (tT T X (wT G cl cm it))) {op : BoolOp} {pos : Pos} : PW X (.BoolOp op [e] pos) (tT T X (wT G cl cm it)) := by
  cases op with
  | And => exact pw_and1 h
  | Or => exact pw_or1 h
theorem stepT_ok (s : Snd P T G cl cm lv c) (sw : ∀ {X : Cx} {L : LEnv} {op : BoolOp} {vs : List Expr} {pos : Pos} {it : IT}, GoodX P T G cl cm lv X L → c.T L (.BoolOp op vs pos) = some it → PW X (.BoolOp op vs pos) (tT T X (wT G cl cm it)))
    (g : GoodX P T G cl cm lv X L) {e : Expr} {it : IT} (h : stepT c L e = some it) : PT X e (tT T X (wT G cl cm it)) := by
  unfold stepT at h
  split at h
  · obtain ⟨x, h1, rfl⟩ := map_some h
    exact sT_not (s.sT g h1)
  · rename_i op vs pos
    unfold compTB at h
    split at h
    · exact (pw_one (s.sT g h)).pt
    · obtain ⟨x, y, h1, h2, rfl⟩ := opt2_some h
      cases op with
      | And => exact (sT_and (s.sT g h1) (sw g h2)).pt
      | Or => exact (sT_or (s.sT g h1) (sw g h2)).pt
    · cases h
  · obtain ⟨hb, h⟩ := ite_none h
    obtain ⟨x, y, h1, h2, rfl⟩ := opt2_some h
    exact sT_cmp g.hK g.ok g.hu (s.sE g h1) (s.sE g h2) (mark_free hb)
  · obtain ⟨hb, h⟩ := ite_none h
    obtain ⟨x, h1, rfl⟩ := map_some h
    exact sT_tru g.hK g.ok (s.sE g h1) (test_ok hb)
theorem stepW_ok (s : Snd P T G cl cm lv c) (sw : ∀ {X : Cx} {L : LEnv} {op : BoolOp} {vs : List Expr} {pos : Pos} {it : IT}, GoodX P T G cl cm lv X L → c.T L (.BoolOp op vs pos) = some it → PW X (.BoolOp op vs pos) (tT T X (wT G cl cm it)))
    (g : GoodX P T G cl cm lv X L) {op : BoolOp} {vs : List Expr} {pos : Pos} {it : IT} (h : stepT c L (.BoolOp op vs pos) = some it) : PW X (.BoolOp op vs pos) (tT T X (wT G cl cm it)) := by
  have h : compTB c L op vs pos = some it := h
  unfold compTB at h
  split at h
  · exact pw_one (s.sT g h)
  · obtain ⟨x, y, h1, h2, rfl⟩ := opt2_some h
    cases op with
    | And => exact sT_and (s.sT g h1) (sw g h2)
    | Or => exact sT_or (s.sT g h1) (sw g h2)
  · cases h
theorem arg1_ok (s : Snd P T G cl cm lv c) (g : GoodX P T G cl cm lv X L) {a : Expr} {x : IE} (h : c.E L a = some x) (hs : isStar a = false) : PA X [a] (tA T X (wA G cl cm [x])) := sA_cons (s.sE g h) sA_nil (star_cons hs)
theorem arg2_ok (s : Snd P T G cl cm lv c) (g : GoodX P T G cl cm lv X L) {a b : Expr} {x y : IE} (h : c.E L a = some x) (h' : c.E L b = some y) (hs : isStar a = false) (hs' : isStar b = false) : PA X [a, b] (tA T X (wA G cl cm [x, y])) := sA_cons (s.sE g h) (arg1_ok s g h' hs') (star_cons hs)
theorem arg3_ok (s : Snd P T G cl cm lv c) (g : GoodX P T G cl cm lv X L) {a b d : Expr} {x y z : IE} (h : c.E L a = some x) (h' : c.E L b = some y) (h'' : c.E L d = some z) (hs : isStar a = false) (hs' : isStar b = false) (hs'' : isStar d = false) : PA X [a, b, d] (tA T X (wA G cl cm [x, y, z])) := sA_cons (s.sE g h) (arg2_ok s g h' h'' hs' hs'') (star_cons hs)
theorem stepI_ok (s : Snd P T G cl cm lv c) (g : GoodX P T G cl cm lv X L) {tg e : Expr} {ii : II} (h : stepI P c L tg e = some ii) : PI X tg e (tI T X (wI G cl cm ii)) := by
  have seq : ∀ {e : Expr} {ii : II}, (c.E L e).map .seq = some ii → PI X tg e (tI T X (wI G cl cm ii)) := fun {e ii} h => by
    obtain ⟨x, h1, rfl⟩ := map_some h
    exact sI_seq g.hK g.ok (s.sE g h1)
  unfold stepI at h
  split at h
  · rename_i x p as pos
    split at h
    · rename_i hc
      rw [Bool.and_eq_true, Bool.and_eq_true] at hc
      have hg := g.gl hc.1.1
      have hm := g.blt x hc.1.2
      have hst := hc.2
      split at h
      · rename_i hx
        have hx := beq_iff_eq.mp hx
        subst hx
        split at h
        · rename_i a
          simp at hst
          obtain ⟨x, h1, rfl⟩ := map_some h
          exact sI_rng1 hg hm (arg1_ok s g h1 hst) (star_cons hst)
        · rename_i a b
          simp at hst
          obtain ⟨x, y, h1, h2, rfl⟩ := opt2_some h
          exact sI_rng2 hg hm (arg2_ok s g h1 h2 hst.1 hst.2) (by rw [star_cons hst.1, star_cons hst.2]; rfl) (star_cons hst.2)
        · rename_i a b d
          simp at hst
          obtain ⟨x, y, z, h1, h2, h3, rfl⟩ := opt3_some h
          exact sI_rng3 hg hm (arg3_ok s g h1 h2 h3 hst.1 hst.2.1 hst.2.2) (star_cons hst.1) (star_any (by simp [hst]))
        · cases h
      · split at h
        · rename_i hx
          have hx := beq_iff_eq.mp hx
          subst hx
          split at h
          · rename_i a
            simp at hst
            obtain ⟨x, h1, rfl⟩ := map_some h
            exact sI_enum g.hK g.ok hg hm (arg1_ok s g h1 hst) (star_cons hst)
          · cases h
        · split at h
          · rename_i hx
            have hx := beq_iff_eq.mp hx
            subst hx
            split at h
            · rename_i a b
              simp at hst
              obtain ⟨x, y, h1, h2, rfl⟩ := opt2_some h
              exact sI_zip g.hK g.ok hg hm (arg2_ok s g h1 h2 hst.1 hst.2) (star_cons hst.1) (star_any (by simp [hst]))
            · cases h
          · split at h
            · rename_i hx
              have hx := beq_iff_eq.mp hx
              subst hx
              split at h
              · rename_i a
                simp at hst
                obtain ⟨x, h1, rfl⟩ := map_some h
                exact sI_rev g.hK g.ok hg hm (arg1_ok s g h1 hst) (star_cons hst)
              · cases h
            · exact seq h
    · exact seq h
  · exact seq h
structure SndW (P : PEnv) (T : Tab) (G : Pg) (cl cm : CSem) (lv : Nat) (c : Cs) : Prop extends Snd P T G cl cm lv c where
  sw : ∀ {X : Cx} {L : LEnv} {op : BoolOp} {vs : List Expr} {pos : Pos} {it : IT}, GoodX P T G cl cm lv X L → c.T L (.BoolOp op vs pos) = some it → PW X (.BoolOp op vs pos) (tT T X (wT G cl cm it))
theorem comp_ok : ∀ k : Nat, SndW P T G cl cm lv (comp P k)
  | 0 => ⟨⟨fun _ h => (by cases h), fun _ h => (by cases h), fun _ h => (by cases h)⟩, fun _ h => (by cases h)⟩
  | k + 1 => ⟨⟨fun g h => stepE_ok (comp_ok k).toSnd g h, fun g h => stepT_ok (comp_ok k).toSnd (comp_ok k).sw g h, fun g h => stepI_ok (comp_ok k).toSnd g h⟩, fun g h => stepW_ok (comp_ok k).toSnd (comp_ok k).sw g h⟩
/-! ### statements -/
theorem compG_ok (s : Snd P T G cl cm lv c) (g : GoodX P T G cl cm lv X L) {tg : Expr} {ig : IG} (h : compG c L tg = some ig) : PG X tg (tG T X (wG G cl cm ig)) := by
  unfold compG at h
  split at h
  · obtain ⟨hb, h⟩ := ite_none h
    obtain ⟨x, y, h1, h2, rfl⟩ := opt2_some h
    exact sG_sub (s.sE g h1) (s.sE g h2) (sub_ok hb)
  · exact g.tg h
theorem asg_lc (s : Snd P T G cl cm lv c) (g : GoodX P T G cl cm lv X L) {y : Str} {py pos spos : Pos} {el : Expr} {gs : List Comprehension} {sc : Scope} {i : Nat} {ie : IE} (hn : compNm L y = some i) (h : compLc c L el gs sc = some ie) (hw : swB L (.Name y py) (.ListComp el gs sc pos) spos = true) : PS X (.Assign [.Name y py] (.ListComp el gs sc pos) spos) (tS T X (wS G cl cm (.asg (.name i) ie))) := by
  obtain ⟨tg, it, ifs, ig, e', i', ts, rfl, rfl, bo, hst, hg, ho, hi, pg, pt, pe⟩ := lc_good s g (pos := pos) h
  have hw : (isLocal L.sc y && py.line == pos.line && !(sc.names.any fun (n, k) => n == y && (k == .local || k == .cell))) = true := hw
  rw [Bool.and_eq_true, Bool.and_eq_true] at hw
  have n := g.nm hn
  have hy : X.env.scope.names.lookup y = some .local := by rw [g.sc]; exact loc_of hw.1.1
  have hk : X.env.scope.kind = .function := by rw [g.sc]; exact g.kind
  refine ps_imp (ps_setLc g.calm g.nd n.hi hy (sw_true hk hy hw.1.2 (by simpa using hw.2)) hi bo pg pt pe (set_free hst)) fun D σ H hh => ?_
  obtain ⟨m, ps, h, D', Ef, hs, hr, k, tk, q⟩ := hh
  refine lc_ok g.hK g.ok hg ho ⟨m, ps, h, _, _, hs, hr, fun m1 h1 p x H1 a1 r1 rx q1 => ?_, tk.at hs, q⟩
  exact k.1 m1 _ _ h1 H1 a1 ((hs.ext a1).set rx i) r1 q1
theorem swapNo (g : GoodX P T G cl cm lv X L) {tg : Expr} {pos spos : Pos} {el : Expr} {gs : List Comprehension} {sc : Scope} (hw : swB L tg (.ListComp el gs sc pos) spos = false) : swapsWithSole [tg] (.ListComp el gs sc pos) spos.line X.env = pure false := by
  show swapsWith (.ListComp el gs sc pos) (some tg) spos.line X.env = pure false
  cases tg with
  | Name y py =>
    have hw : (isLocal L.sc y && py.line == pos.line && !(sc.names.any fun (n, k) => n == y && (k == .local || k == .cell))) = false := hw
    have e : ((X.env.kindOf y == some .local) && py.line == pos.line && !(sc.names.any fun (n, k) => n == y && (k == .local || k == .cell))) = false := by
      have : (X.env.kindOf y == some .local) = isLocal L.sc y := by
        show (X.env.scope.names.lookup y == some .local) = _
        rw [g.sc]
        unfold isLocal
        cases q : L.sc.names.lookup y with
        | none => rfl
        | some k => cases k <;> rfl
      rw [this]; exact hw
    unfold swapsWith
    show (pure (X.env.blockKind == .function && X.env.kindOf y == some .local && py.line == pos.line && !(sc.names.any fun (n, k) => n == y && (k == .local || k == .cell))) : PySem.Sem Bool) = pure false
    congr 1
    rw [Bool.and_assoc, Bool.and_assoc]
    rw [Bool.and_assoc] at e
    rw [e, Bool.and_false]
  | _ => rfl
structure SndS (P : PEnv) (T : Tab) (G : Pg) (cl cm : CSem) (lv : Nat) (f : LEnv → Stmt → Option IS) : Prop where
  s : ∀ {X : Cx} {L : LEnv} {st : Stmt} {is : IS}, GoodX P T G cl cm lv X L → f L st = some is → PS X st (tS T X (wS G cl cm is))
theorem compB2_ok {f : LEnv → Stmt → Option IS} (s : SndS P T G cl cm lv f) (g : GoodX P T G cl cm lv X L) : ∀ {b : List Stmt} {is : List IS}, compB2 f L b = some is → PSs X b (tS T X (wB G cl cm is))
  | [], is, h => by
    unfold compB2 at h
    simp at h; subst h
    exact sB_nil
  | st :: r, is, h => by
    unfold compB2 at h
    rw [List.mapM_cons] at h
    cases q : f L st with
    | none => rw [q] at h; cases h
    | some x =>
      rw [q] at h
      cases q2 : r.mapM (f L) with
      | none => rw [q2] at h; cases h
      | some xs =>
        rw [q2] at h; cases h
        exact sB_cons (s.s g q) (compB2_ok s g q2)
theorem stepS_ok (s : ∃ k, c = comp P (k + 1)) {f : LEnv → Stmt → Option IS} (sf : SndS P T G cl cm lv f) (g : GoodX P T G cl cm lv X L) {st : Stmt} {is : IS} (h : stepS c (compB2 f) L st = some is) : PS X st (tS T X (wS G cl cm is)) := by
  obtain ⟨kc, hc⟩ := s
  have s : Snd P T G cl cm lv c := hc ▸ (comp_ok (kc + 1)).toSnd
  unfold stepS at h
  split at h
  · obtain ⟨x, h1, rfl⟩ := map_some h
    exact sS_ret (s.sE g h1)
  · cases h; exact sS_retN
  · cases h; exact sS_skip
  · cases h; exact sS_brk
  · cases h; exact sS_cont
  · obtain ⟨hb, h⟩ := ite_none h
    obtain ⟨x, h1, rfl⟩ := map_some h
    exact sS_exp (s.sE g h1) (swap_free hb)
  · obtain ⟨x, y, z, h1, h2, h3, rfl⟩ := opt3_some h
    exact sS_ite (s.sT g h1) (compB2_ok sf g h2) (compB2_ok sf g h3)
  · obtain ⟨x, y, h1, h2, rfl⟩ := opt2_some h
    exact sS_whl g.po (s.sT g h1) (compB2_ok sf g h2)
  · obtain ⟨hb, h⟩ := ite_none h
    obtain ⟨x, y, z, h1, h2, h3, rfl⟩ := opt3_some h
    exact sS_for g.po g.calm (s.sI g h2) (g.tg h1) (compB2_ok sf g h3) (set_free hb)
  · rename_i tg e pos
    obtain ⟨hb, h⟩ := ite_none h
    rw [Bool.or_eq_false_iff] at hb
    have ht : isTupE tg = false ∨ isTupE e = false := by
      cases q : isTupE tg with
      | false => exact .inl rfl
      | true => rw [q] at hb; simp at hb; exact .inr hb.2
    obtain ⟨ig, x, h1, h2, rfl⟩ := opt2_some h
    have hst := asg_one (env := X.env) hb.1
    cases hcp : isComp e with
    | false => exact sS_asg (s.sE g h2) (compG_ok s g h1) (sole_free hcp) (stores_free ht) hst
    | true =>
      cases e with
      | ListComp el gs sc p =>
        cases hw : swB L tg (.ListComp el gs sc p) pos with
        | true =>
          cases tg with
          | Name y py =>
            have h1 : (compNm L y).map IG.name = some ig := h1
            obtain ⟨i, e1, rfl⟩ := map_some h1
            subst hc
            exact asg_lc (comp_ok kc).toSnd g e1 h2 hw
          | _ => cases hw
        | false => exact sS_asg (s.sE g h2) (compG_ok s g h1) (swapNo g hw) (stores_free ht) hst
      | SetComp _ _ _ _ => subst hc; cases h2
      | DictComp _ _ _ _ _ => subst hc; cases h2
      | _ => cases hcp
  · obtain ⟨hb, h⟩ := ite_none h
    obtain ⟨x, y, z, h1, h2, h3, rfl⟩ := opt3_some h
    exact sS_augS g.hK g.ok (s.sE g h1) (s.sE g h2) (s.sE g h3) (aug_free hb)
  · obtain ⟨i, y, h1, h2, rfl⟩ := opt2_some h
    exact sS_aug g.hK g.ok g.nd (g.nm h1) (s.sE g h2)
  · cases h
theorem compS_ok {kc : Nat} : ∀ k : Nat, SndS P T G cl cm lv (compS (comp P (kc + 1)) k)
  | 0 => ⟨fun _ h => (by cases h)⟩
  | k + 1 => ⟨fun g h => stepS_ok ⟨kc, rfl⟩ (compS_ok k) g h⟩
end
end Fw
set_option Elab.async false
set_option linter.all false
set_option maxRecDepth 100000
set_option maxHeartbeats 2000000
/-! Fw11: a whole program of defs. -/
namespace Fw
open PySem PySem.Spec PyProof.Rows L2

/-- a def of the text: its name, its statement, its names (parameters first), its parameters -/
structure Rec where
  name : Str
  st : Stmt
  N : List Str
  ps : List Str
def Rec.L (r : Rec) : LEnv := ⟨r.N, defScope r.st, fun _ => true⟩
def pEnv (rs : List Rec) (ks : List (Str × PV)) (blt : List Str) : PEnv := ⟨rs.map fun r => (r.name, r.ps.length), ks, blt⟩
/-- a def's scope is plain -/
def scB (r : Rec) : Bool := (match (defScope r.st).kind with | .function => true | _ => false) && !(defScope r.st).isCoroutine && !(defScope r.st).isGenerator && decide r.N.Nodup && decide (r.N.take r.ps.length = r.ps) &&
  r.ps.all (fun x => locB (defScope r.st) x) && (defScope r.st).names.all (fun y => match y.2 with | .free => false | _ => true)
theorem scB_ok {r : Rec} (h : scB r = true) : FnScope r.N r.ps (defScope r.st) := by
  unfold scB at h
  simp only [Bool.and_eq_true, List.all_eq_true, Bool.not_eq_true', decide_eq_true_eq] at h
  obtain ⟨⟨⟨⟨⟨⟨h1, h2⟩, h3⟩, h4⟩, h5⟩, h6⟩, h7⟩ := h
  refine ⟨?_, h2, h3, h4, h5, fun x hx => ?_, fun y hy e => ?_⟩
  · split at h1
    · assumption
    · cases h1
  · have := h6 x hx
    unfold locB at this
    split at this
    · rename_i e; exact .inl e
    · rename_i e; exact .inr e
    · cases this
  · have := h7 y hy
    rw [e] at this
    cases this
def compD (P : PEnv) (r : Rec) : Option (List IS) := compB2 (compS (comp P 60) 40) r.L (defBody r.st)
/-- the compiled program -/
def prgOf (rs : List Rec) (bs : List (List IS)) (i : Nat) : Option Fn := match rs[i]?, bs[i]? with
  | some r, some b => some ⟨r.ps.length, r.N.length, b⟩
  | _, _ => none
/-- where the defs stand -/
structure Def (K : PySem.W.Frag) (mg : Str → Option Value) (r : Rec) : Prop where
  ex : ∃ (fa : Addr) (fd : FuncData), mg r.name = some (.ref fa) ∧ Fun K r.name r.name r.st fa fd ∧ Binds K fd r.ps []
theorem sem_succ {G : Pg} {P : Nat → Option Fn} {k f : Nat} {vs : List PV} {h : PH} {Q : PV → PH → Prop} {E : PX → PH → Prop} : semF G P (k + 1) f vs h Q E = ∃ F, P f = some F ∧ vs.length = F.np ∧
      wpSs G (semF G P k) (semP G P k) (fun x _ => E x) F.body { nx := fun _ h' => Q .non h', rt := Q } (vs.map some ++ List.replicate (F.ns - F.np) none) h := rfl
section
variable {prog : Program} {w : World} {mg : Str → Option Value} {base : Heap} {T : Tab} {G : Pg} {rs : List Rec} {bs : List (List IS)} {ks : List (Str × PV)} {blt : List Str}
theorem lenF_sem {k i np : Nat} {r : Rec} (h : rs[i]? = some r) (hn : r.ps.length = np) : lenF np (semF G (prgOf rs bs) k i) := by
  intro vs h' Q E q
  cases k with
  | zero => exact False.elim (show False from q)
  | succ k =>
    rw [sem_succ] at q
    obtain ⟨F, e, hl, _⟩ := q
    unfold prgOf at e
    rw [h] at e
    cases q2 : bs[i]? with
    | none => rw [q2] at e; cases e
    | some b => rw [q2] at e; cases e; exact hl.trans hn
theorem prog_ok (ok : KOk T G) (sc : rs.all scB = true) (cb : ∀ (i : Nat) (r : Rec), rs[i]? = some r → ∃ b, bs[i]? = some b ∧ compD (pEnv rs ks blt) r = some b)
    (hks : ∀ (x : Str) (p : PV), ks.lookup x = some p → ∃ u v, mg x = some u ∧ RelV v u ∧ ∀ m, RV T m p v) (hb : ∀ x, blt.contains x = true → mg x = none) (ds : ∀ r ∈ rs, Def T.K mg r) :
    ∀ (k i : Nat) (r : Rec), rs[i]? = some r → ∃ (fa : Addr) (fd : FuncData), mg r.name = some (.ref fa) ∧ Fun T.K r.name r.name r.st fa fd ∧ Binds T.K fd r.ps [] ∧ FnOk prog w T.K mg base (L2.CX prog w) k fa fd r.ps (spOf T (semF G (prgOf rs bs) k i) r.ps.length) := by
  intro k
  induction k with
  | zero =>
    intro i r hr
    obtain ⟨fa, fd, h1, h2, h3⟩ := (ds r (List.mem_of_getElem? hr)).ex
    refine ⟨fa, fd, h1, h2, h3, fun vs H Q E h => h.1, fun A outer s H args us vs Q E hr e0 hb hv h => ?_⟩
    obtain ⟨_, m, ps, h, Qf, Ef, _, _, _, _, z⟩ := h
    exact False.elim (show False from z)
  | succ k ih =>
    intro i r hr
    obtain ⟨fa, fd, h1, h2, h3⟩ := (ds r (List.mem_of_getElem? hr)).ex
    refine ⟨fa, fd, h1, h2, h3, ?_⟩
    have S := scB_ok (List.all_eq_true.mp sc r (List.mem_of_getElem? hr))
    obtain ⟨b, hb1, hb2⟩ := cb i r hr
    refine h2.okX S (fun vs H Q E h => h.1) (fun cdv A outer s H vs Q E room h => ?_)
    obtain ⟨hl, m, ps, hp, Qf, Ef, rv, hh, kq, ke, q⟩ := h
    rw [sem_succ] at q
    obtain ⟨F, e, hl2, q⟩ := q
    unfold prgOf at e
    rw [hr, hb1] at e
    cases e
    generalize hX : cxOf (L2.CX prog w) prog w T.K mg base r.N r.name (defScope r.st) fa cdv A outer s H E = X
    have g : GoodX (pEnv rs ks blt) T G (semF G (prgOf rs bs) k) (semP G (prgOf rs bs) k) k X r.L := by
      subst hX
      refine ⟨rfl, ok, rfl, S.nd, room, passes_of rfl, rfl, rfl, fun _ _ => rfl, S.kind, fun j x np hj => ?_, hks, hb⟩
      have hj : (rs.map fun r => (r.name, r.ps.length))[j]? = some (x, np) := hj
      rw [List.getElem?_map] at hj
      cases q3 : rs[j]? with
      | none => rw [q3] at hj; cases hj
      | some r' =>
        rw [q3] at hj; cases hj
        obtain ⟨fa', fd', g1, g2, g3, g4⟩ := ih j r' q3
        exact ⟨⟨fa', fd', r'.ps, g1, g2.kp, rfl, g3, g4⟩, lenF_sem q3 rfl⟩
    have P := compB2_ok (compS_ok (kc := 59) 40) g hb2
    refine ⟨_, P, m, _, hp, _, _, ?_, hh, ⟨?_, kq, ?_, ?_⟩, ?_, q⟩
    · unfold L2.start
      rw [hl]
      exact SR.start _ rv
    · intro m' ps' σ' h' H' a s' r' z
      exact kq m' h' .non .non H' a r' rfl z
    · intro _ _ _ _ _ _ _ _ z; exact z.elim
    · intro _ _ _ _ _ _ _ _ z; exact z.elim
    · subst hX
      exact Takes.imp (takes_of rfl rfl rfl rfl) fun cls d σ' H' ⟨m', ps', h', x, a, _, r', rx, z⟩ => ke m' h' x cls d H' a r' rx z
end
end Fw
set_option Elab.async false
set_option linter.all false
set_option maxRecDepth 100000
set_option maxHeartbeats 2000000
/-! Fw12: the law's call. -/
namespace Fw
open PySem PySem.Spec PyProof.Rows L2
theorem law_sp {K : PySem.W.Frag} {cls : List Addr} {kon : List (Addr × PO)} {att : List Str} {H : Hp} {a : Addr} {ns : List Int} {f : List PV → PH → (PV → PH → Prop) → (PX → PH → Prop) → Prop} (ho : Only H) (hS : SqL K H a (ns.map V.int))
    (h : f [.loc 0] [.rol (ns.map .int)] (fun v _ => v = .bl true) (fun _ _ => False)) : spOf ⟨K, cls, kon, att⟩ f 1 [.ref a] H (fun v _ => v = .bl true) fun _ _ _ => False := by
  have hs : (∃ o, H a = some (.frz o (.lst (ns.map V.int)))) ∨ KLst K a (ns.map V.int) := by
    rcases hS with (h1 | h1) | h1
    · rcases ho a with z | ⟨o, xs, z⟩
      · rw [h1] at z; cases z
      · rw [h1] at z; cases z
    · exact .inl h1
    · exact .inr h1
  refine ⟨rfl, [a], [.loc 0], [.rol (ns.map .int)], _, _, .cons ⟨a, rfl, rfl⟩ .nil, ⟨rfl, ?_, ?_⟩, ?_, ?_, h⟩
  · intro i j b oi oj hij e1 e2 e3 e4
    have h1 := get_len e1
    have h2 := get_len e2
    simp at h1 h2
    omega
  · intro i b o e1 e2
    have h1 := get_len e1
    simp at h1
    subst h1
    cases e1; cases e2
    exact ⟨_, hs, RVs.ints ns⟩
  · intro m' h' p v H' _ _ r z
    subst z
    exact r
  · intro _ _ _ _ _ _ _ _ _ z; exact z
theorem cx_never {P : Program} {w : World} {H : Hp} {s : Shared} {e : Value} {s' : Shared} (h : L2.CX P w [] H s (fun _ _ _ => False) e s') : False := by
  obtain ⟨_, _, _, _, _, _, _, _, _, _, _, _, z⟩ := h
  exact z
end Fw
set_option Elab.async false
set_option linter.all false
set_option maxRecDepth 100000
set_option maxHeartbeats 1000000
/-! Fw13: rules for reasoning over the small language. -/
namespace Fw
open PySem PySem.Spec PyProof.Rows L2

/-- what stood stands, but what may be at the places of S -/
def Kp (S : List Nat) (h h' : PH) : Prop := h.length ≤ h'.length ∧ ∀ i o, i ∉ S → h[i]? = some o → h'[i]? = some o
abbrev Kp0 (h h' : PH) : Prop := Kp [] h h'
theorem Kp.refl {S : List Nat} {h : PH} : Kp S h h := ⟨Nat.le_refl _, fun _ _ _ e => e⟩
theorem Kp.trans {S : List Nat} {a b c : PH} (x : Kp S a b) (y : Kp S b c) : Kp S a c := ⟨Nat.le_trans x.1 y.1, fun i o n e => y.2 i o n (x.2 i o n e)⟩
theorem Kp.weak {S S' : List Nat} {a b : PH} (x : Kp S a b) (hs : ∀ i ∈ S, i ∈ S') : Kp S' a b := ⟨x.1, fun i o n e => x.2 i o (fun z => n (hs i z)) e⟩
theorem Kp.to {S : List Nat} {a b : PH} (x : Kp0 a b) : Kp S a b := x.weak fun _ z => by cases z
/-- what was made behind a need not be named -/
theorem Kp.drop {S : List Nat} {n : Nat} {a b : PH} (x : Kp (n :: S) a b) (hn : a.length ≤ n) : Kp S a b := ⟨x.1, fun i o h e => x.2 i o (fun z => by
  rcases List.mem_cons.mp z with z | z
  · subst z; have := get_len e; omega
  · exact h z) e⟩
theorem Kp.get {S : List Nat} {a b : PH} {i : Nat} {o : PO} (x : Kp S a b) (e : a[i]? = some o) (h : i ∉ S) : b[i]? = some o := x.2 i o h e
theorem Kp.get0 {a b : PH} {i : Nat} {o : PO} (x : Kp0 a b) (e : a[i]? = some o) : b[i]? = some o := x.2 i o (by simp) e
theorem Kp.snoc {S : List Nat} {h : PH} {o : PO} : Kp S h (h ++ [o]) := ⟨by simp, fun i o' _ e => by rw [List.getElem?_append_left (get_len e)]; exact e⟩
theorem Kp.app {S : List Nat} {h g : PH} : Kp S h (h ++ g) := ⟨by simp, fun i o' _ e => by rw [List.getElem?_append_left (get_len e)]; exact e⟩
theorem Kp.set {S : List Nat} {h : PH} {n : Nat} {o : PO} (hn : n ∈ S) : Kp S h (h.set n o) := ⟨by simp, fun i o' hi e => by
  rw [List.getElem?_set_ne (fun z => hi (by rw [← z]; exact hn))]; exact e⟩
theorem get_new {h : PH} {o : PO} : (h ++ [o])[h.length]? = some o := by simp
theorem get_put {h : PH} {n : Nat} {o o' : PO} (e : h[n]? = some o') : (h.set n o)[n]? = some o := List.getElem?_set_self (get_len e)

/-! ### loops -/
theorem for_inv {tg : PV → PSt → PH → (PSt → PH → Prop) → Prop} {body : PEnds → PSt → PH → Prop} {D : PEnds} {chk : PH → Prop} {its : List Item} {σ : PSt} {h : PH} (I : Nat → PSt → PH → Prop) (h0 : I 0 σ h)
    (step : ∀ (i : Nat) (x : Item) (σ : PSt) (h : PH) (K : PSt → PH → Prop), its[i]? = some x → I i σ h → (∀ σ' h', I (i + 1) σ' h' → K σ' h') → chk h ∧ tg (x.v h) σ (x.h h) fun σ2 h2 => body { nx := K, ct := K, bk := D.nx, rt := D.rt } σ2 h2)
    (done : ∀ σ h, I its.length σ h → chk h ∧ D.nx σ h) : wpFor tg body D chk its σ h := by
  have key : ∀ (r : List Item) (i : Nat) (σ : PSt) (h : PH), its.drop i = r → i ≤ its.length → I i σ h → wpFor tg body D chk r σ h := by
    intro r
    induction r with
    | nil =>
      intro i σ h e hi w
      have : i = its.length := by
        have := congrArg List.length e
        rw [List.length_drop] at this
        simp at this
        omega
      subst this
      exact done σ h w
    | cons x r ih =>
      intro i σ h e hi w
      obtain ⟨e1, e2⟩ := drop_at e
      exact step i x σ h _ e1 w fun σ' h' w' => ih (i + 1) σ' h' e2 (get_len e1) w'
  exact key its 0 σ h rfl (Nat.zero_le _) h0
theorem lc_inv {tg : PV → PSt → PH → (PSt → PH → Prop) → Prop} {tst : PSt → PH → (Bool → PH → Prop) → Prop} {el : PSt → PH → (PV → PH → Prop) → Prop} {σ0 : PSt} {d : Nat} {Q : PV → PH → Prop} {chk : PH → Prop} {its : List Item} {h : PH} (I : Nat → PH → Prop) (h0 : I 0 h)
    (step : ∀ (i : Nat) (x : Item) (h : PH) (K : PH → Prop), its[i]? = some x → I i h → (∀ h', I (i + 1) h' → K h') → chk h ∧ tg (x.v h) σ0 (x.h h) fun σ2 h2 => tst σ2 h2 fun b h3 =>
      if b = true then el σ2 h3 fun y h4 => ∃ acc, h4[d]? = some (.lst acc) ∧ acc.length < sizeLine ∧ K (h4.set d (.lst (acc ++ [y]))) else K h3)
    (done : ∀ h, I its.length h → chk h ∧ Q (.loc d) h) : wpLc tg tst el σ0 d Q chk its h := by
  have key : ∀ (r : List Item) (i : Nat) (h : PH), its.drop i = r → i ≤ its.length → I i h → wpLc tg tst el σ0 d Q chk r h := by
    intro r
    induction r with
    | nil =>
      intro i h e hi w
      have : i = its.length := by
        have := congrArg List.length e
        rw [List.length_drop] at this
        simp at this
        omega
      subst this
      exact done h w
    | cons x r ih =>
      intro i h e hi w
      obtain ⟨e1, e2⟩ := drop_at e
      exact step i x h _ e1 w fun h' w' => ih (i + 1) h' e2 (get_len e1) w'
  exact key its 0 h rfl (Nat.zero_le _) h0
/-- a comprehension that makes nothing else: element by element -/
theorem lc_map {tg : PV → PSt → PH → (PSt → PH → Prop) → Prop} {el : PSt → PH → (PV → PH → Prop) → Prop} {σ0 : PSt} {Q : PV → PH → Prop} {chk : PH → Prop} {its : List Item} {h : PH} {n : Nat} (ys : List PV) (hn : n = h.length) (hl : ys.length = its.length) (hz : its.length ≤ sizeLine)
    (hc : ∀ xs, chk (h ++ [.lst xs])) (hv : ∀ x ∈ its, ∃ v, x = .val v)
    (step : ∀ (i : Nat) (v y : PV) (h' : PH) (K : PV → PH → Prop), Kp0 h h' → its[i]? = some (.val v) → ys[i]? = some y → K y h' → tg v σ0 h' fun σ2 h2 => el σ2 h2 K)
    (done : Q (.loc n) (h ++ [.lst ys])) : wpLc tg (fun _ h Q => Q true h) el σ0 n Q chk its (h ++ [.lst []]) := by
  subst hn
  refine lc_inv (fun i h' => h' = h ++ [.lst (ys.take i)]) (by simp) ?_ ?_
  · rintro i x h' K hx rfl hK
    refine ⟨hc _, ?_⟩
    obtain ⟨v, rfl⟩ := hv x (List.mem_of_getElem? hx)
    have hi := get_len hx
    have hy : ys[i]? = some (ys[i]'(by omega)) := List.getElem?_eq_getElem _
    refine step i v _ _ _ Kp.snoc hx hy ?_
    refine ⟨ys.take i, get_new, ?_, ?_⟩
    · rw [List.length_take]; omega
    · refine hK _ ?_
      show (h ++ [PO.lst (List.take i ys)]).set h.length _ = _
      rw [List.set_append_right _ _ (Nat.le_refl _), Nat.sub_self, List.set_cons_zero, List.take_add_one, hy]
      rfl
  · rintro h' rfl
    rw [← hl, List.take_length]
    exact ⟨hc _, done⟩

/-- a comprehension whose elements may make things -/
theorem lc_gen {tg : PV → PSt → PH → (PSt → PH → Prop) → Prop} {el : PSt → PH → (PV → PH → Prop) → Prop} {σ0 : PSt} {Q : PV → PH → Prop} {chk : PH → Prop} {its : List Item} {h : PH} {n : Nat} (hn : n = h.length) (hz : its.length ≤ sizeLine) (I : Nat → List PV → PH → Prop) (h0 : I 0 [] (h ++ [.lst []]))
    (hI : ∀ i ys h' o, I i ys h' → Kp0 h h' → I i ys (h'.set n o))
    (hc : ∀ i ys h', Kp0 h h' → I i ys h' → chk h')
    (step : ∀ (i : Nat) (x : Item) (ys : List PV) (h' : PH) (K : PV → PH → Prop), Kp0 h h' → I i ys h' → its[i]? = some x → ys.length = i → (∀ y h'', Kp0 h' h'' → I (i + 1) (ys ++ [y]) h'' → K y h'') → tg (x.v h') σ0 (x.h h') fun σ2 h2 => el σ2 h2 K)
    (done : ∀ ys h', Kp0 h h' → h'[n]? = some (.lst ys) → ys.length = its.length → I its.length ys h' → Q (.loc n) h') : wpLc tg (fun _ h Q => Q true h) el σ0 n Q chk its (h ++ [.lst []]) := by
  subst hn
  refine lc_inv (fun i h' => ∃ ys, ys.length = i ∧ Kp0 h h' ∧ h'[h.length]? = some (.lst ys) ∧ I i ys h') ⟨[], rfl, Kp.snoc, get_new, h0⟩ ?_ ?_
  · rintro i x h' K hx ⟨ys, hl, kp, hd, hi⟩ hK
    refine ⟨hc i ys h' kp hi, step i x ys h' _ kp hi hx hl ?_⟩
    intro y h'' kp' hi'
    have hlt := get_len hx
    refine ⟨ys, kp'.get0 hd, by omega, hK _ ⟨ys ++ [y], by simp [hl], ?_, get_put (kp'.get0 hd), hI _ _ _ _ hi' (kp.trans kp')⟩⟩
    exact (((kp.trans kp').to).trans (Kp.set (List.mem_singleton_self _))).drop (Nat.le_refl _)
  · rintro h' ⟨ys, hl, kp, hd, hi⟩
    exact ⟨hc _ ys h' kp hi, done ys h' kp hd hl hi⟩
theorem rng_1 {n : Nat} (h : (n : Int) < 2 ^ 62) : rngOf [.int (n : Int)] = some (0, 1, n) := by
  unfold rngOf
  dsimp only
  rw [if_pos ⟨by omega, h⟩]; simp
theorem rng_1' {n : Nat} {i : Int} (e : i = n) (h : (n : Int) < 2 ^ 62) : rngOf [.int i] = some (0, 1, n) := by rw [e]; exact rng_1 h
theorem rngL_len {lo c : Int} {n : Nat} : (rngL lo c n).length = n := by simp [rngL]
theorem rngL_at {lo c : Int} {n i : Nat} (h : i < n) : (rngL lo c n)[i]? = some (.val (.int (lo + (i : Nat) * c))) := by simp [rngL, h]
theorem rngL_val {lo c : Int} {n : Nat} : ∀ x ∈ rngL lo c n, ∃ v, x = .val v := by
  intro x hx
  simp [rngL] at hx
  obtain ⟨i, _, rfl⟩ := hx
  exact ⟨_, rfl⟩
/-- the i-th number of range(n) -/
theorem rng_item {n i : Nat} {x : Item} (e : (rngL 0 1 n)[i]? = some x) : i < n ∧ x = .val (.int (i : Int)) := by
  have hl := get_len e
  rw [rngL_len] at hl
  rw [rngL_at hl] at e
  refine ⟨hl, ?_⟩
  have := (Option.some.inj e).symm
  rw [this]
  congr 2
  omega
theorem vals_val {xs : List PV} : ∀ x ∈ xs.map Item.val, ∃ v, x = .val v := by
  intro x hx
  obtain ⟨v, _, rfl⟩ := List.mem_map.mp hx
  exact ⟨v, rfl⟩
theorem val_item {xs : List PV} {i : Nat} {x : Item} (e : (xs.map Item.val)[i]? = some x) : ∃ v, xs[i]? = some v ∧ x = .val v := its_at e
/-! ### what stands at a value -/
section
variable {G : Pg} {h : PH} {n : Nat} {xs : List PV}
theorem deref_loc {o : PO} (e : h[n]? = some o) : deref G h (.loc n) = some o := e
theorem lstOf_lst (e : h[n]? = some (.lst xs)) : lstOf G h (.loc n) = some xs := by unfold lstOf; rw [deref_loc e]
theorem lstOf_rol (e : h[n]? = some (.rol xs)) : lstOf G h (.loc n) = some xs := by unfold lstOf; rw [deref_loc e]
theorem tupOf_tup (e : h[n]? = some (.tup xs)) : tupOf G h (.loc n) = some xs := by unfold tupOf; rw [deref_loc e]
theorem seqOf_lst (e : h[n]? = some (.lst xs)) : seqOf G h (.loc n) = some xs := by unfold seqOf; rw [deref_loc e]
theorem seqOf_rol (e : h[n]? = some (.rol xs)) : seqOf G h (.loc n) = some xs := by unfold seqOf; rw [deref_loc e]
theorem seqOf_tup (e : h[n]? = some (.tup xs)) : seqOf G h (.loc n) = some xs := by unfold seqOf; rw [deref_loc e]
theorem seqOf_of_lst {v : PV} (e : lstOf G h v = some xs) : seqOf G h v = some xs := by
  unfold lstOf at e; unfold seqOf
  split at e <;> simp_all
theorem seqOf_of_tup {v : PV} (e : tupOf G h v = some xs) : seqOf G h v = some xs := by
  unfold tupOf at e; unfold seqOf
  split at e <;> simp_all
theorem len_seq {v : PV} (e : seqOf G h v = some xs) : lenV G [v] h = some (.int xs.length, h) := by
  unfold lenV
  split
  · rename_i l hl; cases hl; simp [seqOf, deref] at e
  · rename_i u _ hu; cases hu; rw [e]; rfl
  · rename_i h1 h2; exact absurd rfl (h2 v)
theorem idx_seq {v : PV} {i : Int} (e : seqOf G h v = some xs) : idxP G h v (.int i) = atI xs i := by
  unfold idxP
  cases v with
  | str l => simp [seqOf, deref] at e
  | _ => dsimp only; rw [e]
theorem atI_nat' {α : Type} {xs : List α} {i : Nat} : atI xs (i : Int) = xs[i]? := by
  unfold atI ixN
  rw [if_pos (Int.natCast_nonneg _)]
  by_cases h : (i : Int) < (xs.length : Int)
  · rw [if_pos h]; simp
  · rw [if_neg h]
    have : xs.length ≤ i := by omega
    rw [List.getElem?_eq_none this]; rfl
theorem tuple_lst {v : PV} (e : lstOf G h v = some xs) : tupleV G [v] h = some (.loc h.length, h ++ [.tup xs]) := by
  unfold tupleV; dsimp only; rw [e]
theorem list_seq {v : PV} (e : seqOf G h v = some xs) : listV G [v] h = some (.loc h.length, h ++ [.lst xs]) := by
  unfold listV; dsimp only; rw [e]; rfl
theorem append_lst {y : PV} (e : h[n]? = some (.lst xs)) (hz : xs.length < sizeLine) : appendV [.loc n, y] h = some (.non, h.set n (.lst (xs ++ [y]))) := by
  unfold appendV; dsimp only; rw [e]; dsimp only; rw [if_pos hz]
theorem cat_lst {m : Nat} {ys : List PV} (e : h[n]? = some (.lst xs)) (e' : h[m]? = some (.lst ys)) (hz : xs.length + ys.length ≤ sizeLine) : binV G .Add (.loc n) (.loc m) h = some (.loc h.length, h ++ [.lst (xs ++ ys)]) := by
  unfold binV; dsimp only; rw [e, e']; dsimp only; rw [if_pos hz]
theorem slc_lst {v : PV} {a b : Option Int} (e : lstOf G h v = some xs) : slcV G v a b h = some (.loc h.length, h ++ [.lst (cutP xs a b)]) := by
  unfold slcV
  cases v with
  | str l => simp [lstOf, deref] at e
  | _ => dsimp only; rw [e]
theorem p_add {a b : Int} : binV G .Add (.int a) (.int b) h = some (.int (a + b), h) := rfl
theorem p_adds {a b : List Nat} : binV G .Add (.str a) (.str b) h = if a.length + b.length ≤ sizeLine then some (.str (a ++ b), h) else none := rfl
theorem p_sub {a b : Int} : binV G .Sub (.int a) (.int b) h = some (.int (a - b), h) := rfl
theorem p_mul {a b : Int} : binV G .Mult (.int a) (.int b) h = if a.natAbs.log2 + b.natAbs.log2 < 1000000 then some (.int (a * b), h) else none := rfl
theorem p_div {a b : Int} : binV G .FloorDiv (.int a) (.int b) h = if b ≠ 0 ∧ b.natAbs.log2 < 9000 then some (.int (a.fdiv b), h) else none := rfl
theorem p_mod {a b : Int} : binV G .Mod (.int a) (.int b) h = if b ≠ 0 then some (.int (a.fmod b), h) else none := rfl
theorem p_pow {a b : Int} : binV G .Pow (.int a) (.int b) h = if 0 ≤ b ∧ b ≤ 1000000 ∧ a.natAbs < 2 ^ 64 then some (.int (a ^ b.toNat), h) else none := rfl
theorem p_shl {a b : Int} : binV G .LShift (.int a) (.int b) h = if 0 ≤ b ∧ b ≤ 1000000 ∧ a.natAbs < 2 ^ 64 then some (.int (a * 2 ^ b.toNat), h) else none := rfl
theorem p_shr {a b : Int} : binV G .RShift (.int a) (.int b) h = if 0 ≤ b then some (.int (a / 2 ^ b.toNat), h) else none := rfl
theorem p_and {a b : Int} : binV G .BitAnd (.int a) (.int b) h = some (.int (Builtin.bitAnd a b), h) := rfl
theorem q_add {a b : Int} : iopV .Add (.int a) (.int b) h = some (.int (a + b), h) := rfl
theorem q_adds {a b : List Nat} : iopV .Add (.str a) (.str b) h = if a.length + b.length ≤ sizeLine then some (.str (a ++ b), h) else none := rfl
theorem q_sub {a b : Int} : iopV .Sub (.int a) (.int b) h = some (.int (a - b), h) := rfl
theorem q_mul {a b : Int} : iopV .Mult (.int a) (.int b) h = if a.natAbs.log2 + b.natAbs.log2 < 1000000 then some (.int (a * b), h) else none := rfl
theorem c_lt {a b : Int} : cmpV G .Lt (.int a) (.int b) h = some (decide (a < b)) := rfl
theorem c_le {a b : Int} : cmpV G .LtE (.int a) (.int b) h = some (decide (a ≤ b)) := rfl
theorem c_gt {a b : Int} : cmpV G .Gt (.int a) (.int b) h = some (decide (b < a)) := rfl
theorem c_ge {a b : Int} : cmpV G .GtE (.int a) (.int b) h = some (decide (b ≤ a)) := rfl
theorem c_eq {a b : Int} : cmpV G .Eq (.int a) (.int b) h = some (decide (a = b)) := rfl
theorem c_ne {a b : Int} : cmpV G .NotEq (.int a) (.int b) h = some (!decide (a = b)) := rfl
theorem c_eqs {a b : List Nat} : cmpV G .Eq (.str a) (.str b) h = some (decide (a = b)) := rfl
theorem c_nes {a b : List Nat} : cmpV G .NotEq (.str a) (.str b) h = some (!decide (a = b)) := rfl
theorem c_is {a : PV} : cmpV G .Is a .non h = some (decide (a = .non)) := by cases a <;> rfl
theorem c_isnt {a : PV} : cmpV G .IsNot a .non h = some (!decide (a = .non)) := by cases a <;> rfl
theorem c_isb {a b : Bool} : cmpV G .Is (.bl a) (.bl b) h = some (decide (a = b)) := rfl
theorem c_isntb {a b : Bool} : cmpV G .IsNot (.bl a) (.bl b) h = some (!decide (a = b)) := rfl
theorem c_eqb {a b : Bool} : cmpV G .Eq (.bl a) (.bl b) h = some (a == b) := rfl
theorem c_neb {a b : Bool} : cmpV G .NotEq (.bl a) (.bl b) h = some (!(a == b)) := rfl
theorem t_bl {b : Bool} : truP G h (.bl b) = some b := rfl
theorem t_int {i : Int} : truP G h (.int i) = some (decide (i ≠ 0)) := rfl
theorem i_int {i : Int} : intV [.int i] h = some (.int i, h) := rfl
theorem i_bl {b : Bool} : intV [.bl b] h = some (.int (if b then 1 else 0), h) := rfl
theorem m_two {a b : Int} : maxV [.int a, .int b] h = some (.int (max a b), h) := rfl
theorem m_three {a b c : Int} : maxV [.int a, .int b, .int c] h = some (.int (max (max a b) c), h) := rfl
theorem m_four {a b c d : Int} : maxV [.int a, .int b, .int c, .int d] h = some (.int (max (max (max a b) c) d), h) := rfl
theorem m_min {a b : Int} : minV [.int a, .int b] h = some (.int (min a b), h) := rfl
theorem is_int {t : String} {i : Int} : isiV G [.int i, .ty t] h = (kitB "int" t).map fun b => (.bl b, h) := rfl
theorem is_bl {t : String} {i : Bool} : isiV G [.bl i, .ty t] h = (kitB "bool" t).map fun b => (.bl b, h) := rfl
theorem is_non {t : String} : isiV G [.non, .ty t] h = (kitB "NoneType" t).map fun b => (.bl b, h) := rfl
theorem is_str {t : String} {i : List Nat} : isiV G [.str i, .ty t] h = (kitB "str" t).map fun b => (.bl b, h) := rfl
theorem is_tup {t : String} {v : PV} (e : tupOf G h v = some xs) : isiV G [v, .ty t] h = (kitB "tuple" t).map fun b => (.bl b, h) := by
  unfold tupOf at e
  have : tyP G h v = some "tuple" := by
    unfold tyP
    cases v with
    | loc n => split at e <;> simp_all
    | kon n => split at e <;> simp_all
    | _ => simp [deref] at e
  unfold isiV isiP
  dsimp only
  rw [this]; rfl
theorem is_lst {t : String} {v : PV} (e : lstOf G h v = some xs) : isiV G [v, .ty t] h = (kitB "list" t).map fun b => (.bl b, h) := by
  unfold lstOf at e
  have : tyP G h v = some "list" := by
    unfold tyP
    cases v with
    | loc n => split at e <;> simp_all
    | kon n => split at e <;> simp_all
    | _ => simp [deref] at e
  unfold isiV isiP
  dsimp only
  rw [this]; rfl
theorem ki_ii : kitB "int" "int" = some true := by decide +kernel
theorem ki_ib : kitB "int" "bool" = some false := by decide +kernel
theorem ki_is : kitB "int" "str" = some false := by decide +kernel
theorem ki_it : kitB "int" "tuple" = some false := by decide +kernel
theorem ki_bi : kitB "bool" "int" = some true := by decide +kernel
theorem ki_bb : kitB "bool" "bool" = some true := by decide +kernel
theorem ki_bs : kitB "bool" "str" = some false := by decide +kernel
theorem ki_bt : kitB "bool" "tuple" = some false := by decide +kernel
theorem ki_si : kitB "str" "int" = some false := by decide +kernel
theorem ki_sb : kitB "str" "bool" = some false := by decide +kernel
theorem ki_ss : kitB "str" "str" = some true := by decide +kernel
theorem ki_st : kitB "str" "tuple" = some false := by decide +kernel
theorem ki_ni : kitB "NoneType" "int" = some false := by decide +kernel
theorem ki_nb : kitB "NoneType" "bool" = some false := by decide +kernel
theorem ki_ns : kitB "NoneType" "str" = some false := by decide +kernel
theorem ki_nt : kitB "NoneType" "tuple" = some false := by decide +kernel
theorem ki_ti : kitB "tuple" "int" = some false := by decide +kernel
theorem ki_tb : kitB "tuple" "bool" = some false := by decide +kernel
theorem ki_ts : kitB "tuple" "str" = some false := by decide +kernel
theorem ki_tt : kitB "tuple" "tuple" = some true := by decide +kernel
theorem ki_li : kitB "list" "int" = some false := by decide +kernel
theorem ki_ls : kitB "list" "str" = some false := by decide +kernel
theorem ki_lt : kitB "list" "tuple" = some false := by decide +kernel
theorem log_lt {n b : Nat} (h : n < 2 ^ b) (hb : 0 < b) : n.log2 < b := PySem.Flt.log2_lt_of hb h
/-- a product of two numbers of known size -/
theorem mul_fit {a b : Int} (k l : Nat) (ha : a.natAbs < 2 ^ k) (hb : b.natAbs < 2 ^ l) (hk : 0 < k) (hl : 0 < l) (h : k + l ≤ 1000000) : binV G .Mult (.int a) (.int b) h' = some (.int (a * b), h') := by
  rw [show binV G .Mult (.int a) (.int b) h' = if a.natAbs.log2 + b.natAbs.log2 < 1000000 then some (.int (a * b), h') else none from rfl]
  have := log_lt ha hk
  have := log_lt hb hl
  rw [if_pos (by omega)]
theorem imul_fit {a b : Int} (k l : Nat) (ha : a.natAbs < 2 ^ k) (hb : b.natAbs < 2 ^ l) (hk : 0 < k) (hl : 0 < l) (h : k + l ≤ 1000000) : iopV .Mult (.int a) (.int b) h' = some (.int (a * b), h') := by
  rw [show iopV .Mult (.int a) (.int b) h' = if a.natAbs.log2 + b.natAbs.log2 < 1000000 then some (.int (a * b), h') else none from rfl]
  have := log_lt ha hk
  have := log_lt hb hl
  rw [if_pos (by omega)]
theorem line_eq : sizeLine = 16777216 := sizeLine_eq
end
end Fw
set_option Elab.async false
set_option linter.all false
set_option maxRecDepth 100000
set_option maxHeartbeats 2000000
namespace K77
open PySem Fw L2
/-- the program's statements by their places -/
def topS (i : Nat) : Stmt := PySem.Challenge.pw_onlylength_k77_sums_whole.main.body.getD i (.Pass ⟨0, 0, 0, 0⟩)
def r_entry : Rec := ⟨"entry", topS 1, ["row", "index"], ["row", "index"]⟩
def b_entry : List IS := [.ite (.tru (.cmp .Lt (.var 1) (.prm .len [.var 0]))) [.ret (.idx (.var 0) (.var 1))] [],
    .ret (.cst (.int 0))]
def r_coefficients : Rec := ⟨"coefficients", topS 2, ["sums", "plus", "minus", "index"], ["sums"]⟩
def b_coefficients : List IS := [.asg (.names [1, 2]) (.var 0),
    .ret (.comp (.bin .Sub (.call 0 [.var 1, .var 3]) (.call 0 [.var 2, .var 3])) (.name 3) (.rng1 (.prm .max [.prm .len [.var 1], .prm .len [.var 2]])) [] [3])]
def r_sum_at : Rec := ⟨"sum_at", topS 3, ["sums", "place", "total", "part"], ["sums", "place"]⟩
def b_sum_at : List IS := [.asg (.name 2) (.cst (.int 0)),
    .for_ (.name 3) (.rev (.call 1 [.var 0])) [.asg (.name 2) (.bin .Add (.bin .Mult (.var 2) (.var 1)) (.var 3))],
    .ret (.var 2)]
def r_shortened : Rec := ⟨"shortened", topS 4, ["row", "end"], ["row"]⟩
def b_shortened : List IS := [.asg (.name 1) (.prm .len [.var 0]),
    .whl (.and (.tru (.cmp .Gt (.var 1) (.cst (.int 0)))) (.tru (.cmp .Eq (.idx (.var 0) (.bin .Sub (.var 1) (.cst (.int 1)))) (.cst (.int 0))))) [.aug 1 .Sub (.cst (.int 1))],
    .ret (.slc (.var 0) none (some (.var 1)))]
def r_sum_same : Rec := ⟨"sum_same", topS 5, ["one", "two"], ["one", "two"]⟩
def b_sum_same : List IS := [.ret (.cmp .Eq (.call 3 [.call 1 [.var 0]]) (.call 3 [.call 1 [.var 1]]))]
def r_parted : Rec := ⟨"parted", topS 6, ["row", "plus", "minus", "part"], ["row"]⟩
def b_parted : List IS := [.asg (.name 1) (.prm .tuple [.comp (.prm .max [.cst (.int 0), .var 3]) (.name 3) (.seq (.var 0)) [] [3]]),
    .asg (.name 2) (.prm .tuple [.comp (.prm .max [.cst (.int 0), .neg (.var 3)]) (.name 3) (.seq (.var 0)) [] [3]]),
    .ret (.tup [.var 1, .var 2])]
def r_times_less : Rec := ⟨"times_less", topS 7, ["row", "root", "higher", "lower", "part", "high", "low"], ["row", "root"]⟩
def b_times_less : List IS := [.asg (.name 2) (.bin .Add (.lst [.cst (.int 0)]) (.var 0)),
    .asg (.name 3) (.bin .Add (.comp (.bin .Mult (.var 1) (.var 4)) (.name 4) (.seq (.var 0)) [] [4]) (.lst [.cst (.int 0)])),
    .ret (.comp (.bin .Sub (.var 5) (.var 6)) (.names [5, 6]) (.zip (.var 2) (.var 3)) [] [5, 6])]
def r_fooling_sum : Rec := ⟨"fooling_sum", topS 8, ["count", "row", "root"], ["count"]⟩
def b_fooling_sum : List IS := [.asg (.name 1) (.lst [.cst (.int 1)]),
    .for_ (.name 2) (.rng1 (.var 0)) [.asg (.name 1) (.call 6 [.var 1, .var 2])],
    .ret (.call 5 [.var 1])]
def r_differences : Rec := ⟨"differences", topS 9, ["answers", "firsts", "row", "left", "right"], ["answers"]⟩
def b_differences : List IS := [.asg (.name 1) (.lst []),
    .asg (.name 2) (.prm .list [.var 0]),
    .whl (.tru (.var 2)) [.exp (.mtd .append (.var 1) [.idx (.var 2) (.cst (.int 0))]),
    .asg (.name 2) (.comp (.bin .Sub (.var 4) (.var 3)) (.names [3, 4]) (.zip (.var 2) (.slc (.var 2) (some (.cst (.int 1))) none)) [] [3, 4])],
    .ret (.var 1)]
def r_sum_of_answers : Rec := ⟨"sum_of_answers", topS 10, ["answers", "total", "product", "share", "degree", "first", "factor", "_", "index", "part"], ["answers"]⟩
def b_sum_of_answers : List IS := [.asg (.name 1) (.comp (.cst (.int 0)) (.name 7) (.seq (.var 0)) [] [7]),
    .asg (.name 2) (.lst [.cst (.int 1)]),
    .asg (.name 3) (.cst (.int 1)),
    .for_ (.names [4, 5]) (.enum (.call 8 [.var 0])) [.ite (.tru (.cmp .Gt (.var 4) (.cst (.int 0)))) [.asg (.name 2) (.call 6 [.var 2, .bin .Sub (.var 4) (.cst (.int 1))]),
    .aug 3 .Mult (.var 4)] [],
    .ite (.tru (.cmp .NotEq (.bin .Mod (.var 5) (.var 3)) (.cst (.int 0)))) [.ret (.cst .non)] [],
    .asg (.name 6) (.bin .FloorDiv (.var 5) (.var 3)),
    .for_ (.names [8, 9]) (.enum (.var 2)) [.augS (.var 1) (.var 8) .Add (.bin .Mult (.var 6) (.var 9))]],
    .ret (.call 5 [.var 1])]
def r__law_whole : Rec := ⟨"_law_whole", topS 12, ["value"], ["value"]⟩
def b__law_whole : List IS := [.ret (.and (.prm .isi [.var 0, .cst (.ty "int")]) (.and (.not (.prm .isi [.var 0, .cst (.ty "bool")])) (.cmp .GtE (.var 0) (.cst (.int 0)))))]
def r__law_cell : Rec := ⟨"_law_cell", topS 13, ["script", "k", "seed", "cell"], ["script", "k"]⟩
def b__law_cell : List IS := [.ite (.tru (.cmp .Lt (.var 1) (.prm .len [.var 0]))) [.ret (.idx (.var 0) (.var 1))] [],
    .asg (.name 2) (.cst (.int 17)),
    .for_ (.name 3) (.seq (.var 0)) [.asg (.name 2) (.bin .Mod (.prm .int [.bin .Add (.bin .Mult (.var 2) (.cst (.int 31))) (.bin .Mod (.prm .int [.var 3]) (.cst (.int 1000003)))]) (.cst (.int 1000003)))],
    .ret (.bin .Mod (.prm .int [.bin .Mult (.bin .Mult (.bin .Add (.var 2) (.cst (.int 7))) (.bin .Add (.var 1) (.cst (.int 3)))) (.cst (.int 69621))]) (.cst (.int 2147483647)))]
def r__law_digits : Rec := ⟨"_law_digits", topS 14, ["cell", "sizes", "row", "rest", "seed", "k", "size", "twice"], ["cell", "sizes"]⟩
def b__law_digits : List IS := [.asg (.name 2) (.lst []),
    .asg (.name 3) (.prm .int [.var 0]),
    .ite (.tru (.cmp .GtE (.var 3) (.bin .Pow (.cst (.int 10)) (.cst (.int 18))))) [.asg (.name 3) (.bin .Sub (.var 3) (.bin .Pow (.cst (.int 10)) (.cst (.int 18)))),
    .for_ (.name 6) (.seq (.var 1)) [.exp (.mtd .append (.var 2) [.bin .Mod (.prm .int [.var 3]) (.var 6)]),
    .asg (.name 3) (.bin .FloorDiv (.prm .int [.var 3]) (.var 6))],
    .ret (.var 2)] [],
    .asg (.name 4) (.bin .Mod (.prm .int [.var 3]) (.cst (.int 2147483629))),
    .for_ (.name 5) (.rng1 (.prm .len [.var 1])) [.asg (.name 4) (.bin .Mod (.prm .int [.bin .Add (.bin .Add (.bin .Mult (.var 4) (.cst (.int 48271))) (.bin .Mult (.cst (.int 974711)) (.var 5))) (.cst (.int 12345))]) (.cst (.int 2147483647))),
    .asg (.name 7) (.bin .Mod (.prm .int [.bin .Mult (.var 4) (.bin .Add (.bin .FloorDiv (.var 4) (.cst (.int 65537))) (.cst (.int 3)))]) (.cst (.int 2147483629))),
    .exp (.mtd .append (.var 2) [.bin .Mod (.bin .FloorDiv (.var 7) (.cst (.int 19))) (.idx (.var 1) (.var 5))])],
    .ret (.var 2)]
def r__law_is : Rec := ⟨"_law_is", topS 15, ["shown", "due", "waiting", "turn", "pair", "k"], ["shown", "due"]⟩
def b__law_is : List IS := [.asg (.name 2) (.lst [.lst [.var 0, .var 1]]),
    .for_ (.name 3) (.rng1 (.cst (.int 1000000))) [.ite (.tru (.cmp .Eq (.prm .len [.var 2]) (.cst (.int 0)))) [.ret (.cst (.bl true))] [],
    .asg (.name 4) (.mtd .pop (.var 2) []),
    .ite (.tru (.prm .isi [.idx (.var 4) (.cst (.int 1)), .cst (.ty "tuple")])) [.ite (.or (.not (.tru (.prm .isi [.idx (.var 4) (.cst (.int 0)), .cst (.ty "tuple")]))) (.tru (.cmp .NotEq (.prm .len [.idx (.var 4) (.cst (.int 0))]) (.prm .len [.idx (.var 4) (.cst (.int 1))])))) [.ret (.cst (.bl false))] [],
    .for_ (.name 5) (.rng1 (.prm .len [.idx (.var 4) (.cst (.int 1))])) [.exp (.mtd .append (.var 2) [.lst [.idx (.idx (.var 4) (.cst (.int 0))) (.var 5), .idx (.idx (.var 4) (.cst (.int 1))) (.var 5)]])]] [.ite (.tru (.cmp .Is (.idx (.var 4) (.cst (.int 1))) (.cst .non))) [.ite (.tru (.cmp .IsNot (.idx (.var 4) (.cst (.int 0))) (.cst .non))) [.ret (.cst (.bl false))] []] [.ite (.tru (.prm .isi [.idx (.var 4) (.cst (.int 1)), .cst (.ty "str")])) [.ite (.or (.not (.tru (.prm .isi [.idx (.var 4) (.cst (.int 0)), .cst (.ty "str")]))) (.tru (.cmp .NotEq (.idx (.var 4) (.cst (.int 0))) (.idx (.var 4) (.cst (.int 1)))))) [.ret (.cst (.bl false))] []] [.ite (.or (.not (.tru (.prm .isi [.idx (.var 4) (.cst (.int 0)), .cst (.ty "int")]))) (.or (.tru (.cmp .NotEq (.prm .isi [.idx (.var 4) (.cst (.int 0)), .cst (.ty "bool")]) (.prm .isi [.idx (.var 4) (.cst (.int 1)), .cst (.ty "bool")]))) (.tru (.cmp .NotEq (.idx (.var 4) (.cst (.int 0))) (.idx (.var 4) (.cst (.int 1))))))) [.ret (.cst (.bl false))] []]]]],
    .ret (.cst (.bl false))]
def r__law_sum_at : Rec := ⟨"_law_sum_at", topS 16, ["sums", "place", "total", "power", "index"], ["sums", "place"]⟩
def b__law_sum_at : List IS := [.asg (.name 2) (.cst (.int 0)),
    .asg (.name 3) (.cst (.int 1)),
    .for_ (.name 4) (.rng1 (.cst (.int 12))) [.ite (.tru (.cmp .Lt (.var 4) (.prm .len [.idx (.var 0) (.cst (.int 0))]))) [.asg (.name 2) (.bin .Add (.var 2) (.bin .Mult (.idx (.idx (.var 0) (.cst (.int 0))) (.var 4)) (.var 3)))] [],
    .ite (.tru (.cmp .Lt (.var 4) (.prm .len [.idx (.var 0) (.cst (.int 1))]))) [.asg (.name 2) (.bin .Sub (.var 2) (.bin .Mult (.idx (.idx (.var 0) (.cst (.int 1))) (.var 4)) (.var 3)))] [],
    .asg (.name 3) (.bin .Mult (.var 3) (.var 1))],
    .ret (.var 2)]
def r__law_twin : Rec := ⟨"_law_twin", topS 17, ["row", "plus", "minus", "left", "right", "k"], ["row", "plus", "minus"]⟩
def b__law_twin : List IS := [.asg (.name 3) (.prm .list [.var 1]),
    .asg (.name 4) (.prm .list [.var 2]),
    .ite (.tru (.cmp .Eq (.idx (.var 0) (.cst (.int 0))) (.cst (.int 0)))) [.for_ (.name 5) (.rng1 (.prm .min [.prm .len [.var 3], .prm .len [.var 4]])) [.asg (.sub (.var 3) (.var 5)) (.bin .Add (.idx (.var 3) (.var 5)) (.idx (.var 0) (.bin .Add (.cst (.int 1)) (.var 5)))),
    .asg (.sub (.var 4) (.var 5)) (.bin .Add (.idx (.var 4) (.var 5)) (.idx (.var 0) (.bin .Add (.cst (.int 1)) (.var 5))))]] [],
    .ite (.tru (.cmp .Eq (.idx (.var 0) (.cst (.int 0))) (.cst (.int 1)))) [.asg (.name 3) (.bin .Add (.var 3) (.bin .Mult (.lst [.cst (.int 0)]) (.idx (.var 0) (.cst (.int 1))))),
    .asg (.name 4) (.bin .Add (.var 4) (.bin .Mult (.lst [.cst (.int 0)]) (.bin .Add (.cst (.int 1)) (.idx (.var 0) (.cst (.int 2))))))] [],
    .ite (.tru (.cmp .Eq (.idx (.var 0) (.cst (.int 0))) (.cst (.int 2)))) [.asg (.name 3) (.bin .Add (.var 3) (.lst [.bin .Add (.idx (.var 0) (.cst (.int 1))) (.cst (.int 1))]))] [],
    .ite (.and (.tru (.cmp .Eq (.idx (.var 0) (.cst (.int 0))) (.cst (.int 3)))) (.tru (.cmp .Gt (.prm .len [.var 3]) (.cst (.int 0))))) [.asg (.sub (.var 3) (.bin .Mod (.prm .int [.idx (.var 0) (.cst (.int 1))]) (.prm .len [.var 3]))) (.idx (.var 0) (.cst (.int 2)))] [],
    .ite (.tru (.cmp .Eq (.idx (.var 0) (.cst (.int 0))) (.cst (.int 4)))) [.asg (.name 3) (.prm .list [.slc (.var 0) (some (.cst (.int 1))) (some (.cst (.int 4)))]),
    .asg (.name 4) (.prm .list [.slc (.var 0) (some (.cst (.int 4))) (some (.cst (.int 6)))])] [],
    .ret (.lst [.var 3, .var 4])]
def r__law_whole_sign : Rec := ⟨"_law_whole_sign", topS 18, ["value"], ["value"]⟩
def b__law_whole_sign : List IS := [.ret (.and (.prm .isi [.var 0, .cst (.ty "int")]) (.not (.prm .isi [.var 0, .cst (.ty "bool")])))]
def r__law_row_at : Rec := ⟨"_law_row_at", topS 19, ["row", "place", "total", "power", "part"], ["row", "place"]⟩
def b__law_row_at : List IS := [.asg (.name 2) (.cst (.int 0)),
    .asg (.name 3) (.cst (.int 1)),
    .for_ (.name 4) (.seq (.var 0)) [.asg (.name 2) (.bin .Add (.var 2) (.bin .Mult (.var 4) (.var 3))),
    .asg (.name 3) (.bin .Mult (.var 3) (.var 1))],
    .ret (.var 2)]
def r__law_are_whole : Rec := ⟨"_law_are_whole", topS 20, ["answers", "row", "share", "degree", "k"], ["answers"]⟩
def b__law_are_whole : List IS := [.asg (.name 1) (.prm .list [.var 0]),
    .asg (.name 2) (.cst (.int 1)),
    .for_ (.name 3) (.rng1 (.prm .len [.var 0])) [.ite (.tru (.cmp .Gt (.var 3) (.cst (.int 0)))) [.asg (.name 2) (.bin .Mult (.var 2) (.var 3))] [],
    .ite (.tru (.cmp .NotEq (.bin .Mod (.prm .int [.idx (.var 1) (.cst (.int 0))]) (.var 2)) (.cst (.int 0)))) [.ret (.cst (.bl false))] [],
    .asg (.name 1) (.comp (.bin .Sub (.idx (.var 1) (.bin .Add (.var 4) (.cst (.int 1)))) (.idx (.var 1) (.var 4))) (.name 4) (.rng1 (.bin .Sub (.prm .len [.var 1]) (.cst (.int 1)))) [] [4])],
    .ret (.cst (.bl true))]
def r__law_answered : Rec := ⟨"_law_answered", topS 21, ["answers", "count", "handed", "told", "k", "found", "place"], ["answers", "count"]⟩
def b__law_answered : List IS := [.asg (.name 2) (.prm .list [.var 0]),
    .asg (.name 3) (.call 9 [.var 2]),
    .ite (.tru (.cmp .NotEq (.var 2) (.prm .list [.var 0]))) [.ret (.cst (.bl false))] [],
    .ite (.not (.tru (.call 18 [.var 0]))) [.ret (.cmp .Is (.var 3) (.cst .non))] [],
    .ite (.or (.not (.tru (.prm .isi [.var 3, .cst (.ty "tuple")]))) (.tru (.cmp .NotEq (.prm .len [.var 3]) (.cst (.int 2))))) [.ret (.cst (.bl false))] [],
    .for_ (.name 4) (.rng1 (.cst (.int 2))) [.ite (.or (.not (.tru (.prm .isi [.idx (.var 3) (.var 4), .cst (.ty "tuple")]))) (.tru (.cmp .NotEq (.prm .len [.idx (.var 3) (.var 4)]) (.var 1)))) [.ret (.cst (.bl false))] []],
    .for_ (.name 4) (.rng1 (.var 1)) [.ite (.or (.not (.tru (.call 10 [.idx (.idx (.var 3) (.cst (.int 0))) (.var 4)]))) (.or (.not (.tru (.call 10 [.idx (.idx (.var 3) (.cst (.int 1))) (.var 4)]))) (.tru (.cmp .NotEq (.prm .min [.idx (.idx (.var 3) (.cst (.int 0))) (.var 4), .idx (.idx (.var 3) (.cst (.int 1))) (.var 4)]) (.cst (.int 0)))))) [.ret (.cst (.bl false))] []],
    .asg (.name 5) (.comp (.bin .Sub (.idx (.idx (.var 3) (.cst (.int 0))) (.var 4)) (.idx (.idx (.var 3) (.cst (.int 1))) (.var 4))) (.name 4) (.rng1 (.var 1)) [] [4]),
    .ret (.cmp .Eq (.comp (.call 17 [.var 5, .var 6]) (.name 6) (.rng1 (.var 1)) [] [6]) (.var 0))]
def r__law_lengths : Rec := ⟨"_law_lengths", topS 22, ["script", "sizes", "count", "most", "parts", "row", "answers", "at", "product", "k", "place"], ["script"]⟩
def b__law_lengths : List IS := [.asg (.name 1) (.call 12 [.call 11 [.var 0, .cst (.int 4)], .lst [.cst (.int 9), .cst (.int 4), .cst (.int 5), .cst (.int 9), .cst (.int 6), .cst (.int 8)]]),
    .asg (.name 2) (.bin .Add (.cst (.int 1)) (.idx (.var 1) (.cst (.int 0)))),
    .asg (.name 3) (.idx (.lst [.cst (.int 41), .cst (.int 4), .bin .Pow (.cst (.int 10)) (.cst (.int 9)), .cst (.int 13)]) (.idx (.var 1) (.cst (.int 1)))),
    .asg (.name 4) (.call 12 [.call 11 [.var 0, .cst (.int 5)], .bin .Mult (.lst [.bin .Add (.bin .Mult (.cst (.int 2)) (.var 3)) (.cst (.int 1))]) (.cst (.int 9))]),
    .asg (.name 5) (.comp (.bin .Sub (.idx (.var 4) (.var 9)) (.var 3)) (.name 9) (.rng1 (.var 2)) [] [9]),
    .asg (.name 6) (.comp (.call 17 [.var 5, .var 10]) (.name 10) (.rng1 (.var 2)) [] [10]),
    .ite (.or (.not (.tru (.call 18 [.var 6]))) (.not (.tru (.call 19 [.var 6, .var 2])))) [.ret (.cst (.bl false))] [],
    .asg (.name 7) (.bin .Mod (.prm .int [.idx (.var 1) (.cst (.int 3))]) (.var 2)),
    .ite (.tru (.cmp .Eq (.idx (.var 1) (.cst (.int 2))) (.cst (.int 1)))) [.asg (.sub (.var 6) (.var 7)) (.bin .Add (.bin .Add (.idx (.var 6) (.var 7)) (.cst (.int 1))) (.idx (.var 1) (.cst (.int 4))))] [],
    .ite (.tru (.cmp .Eq (.idx (.var 1) (.cst (.int 2))) (.cst (.int 2)))) [.asg (.name 8) (.cst (.int 1)),
    .for_ (.name 9) (.rng1 (.var 2)) [.asg (.name 8) (.bin .Mult (.var 8) (.bin .Add (.var 9) (.cst (.int 1))))],
    .asg (.sub (.var 6) (.var 7)) (.bin .Add (.idx (.var 6) (.var 7)) (.bin .Mult (.var 8) (.bin .Add (.idx (.var 1) (.cst (.int 4))) (.cst (.int 1)))))] [],
    .ite (.and (.tru (.cmp .Gt (.idx (.var 1) (.cst (.int 2))) (.cst (.int 2)))) (.tru (.cmp .Lt (.var 3) (.cst (.int 100))))) [.asg (.name 6) (.comp (.bin .Sub (.bin .Mod (.prm .int [.idx (.var 5) (.var 9)]) (.cst (.int 9))) (.cst (.int 3))) (.name 9) (.rng1 (.var 2)) [] [9])] [],
    .ret (.call 19 [.var 6, .var 2])]
def r_law : Rec := ⟨"law", topS 23, ["script", "sizes", "most", "plus", "minus", "twin", "length", "alike", "place", "count", "fool", "k", "one", "two", "product", "root", "value"], ["script"]⟩
def b_law : List IS := [.asg (.name 1) (.call 12 [.call 11 [.var 0, .cst (.int 0)], .lst [.cst (.int 6), .cst (.int 6), .cst (.int 11), .cst (.int 4)]]),
    .asg (.name 2) (.idx (.lst [.cst (.int 7), .cst (.int 3), .bin .Add (.bin .Pow (.cst (.int 10)) (.cst (.int 9))) (.cst (.int 1)), .cst (.int 40)]) (.idx (.var 1) (.cst (.int 3)))),
    .asg (.name 3) (.slc (.call 12 [.call 11 [.var 0, .cst (.int 1)], .bin .Mult (.lst [.var 2]) (.cst (.int 5))]) none (some (.idx (.var 1) (.cst (.int 0))))),
    .asg (.name 4) (.slc (.call 12 [.call 11 [.var 0, .cst (.int 2)], .bin .Mult (.lst [.var 2]) (.cst (.int 5))]) none (some (.idx (.var 1) (.cst (.int 1))))),
    .asg (.name 3) (.comp (.bin .Mod (.prm .int [.var 16]) (.var 2)) (.name 16) (.seq (.var 3)) [] [16]),
    .asg (.name 5) (.call 15 [.call 12 [.call 11 [.var 0, .cst (.int 3)], .bin .Add (.lst [.cst (.int 5)]) (.bin .Mult (.lst [.cst (.int 6)]) (.cst (.int 5)))], .var 3, .var 4]),
    .asg (.name 6) (.prm .max [.prm .len [.var 3], .prm .len [.var 4], .prm .len [.idx (.var 5) (.cst (.int 0))], .prm .len [.idx (.var 5) (.cst (.int 1))]]),
    .asg (.name 7) (.cst (.bl true)),
    .for_ (.name 8) (.rng1 (.bin .Add (.var 6) (.cst (.int 3)))) [.asg (.name 12) (.call 2 [.tup [.prm .list [.var 3], .prm .tuple [.var 4]], .var 8]),
    .asg (.name 13) (.call 2 [.var 5, .var 8]),
    .ite (.or (.not (.tru (.call 16 [.var 12]))) (.not (.tru (.call 16 [.var 13])))) [.ret (.cst (.bl false))] [],
    .ite (.or (.tru (.cmp .NotEq (.var 12) (.call 14 [.lst [.var 3, .var 4], .var 8]))) (.tru (.cmp .NotEq (.var 13) (.call 14 [.var 5, .var 8])))) [.ret (.cst (.bl false))] [],
    .ite (.and (.tru (.cmp .Lt (.var 8) (.var 6))) (.tru (.cmp .NotEq (.var 12) (.var 13)))) [.asg (.name 7) (.cst (.bl false))] []],
    .ite (.not (.tru (.call 13 [.call 4 [.tup [.var 3, .var 4], .tup [.prm .tuple [.idx (.var 5) (.cst (.int 0))], .prm .tuple [.idx (.var 5) (.cst (.int 1))]]], .var 7]))) [.ret (.cst (.bl false))] [],
    .asg (.name 9) (.idx (.var 1) (.cst (.int 2))),
    .asg (.name 10) (.call 7 [.var 9]),
    .ite (.or (.not (.tru (.prm .isi [.var 10, .cst (.ty "tuple")]))) (.or (.tru (.cmp .NotEq (.prm .len [.var 10]) (.cst (.int 2)))) (.or (.tru (.cmp .NotEq (.prm .len [.idx (.var 10) (.cst (.int 0))]) (.bin .Add (.var 9) (.cst (.int 1))))) (.tru (.cmp .NotEq (.prm .len [.idx (.var 10) (.cst (.int 1))]) (.bin .Add (.var 9) (.cst (.int 1)))))))) [.ret (.cst (.bl false))] [],
    .for_ (.name 11) (.rng1 (.bin .Add (.var 9) (.cst (.int 1)))) [.ite (.or (.not (.tru (.call 10 [.idx (.idx (.var 10) (.cst (.int 0))) (.var 11)]))) (.or (.not (.tru (.call 10 [.idx (.idx (.var 10) (.cst (.int 1))) (.var 11)]))) (.tru (.cmp .NotEq (.prm .min [.idx (.idx (.var 10) (.cst (.int 0))) (.var 11), .idx (.idx (.var 10) (.cst (.int 1))) (.var 11)]) (.cst (.int 0)))))) [.ret (.cst (.bl false))] []],
    .for_ (.name 8) (.rng1 (.bin .Add (.var 9) (.cst (.int 3)))) [.asg (.name 14) (.cst (.int 1)),
    .for_ (.name 15) (.rng1 (.var 9)) [.asg (.name 14) (.bin .Mult (.var 14) (.bin .Sub (.var 8) (.var 15)))],
    .ite (.or (.tru (.cmp .NotEq (.call 14 [.var 10, .var 8]) (.var 14))) (.tru (.cmp .NotEq (.call 2 [.var 10, .var 8]) (.var 14)))) [.ret (.cst (.bl false))] []],
    .ite (.or (.tru (.cmp .IsNot (.call 4 [.var 10, .tup [.tup [], .tup []]]) (.cst (.bl false)))) (.tru (.cmp .IsNot (.call 4 [.var 10, .call 7 [.var 9]]) (.cst (.bl true))))) [.ret (.cst (.bl false))] [],
    .ret (.call 20 [.var 0])]
def recs : List Rec := [r_entry, r_coefficients, r_sum_at, r_shortened, r_sum_same, r_parted, r_times_less, r_fooling_sum, r_differences, r_sum_of_answers, r__law_whole, r__law_cell, r__law_digits, r__law_is, r__law_sum_at, r__law_twin, r__law_whole_sign, r__law_row_at, r__law_are_whole, r__law_answered, r__law_lengths, r_law]
def bodies : List (List IS) := [b_entry, b_coefficients, b_sum_at, b_shortened, b_sum_same, b_parted, b_times_less, b_fooling_sum, b_differences, b_sum_of_answers, b__law_whole, b__law_cell, b__law_digits, b__law_is, b__law_sum_at, b__law_twin, b__law_whole_sign, b__law_row_at, b__law_are_whole, b__law_answered, b__law_lengths, b_law]

def blt : List Str := ["len", "isinstance", "int", "range", "tuple", "list", "max", "min", "reversed", "enumerate", "zip", "bool", "str"]
def penv : PEnv := pEnv recs [] blt
theorem c_entry : compD penv r_entry = some b_entry := by kernel_rfl
theorem c_coefficients : compD penv r_coefficients = some b_coefficients := by kernel_rfl
theorem c_sum_at : compD penv r_sum_at = some b_sum_at := by kernel_rfl
theorem c_shortened : compD penv r_shortened = some b_shortened := by kernel_rfl
theorem c_sum_same : compD penv r_sum_same = some b_sum_same := by kernel_rfl
theorem c_parted : compD penv r_parted = some b_parted := by kernel_rfl
theorem c_times_less : compD penv r_times_less = some b_times_less := by kernel_rfl
theorem c_fooling_sum : compD penv r_fooling_sum = some b_fooling_sum := by kernel_rfl
theorem c_differences : compD penv r_differences = some b_differences := by kernel_rfl
theorem c_sum_of_answers : compD penv r_sum_of_answers = some b_sum_of_answers := by kernel_rfl
theorem c__law_whole : compD penv r__law_whole = some b__law_whole := by kernel_rfl
theorem c__law_cell : compD penv r__law_cell = some b__law_cell := by kernel_rfl
theorem c__law_digits : compD penv r__law_digits = some b__law_digits := by kernel_rfl
theorem c__law_is : compD penv r__law_is = some b__law_is := by kernel_rfl
theorem c__law_sum_at : compD penv r__law_sum_at = some b__law_sum_at := by kernel_rfl
theorem c__law_twin : compD penv r__law_twin = some b__law_twin := by kernel_rfl
theorem c__law_whole_sign : compD penv r__law_whole_sign = some b__law_whole_sign := by kernel_rfl
theorem c__law_row_at : compD penv r__law_row_at = some b__law_row_at := by kernel_rfl
theorem c__law_are_whole : compD penv r__law_are_whole = some b__law_are_whole := by kernel_rfl
theorem c__law_answered : compD penv r__law_answered = some b__law_answered := by kernel_rfl
theorem c__law_lengths : compD penv r__law_lengths = some b__law_lengths := by kernel_rfl
theorem c_law : compD penv r_law = some b_law := by kernel_rfl
theorem sc_all : recs.all scB = true := by decide +kernel
end K77
set_option Elab.async false
set_option linter.all false
set_option maxRecDepth 10000
set_option maxHeartbeats 1000000
/-! M77: sums of powers, Newton's differences. -/
namespace M77
/-- the value of a row of coefficients, the first one first -/
def hev : List Int → Int → Int
  | [], _ => 0
  | a :: r, x => a + x * hev r x
/-- x (x - 1) .. (x - d + 1) -/
def fall : Nat → Int → Int
  | 0, _ => 1
  | d + 1, x => fall d x * (x - d)
def nevA : Nat → List Int → Int → Int
  | _, [], _ => 0
  | d, a :: r, x => a * fall d x + nevA (d + 1) r x
abbrev nev (e : List Int) (x : Int) : Int := nevA 0 e x
def mx : Nat → Int → List Int → List Int
  | _, p, [] => [p]
  | d, p, a :: r => (p + d * a) :: mx (d + 1) a r
def addHead (c : Int) : List Int → List Int
  | [] => [c]
  | a :: r => (a + c) :: r
def toN : List Int → List Int
  | [] => []
  | c :: cs => addHead c (mx 0 0 (toN cs))
theorem mx_len (d : Nat) (p : Int) : ∀ e : List Int, (mx d p e).length = e.length + 1
  | [] => rfl
  | a :: r => by
    show (mx (d + 1) a r).length + 1 = _
    rw [mx_len]; rfl
theorem toN_len : ∀ c : List Int, (toN c).length = c.length
  | [] => rfl
  | c :: cs => by
    have h := mx_len 0 0 (toN cs)
    show (addHead c (mx 0 0 (toN cs))).length = _
    cases q : mx 0 0 (toN cs) with
    | nil => rw [q] at h; simp at h
    | cons a r =>
      rw [q] at h
      show r.length + 1 = _
      rw [toN_len cs] at h
      simpa using h
theorem nevA_mx (x : Int) : ∀ (e : List Int) (d : Nat) (p : Int), nevA d (mx d p e) x = p * fall d x + x * nevA d e x
  | [], d, p => by simp [mx, nevA]
  | a :: r, d, p => by
    show (p + d * a) * fall d x + nevA (d + 1) (mx (d + 1) a r) x = p * fall d x + x * (a * fall d x + nevA (d + 1) r x)
    rw [nevA_mx x r]
    show _ + (a * (fall d x * (x - d)) + x * nevA (d + 1) r x) = _
    generalize fall d x = F
    generalize nevA (d + 1) r x = R
    have h1 : (p + d * a) * F = p * F + d * a * F := Int.add_mul ..
    have h2 : a * (F * (x - d)) = a * (F * x) - a * (F * d) := by rw [Int.mul_sub, Int.mul_sub]
    have h3 : x * (a * F + R) = x * (a * F) + x * R := Int.mul_add ..
    have h4 : a * (F * x) = x * (a * F) := by rw [← Int.mul_assoc, Int.mul_comm]
    have h5 : a * (F * (d : Int)) = d * a * F := by rw [Int.mul_comm F, ← Int.mul_assoc, Int.mul_comm a]
    omega
theorem nev_addHead (c : Int) (x : Int) (e : List Int) : nev (addHead c e) x = nev e x + c := by
  cases e with
  | nil => simp [addHead, nev, nevA, fall]
  | cons a r =>
    show (a + c) * 1 + nevA 1 r x = a * 1 + nevA 1 r x + c
    omega
theorem hev_toN (x : Int) : ∀ c : List Int, hev c x = nev (toN c) x
  | [] => rfl
  | c :: cs => by
    show c + x * hev cs x = nev (addHead c (mx 0 0 (toN cs))) x
    rw [nev_addHead, hev_toN x cs]
    have := nevA_mx x (toN cs) 0 0
    unfold nev at *
    rw [this]
    simp
    omega
/-! differences -/
def D (f : Nat → Int) : Nat → Int := fun x => f (x + 1) - f x
def DI : Nat → (Nat → Int) → Nat → Int
  | 0, f => f
  | k + 1, f => DI k (D f)
theorem fall_up (x : Int) : ∀ d : Nat, fall (d + 1) (x + 1) = (x + 1) * fall d x
  | 0 => by simp [fall]
  | d + 1 => by
    show fall (d + 1) (x + 1) * (x + 1 - ((d + 1 : Nat) : Int)) = (x + 1) * (fall d x * (x - d))
    rw [fall_up x d, Int.mul_assoc]
    congr 2
    omega
theorem D_fall (d : Nat) (x : Nat) : fall (d + 1) ((x + 1 : Nat) : Int) - fall (d + 1) (x : Int) = (d + 1 : Nat) * fall d (x : Int) := by
  have h : ((x + 1 : Nat) : Int) = (x : Int) + 1 := by omega
  rw [h, fall_up]
  show ((x : Int) + 1) * fall d x - fall d x * ((x : Int) - d) = _
  generalize fall d (x : Int) = F
  have h1 : ((x : Int) + 1) * F = x * F + F := by rw [Int.add_mul]; omega
  have h2 : F * ((x : Int) - d) = x * F - d * F := by rw [Int.mul_sub, Int.mul_comm F, Int.mul_comm F]
  have h3 : ((d + 1 : Nat) : Int) * F = d * F + F := by
    have : ((d + 1 : Nat) : Int) = (d : Int) + 1 := by omega
    rw [this, Int.add_mul]; omega
  omega
def dA : Nat → List Int → List Int
  | _, [] => []
  | k, a :: r => (k * a) :: dA (k + 1) r
def der : List Int → List Int
  | [] => []
  | _ :: r => dA 1 r
theorem D_nevA (x : Nat) : ∀ (e : List Int) (d : Nat), nevA (d + 1) e ((x + 1 : Nat) : Int) - nevA (d + 1) e (x : Int) = nevA d (dA (d + 1) e) (x : Int)
  | [], _ => by simp [nevA, dA]
  | a :: r, d => by
    show (a * fall (d + 1) ((x + 1 : Nat) : Int) + nevA (d + 2) r ((x + 1 : Nat) : Int)) - (a * fall (d + 1) (x : Int) + nevA (d + 2) r (x : Int)) = ((d + 1 : Nat) * a) * fall d (x : Int) + nevA (d + 1) (dA (d + 2) r) (x : Int)
    have h1 := D_nevA x r (d + 1)
    have h2 := D_fall d x
    have h3 : a * fall (d + 1) ((x + 1 : Nat) : Int) = a * fall (d + 1) (x : Int) + ((d + 1 : Nat) * a) * fall d (x : Int) := by
      have : fall (d + 1) ((x + 1 : Nat) : Int) = fall (d + 1) (x : Int) + (d + 1 : Nat) * fall d (x : Int) := by omega
      rw [this, Int.mul_add, ← Int.mul_assoc, Int.mul_comm a ((d + 1 : Nat) : Int)]
    have h1 : nevA (d + 2) r ((x + 1 : Nat) : Int) - nevA (d + 2) r (x : Int) = nevA (d + 1) (dA (d + 2) r) (x : Int) := h1
    omega
theorem D_nev (e : List Int) : D (fun x => nev e x) = fun x : Nat => nev (der e) x := by
  funext x
  cases e with
  | nil => simp [D, nev, nevA, der]
  | cons a r =>
    show (a * 1 + nevA 1 r ((x + 1 : Nat) : Int)) - (a * 1 + nevA 1 r (x : Int)) = nevA 0 (dA 1 r) (x : Int)
    have := D_nevA x r 0
    have h : nevA 1 r ((x + 1 : Nat) : Int) - nevA 1 r (x : Int) = nevA 0 (dA 1 r) (x : Int) := this
    omega
def derI : Nat → List Int → List Int
  | 0, e => e
  | k + 1, e => derI k (der e)
theorem DI_nev : ∀ (k : Nat) (e : List Int), DI k (fun x => nev e x) = fun x : Nat => nev (derI k e) x
  | 0, _ => rfl
  | k + 1, e => by
    show DI k (D fun x => nev e x) = _
    rw [D_nev, DI_nev k]; rfl
theorem fall_zero (d : Nat) : fall (d + 1) 0 = 0 := by
  induction d with
  | zero => simp [fall]
  | succ d ih => show fall (d + 1) 0 * _ = 0; rw [ih]; simp
theorem nevA_zero : ∀ (e : List Int) (d : Nat), nevA (d + 1) e 0 = 0
  | [], _ => rfl
  | a :: r, d => by
    show a * fall (d + 1) 0 + nevA (d + 2) r 0 = 0
    rw [fall_zero, nevA_zero r (d + 1)]; simp
theorem nev_zero (e : List Int) : nev e 0 = e.getD 0 0 := by
  cases e with
  | nil => rfl
  | cons a r =>
    show a * 1 + nevA 1 r 0 = a
    rw [nevA_zero]; omega
def fac : Nat → Int
  | 0 => 1
  | k + 1 => fac k * (k + 1 : Nat)
theorem fac_pos : ∀ k, 0 < fac k
  | 0 => by decide
  | k + 1 => Int.mul_pos (fac_pos k) (by omega)
theorem dA_get : ∀ (e : List Int) (k i : Nat), (dA k e).getD i 0 = ((k + i : Nat) : Int) * e.getD i 0
  | [], k, i => by simp [dA]
  | a :: r, k, 0 => by simp [dA]
  | a :: r, k, i + 1 => by
    show (dA (k + 1) r).getD i 0 = _
    rw [dA_get r (k + 1) i]
    show _ = ((k + (i + 1) : Nat) : Int) * r.getD i 0
    congr 2
    omega
theorem der_get (e : List Int) (i : Nat) : (der e).getD i 0 = ((i + 1 : Nat) : Int) * e.getD (i + 1) 0 := by
  cases e with
  | nil => simp [der]
  | cons a r =>
    show (dA 1 r).getD i 0 = _
    rw [dA_get, Nat.add_comm 1 i]; rfl
/-- n (n + 1) .. -/
theorem derI_get : ∀ (k : Nat) (e : List Int) (i : Nat), fac i * (derI k e).getD i 0 = fac (i + k) * e.getD (i + k) 0
  | 0, _, _ => rfl
  | k + 1, e, i => by
    show fac i * (derI k (der e)).getD i 0 = _
    rw [derI_get k (der e) i, der_get]
    show fac (i + k) * (((i + k + 1 : Nat) : Int) * e.getD (i + k + 1) 0) = fac (i + k) * ((i + k + 1 : Nat) : Int) * e.getD (i + k + 1) 0
    rw [Int.mul_assoc]
theorem DI_nev0 (k : Nat) (e : List Int) : DI k (fun x : Nat => nev e x) 0 = fac k * e.getD k 0 := by
  rw [DI_nev]
  show nev (derI k e) ((0 : Nat) : Int) = _
  have h := derI_get k e 0
  rw [Nat.zero_add] at h
  rw [show ((0 : Nat) : Int) = 0 from rfl, nev_zero, ← h]
  show _ = 1 * _
  omega
theorem DI_congr : ∀ (k : Nat) (f g : Nat → Int) (n : Nat), (∀ x, x < n → f x = g x) → ∀ x, k + x < n → DI k f x = DI k g x
  | 0, f, g, n, h, x, hx => h x (by omega)
  | k + 1, f, g, n, h, x, hx => by
    show DI k (D f) x = DI k (D g) x
    refine DI_congr k (D f) (D g) (n - 1) (fun y hy => ?_) x (by omega)
    show f (y + 1) - f y = g (y + 1) - g y
    rw [h y (by omega), h (y + 1) (by omega)]
theorem eq_of_DI : ∀ (n : Nat) (f g : Nat → Int), (∀ d, d < n → DI d f 0 = DI d g 0) → ∀ x, x < n → f x = g x
  | 0, _, _, _, x, hx => by omega
  | n + 1, f, g, h, x, hx => by
    have hd : ∀ x, x < n → D f x = D g x := eq_of_DI n (D f) (D g) fun d hd => h (d + 1) (by omega)
    induction x with
    | zero => exact h 0 (by omega)
    | succ x ih =>
      have h1 := ih (by omega)
      have h2 := hd x (by omega)
      have h3 : f (x + 1) - f x = g (x + 1) - g x := h2
      omega
/-! a row that answers 0 at as many places as it has entries is 0 -/
theorem mx_zero : ∀ (e : List Int) (d : Nat) (p : Int), (∀ a ∈ mx d p e, a = 0) → p + (d : Int) * e.getD 0 0 = 0 ∧ ∀ a ∈ e, a = 0
  | [], d, p, h => ⟨by simpa using h p (by simp [mx]), by simp⟩
  | a :: r, d, p, h => by
    obtain ⟨h1, h2⟩ := mx_zero r (d + 1) a fun b hb => h b (List.mem_cons_of_mem _ hb)
    have h3 : p + d * a = 0 := h _ List.mem_cons_self
    have ha : a = 0 := by
      have : r.getD 0 0 = 0 := by
        cases r with
        | nil => rfl
        | cons b t => exact h2 b List.mem_cons_self
      rw [this] at h1
      simpa using h1
    refine ⟨h3, fun b hb => ?_⟩
    rcases List.mem_cons.mp hb with rfl | hb
    · exact ha
    · exact h2 b hb
theorem toN_zero : ∀ c : List Int, (∀ a ∈ toN c, a = 0) → ∀ a ∈ c, a = 0
  | [], _ => by simp
  | c :: cs, h => by
    have hl := mx_len 0 0 (toN cs)
    have h' : ∀ a ∈ addHead c (mx 0 0 (toN cs)), a = 0 := h
    cases q : mx 0 0 (toN cs) with
    | nil => rw [q] at hl; simp at hl
    | cons m ms =>
      rw [q] at h'
      have hm : m = 0 := by
        cases q2 : toN cs with
        | nil => rw [q2] at q; simp [mx] at q; exact q.1.symm
        | cons b t => rw [q2] at q; simp [mx] at q; exact q.1.symm
      have hc : c = 0 := by
        have := h' (m + c) List.mem_cons_self
        omega
      have hall : ∀ a ∈ mx 0 0 (toN cs), a = 0 := by
        rw [q]
        intro a ha
        rcases List.mem_cons.mp ha with rfl | ha
        · exact hm
        · exact h' a (List.mem_cons_of_mem _ ha)
      have := toN_zero cs (mx_zero (toN cs) 0 0 hall).2
      intro a ha
      rcases List.mem_cons.mp ha with rfl | ha
      · exact hc
      · exact this a ha
theorem zero_of_places (c : List Int) (n : Nat) (hl : c.length ≤ n) (h : ∀ x : Nat, x < n → hev c x = 0) : ∀ a ∈ c, a = 0 := by
  refine toN_zero c fun a ha => ?_
  obtain ⟨k, hk, rfl⟩ := List.getElem_of_mem ha
  rw [toN_len] at hk
  have h1 : DI k (fun x : Nat => nev (toN c) x) 0 = DI k (fun _ => 0) 0 := DI_congr k _ _ n (fun x hx => by rw [← hev_toN]; exact h x hx) 0 (by omega)
  have hz : ∀ k x, DI k (fun _ => 0) x = 0 := by
    intro k
    induction k with
    | zero => intro x; rfl
    | succ k ih =>
      intro x
      show DI k (D fun _ => 0) x = 0
      have : (D fun _ => 0) = fun _ => 0 := by funext y; simp [D]
      rw [this]; exact ih x
  rw [DI_nev0, hz] at h1
  have h2 : (toN c).getD k 0 = 0 := by
    rcases Int.mul_eq_zero.mp h1 with z | z
    · have := fac_pos k; omega
    · exact z
  rw [List.getD_eq_getElem?_getD, List.getElem?_eq_getElem] at h2
  exact h2
end M77
set_option Elab.async false
set_option linter.all false
set_option maxRecDepth 100000
set_option maxHeartbeats 4000000
namespace K77
open PySem PySem.Spec PyProof.Rows Fw L2
def G0 : Pg := ⟨[], fun _ _ => none, fun _ => none, fun _ _ => false⟩
abbrev S (k : Nat) : CSem := semF G0 (prgOf recs bodies) k
abbrev Sp (k : Nat) : CSem := semP G0 (prgOf recs bodies) k
theorem e_entry {k : Nat} {a0 a1 : PV} {h : PH} {Q : PV → PH → Prop} {E : PX → PH → Prop} (w : wpSs G0 (S k) (Sp k) (fun x _ => E x) b_entry { nx := fun _ h' => Q .non h', rt := Q } [some a0, some a1] h) : S (k + 1) 0 [a0, a1] h Q E := ⟨_, rfl, rfl, w⟩
theorem e_coefficients {k : Nat} {a0 : PV} {h : PH} {Q : PV → PH → Prop} {E : PX → PH → Prop} (w : wpSs G0 (S k) (Sp k) (fun x _ => E x) b_coefficients { nx := fun _ h' => Q .non h', rt := Q } [some a0, none, none, none] h) : S (k + 1) 1 [a0] h Q E := ⟨_, rfl, rfl, w⟩
theorem e_sum_at {k : Nat} {a0 a1 : PV} {h : PH} {Q : PV → PH → Prop} {E : PX → PH → Prop} (w : wpSs G0 (S k) (Sp k) (fun x _ => E x) b_sum_at { nx := fun _ h' => Q .non h', rt := Q } [some a0, some a1, none, none] h) : S (k + 1) 2 [a0, a1] h Q E := ⟨_, rfl, rfl, w⟩
theorem e_shortened {k : Nat} {a0 : PV} {h : PH} {Q : PV → PH → Prop} {E : PX → PH → Prop} (w : wpSs G0 (S k) (Sp k) (fun x _ => E x) b_shortened { nx := fun _ h' => Q .non h', rt := Q } [some a0, none] h) : S (k + 1) 3 [a0] h Q E := ⟨_, rfl, rfl, w⟩
theorem e_sum_same {k : Nat} {a0 a1 : PV} {h : PH} {Q : PV → PH → Prop} {E : PX → PH → Prop} (w : wpSs G0 (S k) (Sp k) (fun x _ => E x) b_sum_same { nx := fun _ h' => Q .non h', rt := Q } [some a0, some a1] h) : S (k + 1) 4 [a0, a1] h Q E := ⟨_, rfl, rfl, w⟩
theorem e_parted {k : Nat} {a0 : PV} {h : PH} {Q : PV → PH → Prop} {E : PX → PH → Prop} (w : wpSs G0 (S k) (Sp k) (fun x _ => E x) b_parted { nx := fun _ h' => Q .non h', rt := Q } [some a0, none, none, none] h) : S (k + 1) 5 [a0] h Q E := ⟨_, rfl, rfl, w⟩
theorem e_times_less {k : Nat} {a0 a1 : PV} {h : PH} {Q : PV → PH → Prop} {E : PX → PH → Prop} (w : wpSs G0 (S k) (Sp k) (fun x _ => E x) b_times_less { nx := fun _ h' => Q .non h', rt := Q } [some a0, some a1, none, none, none, none, none] h) : S (k + 1) 6 [a0, a1] h Q E := ⟨_, rfl, rfl, w⟩
theorem e_fooling_sum {k : Nat} {a0 : PV} {h : PH} {Q : PV → PH → Prop} {E : PX → PH → Prop} (w : wpSs G0 (S k) (Sp k) (fun x _ => E x) b_fooling_sum { nx := fun _ h' => Q .non h', rt := Q } [some a0, none, none] h) : S (k + 1) 7 [a0] h Q E := ⟨_, rfl, rfl, w⟩
theorem e_differences {k : Nat} {a0 : PV} {h : PH} {Q : PV → PH → Prop} {E : PX → PH → Prop} (w : wpSs G0 (S k) (Sp k) (fun x _ => E x) b_differences { nx := fun _ h' => Q .non h', rt := Q } [some a0, none, none, none, none] h) : S (k + 1) 8 [a0] h Q E := ⟨_, rfl, rfl, w⟩
theorem e_sum_of_answers {k : Nat} {a0 : PV} {h : PH} {Q : PV → PH → Prop} {E : PX → PH → Prop} (w : wpSs G0 (S k) (Sp k) (fun x _ => E x) b_sum_of_answers { nx := fun _ h' => Q .non h', rt := Q } [some a0, none, none, none, none, none, none, none, none, none] h) : S (k + 1) 9 [a0] h Q E := ⟨_, rfl, rfl, w⟩
theorem e__law_whole {k : Nat} {a0 : PV} {h : PH} {Q : PV → PH → Prop} {E : PX → PH → Prop} (w : wpSs G0 (S k) (Sp k) (fun x _ => E x) b__law_whole { nx := fun _ h' => Q .non h', rt := Q } [some a0] h) : S (k + 1) 10 [a0] h Q E := ⟨_, rfl, rfl, w⟩
theorem e__law_cell {k : Nat} {a0 a1 : PV} {h : PH} {Q : PV → PH → Prop} {E : PX → PH → Prop} (w : wpSs G0 (S k) (Sp k) (fun x _ => E x) b__law_cell { nx := fun _ h' => Q .non h', rt := Q } [some a0, some a1, none, none] h) : S (k + 1) 11 [a0, a1] h Q E := ⟨_, rfl, rfl, w⟩
theorem e__law_digits {k : Nat} {a0 a1 : PV} {h : PH} {Q : PV → PH → Prop} {E : PX → PH → Prop} (w : wpSs G0 (S k) (Sp k) (fun x _ => E x) b__law_digits { nx := fun _ h' => Q .non h', rt := Q } [some a0, some a1, none, none, none, none, none, none] h) : S (k + 1) 12 [a0, a1] h Q E := ⟨_, rfl, rfl, w⟩
theorem e__law_is {k : Nat} {a0 a1 : PV} {h : PH} {Q : PV → PH → Prop} {E : PX → PH → Prop} (w : wpSs G0 (S k) (Sp k) (fun x _ => E x) b__law_is { nx := fun _ h' => Q .non h', rt := Q } [some a0, some a1, none, none, none, none] h) : S (k + 1) 13 [a0, a1] h Q E := ⟨_, rfl, rfl, w⟩
theorem e__law_sum_at {k : Nat} {a0 a1 : PV} {h : PH} {Q : PV → PH → Prop} {E : PX → PH → Prop} (w : wpSs G0 (S k) (Sp k) (fun x _ => E x) b__law_sum_at { nx := fun _ h' => Q .non h', rt := Q } [some a0, some a1, none, none, none] h) : S (k + 1) 14 [a0, a1] h Q E := ⟨_, rfl, rfl, w⟩
theorem e__law_twin {k : Nat} {a0 a1 a2 : PV} {h : PH} {Q : PV → PH → Prop} {E : PX → PH → Prop} (w : wpSs G0 (S k) (Sp k) (fun x _ => E x) b__law_twin { nx := fun _ h' => Q .non h', rt := Q } [some a0, some a1, some a2, none, none, none] h) : S (k + 1) 15 [a0, a1, a2] h Q E := ⟨_, rfl, rfl, w⟩
theorem e__law_whole_sign {k : Nat} {a0 : PV} {h : PH} {Q : PV → PH → Prop} {E : PX → PH → Prop} (w : wpSs G0 (S k) (Sp k) (fun x _ => E x) b__law_whole_sign { nx := fun _ h' => Q .non h', rt := Q } [some a0] h) : S (k + 1) 16 [a0] h Q E := ⟨_, rfl, rfl, w⟩
theorem e__law_row_at {k : Nat} {a0 a1 : PV} {h : PH} {Q : PV → PH → Prop} {E : PX → PH → Prop} (w : wpSs G0 (S k) (Sp k) (fun x _ => E x) b__law_row_at { nx := fun _ h' => Q .non h', rt := Q } [some a0, some a1, none, none, none] h) : S (k + 1) 17 [a0, a1] h Q E := ⟨_, rfl, rfl, w⟩
theorem e__law_are_whole {k : Nat} {a0 : PV} {h : PH} {Q : PV → PH → Prop} {E : PX → PH → Prop} (w : wpSs G0 (S k) (Sp k) (fun x _ => E x) b__law_are_whole { nx := fun _ h' => Q .non h', rt := Q } [some a0, none, none, none, none] h) : S (k + 1) 18 [a0] h Q E := ⟨_, rfl, rfl, w⟩
theorem e__law_answered {k : Nat} {a0 a1 : PV} {h : PH} {Q : PV → PH → Prop} {E : PX → PH → Prop} (w : wpSs G0 (S k) (Sp k) (fun x _ => E x) b__law_answered { nx := fun _ h' => Q .non h', rt := Q } [some a0, some a1, none, none, none, none, none] h) : S (k + 1) 19 [a0, a1] h Q E := ⟨_, rfl, rfl, w⟩
theorem e__law_lengths {k : Nat} {a0 : PV} {h : PH} {Q : PV → PH → Prop} {E : PX → PH → Prop} (w : wpSs G0 (S k) (Sp k) (fun x _ => E x) b__law_lengths { nx := fun _ h' => Q .non h', rt := Q } [some a0, none, none, none, none, none, none, none, none, none, none] h) : S (k + 1) 20 [a0] h Q E := ⟨_, rfl, rfl, w⟩
theorem e_law {k : Nat} {a0 : PV} {h : PH} {Q : PV → PH → Prop} {E : PX → PH → Prop} (w : wpSs G0 (S k) (Sp k) (fun x _ => E x) b_law { nx := fun _ h' => Q .non h', rt := Q } [some a0, none, none, none, none, none, none, none, none, none, none, none, none, none, none, none, none] h) : S (k + 1) 21 [a0] h Q E := ⟨_, rfl, rfl, w⟩
local macro_rules | `(tactic| walk_at "wp") => `(tactic| try simp only [wpSs, wpSt, wpE, wpEs, wpT, wpTs, wpG, wpI, wpO, List.getElem?_cons_zero, List.getElem?_cons_succ, Option.some.injEq, exists_eq_left', exists_eq_left, Nat.reduceAdd, List.set_cons_zero, List.set_cons_succ, setAll, wipeP, prmV, mtyP, partP, ite_true, ite_false, if_true, if_false, Bool.false_eq_true, true_and, exists_const, List.length_cons, List.length_nil, p_add, p_sub, p_and, q_add, q_sub, c_lt, c_le, c_gt, c_ge, c_eq, c_ne, c_eqs, c_nes, c_is, c_isnt, c_isb, c_isntb, t_bl, t_int, i_int, i_bl, m_two, m_three, m_four, m_min, Item.v, Item.h, PV.int.injEq, PV.bl.injEq, PV.str.injEq, PV.loc.injEq])
abbrev IL (ns : List Int) : List PV := ns.map .int
theorem IL_get {ns : List Int} {i : Nat} : (IL ns)[i]? = (ns[i]?).map .int := List.getElem?_map
theorem entry_ok {k : Nat} {h : PH} {v : PV} {i : Nat} {ns : List Int} {Q : PV → PH → Prop} {E : PX → PH → Prop} (hs : seqOf G0 h v = some (IL ns)) (hq : Q (.int (ns.getD i 0)) h) : S (k + 1) 0 [v, .int i] h Q E := by
  refine e_entry ?_
  unfold b_entry
  walk_at "wp"
  rw [len_seq hs]
  walk_at "wp"
  rw [idx_seq hs, atI_nat', IL_get, List.length_map]
  by_cases hi : i < ns.length
  · rw [if_pos (by rw [decide_eq_true_eq]; omega)]
    refine ⟨.int ns[i], by rw [List.getElem?_eq_getElem hi]; rfl, ?_⟩
    rw [List.getD_eq_getElem?_getD, List.getElem?_eq_getElem hi] at hq
    exact hq
  · rw [if_neg (by rw [decide_eq_true_eq]; omega)]
    rw [List.getD_eq_getElem?_getD, List.getElem?_eq_none (by omega)] at hq
    exact hq
/-- two rows: a pair of lists or tuples -/
def SumAt (h : PH) (v : PV) (p q : List Int) : Prop := ∃ a b, seqOf G0 h v = some [a, b] ∧ seqOf G0 h a = some (IL p) ∧ seqOf G0 h b = some (IL q)
def coefs (p q : List Int) : List Int := (List.range (max p.length q.length)).map fun i => p.getD i 0 - q.getD i 0
theorem coefs_len (p q : List Int) : (coefs p q).length = max p.length q.length := by simp [coefs]
theorem coefs_at {p q : List Int} {i : Nat} (h : i < max p.length q.length) : (IL (coefs p q))[i]? = some (.int (p.getD i 0 - q.getD i 0)) := by
  rw [IL_get]
  unfold coefs
  rw [List.getElem?_map, List.getElem?_range h]; rfl
theorem seqOf_kp {h h' : PH} {v : PV} {xs : List PV} (kp : Kp0 h h') (e : seqOf G0 h v = some xs) : seqOf G0 h' v = some xs := by
  unfold seqOf at e ⊢
  have d : ∀ o, deref G0 h v = some o → deref G0 h' v = some o := fun o e => by
    cases v with
    | loc n => exact kp.get0 e
    | kon n => exact e
    | _ => cases e
  split at e
  · rename_i q; cases e; rw [d _ q]
  · rename_i q; cases e; rw [d _ q]
  · rename_i q; cases e; rw [d _ q]
  · cases e
theorem SumAt.kp {h h' : PH} {v : PV} {p q : List Int} (kp : Kp0 h h') (s : SumAt h v p q) : SumAt h' v p q := by
  obtain ⟨a, b, e1, e2, e3⟩ := s
  exact ⟨a, b, seqOf_kp kp e1, seqOf_kp kp e2, seqOf_kp kp e3⟩
theorem coefs_ok {k : Nat} {h : PH} {v : PV} {p q : List Int} {Q : PV → PH → Prop} {E : PX → PH → Prop} (hs : SumAt h v p q) (hl : p.length ≤ 100 ∧ q.length ≤ 100)
    (hq : Q (.loc h.length) (h ++ [.lst (IL (coefs p q))])) : S (k + 2) 1 [v] h Q E := by
  obtain ⟨a, b, e1, e2, e3⟩ := hs
  refine e_coefficients ?_
  unfold b_coefficients
  walk_at "wp"
  refine ⟨_, e1, rfl, ?_⟩
  walk_at "wp"
  rw [len_seq e2]
  walk_at "wp"
  rw [len_seq e3]
  walk_at "wp"
  refine ⟨_, rng_1' (n := max p.length q.length) (by simp; omega) (by omega), ?_⟩
  dsimp only
  refine lc_map (IL (coefs p q)) rfl (by rw [List.length_map, coefs_len, rngL_len]) (by rw [rngL_len, line_eq]; omega) (fun _ => trivial) rngL_val ?_ hq
  intro i x y h' K kp hx hy hK
  obtain ⟨hi, e⟩ := rng_item hx
  cases e
  rw [coefs_at hi] at hy
  cases hy
  walk_at "wp"
  refine entry_ok (seqOf_kp kp e2) ?_
  refine entry_ok (seqOf_kp kp e3) ?_
  walk_at "wp"
  exact hK
/-- the bound on all numbers that are multiplied -/
def Sm (b : Nat) (i : Int) : Prop := i.natAbs < 2 ^ b
theorem Sm.mono {a b : Nat} {i : Int} (h : Sm a i) (l : a ≤ b) : Sm b i := Nat.lt_of_lt_of_le h (Nat.pow_le_pow_right (by decide) l)
theorem Sm.mul {a b : Nat} {i j : Int} (h : Sm a i) (h' : Sm b j) : Sm (a + b) (i * j) := by
  unfold Sm
  rw [Int.natAbs_mul, Nat.pow_add]
  exact Nat.mul_lt_mul'' h h'
theorem Sm.add {a : Nat} {i j : Int} (h : Sm a i) (h' : Sm a j) : Sm (a + 1) (i + j) := by
  have h : i.natAbs < 2 ^ a := h
  have h' : j.natAbs < 2 ^ a := h'
  show (i + j).natAbs < 2 ^ (a + 1)
  rw [Nat.pow_succ]
  omega
theorem Sm.sub {a : Nat} {i j : Int} (h : Sm a i) (h' : Sm a j) : Sm (a + 1) (i - j) := by
  have h : i.natAbs < 2 ^ a := h
  have h' : j.natAbs < 2 ^ a := h'
  show (i - j).natAbs < 2 ^ (a + 1)
  rw [Nat.pow_succ]
  omega
theorem Sm.get {b : Nat} {p : List Int} (h : ∀ c ∈ p, Sm b c) (i : Nat) : Sm b (p.getD i 0) := by
  rw [List.getD_eq_getElem?_getD]
  cases e : p[i]? with
  | none => exact Nat.two_pow_pos b
  | some x => exact h x (List.mem_of_getElem? e)
theorem coefs_sm {b : Nat} {p q : List Int} (hp : ∀ c ∈ p, Sm b c) (hq : ∀ c ∈ q, Sm b c) : ∀ c ∈ coefs p q, Sm (b + 1) c := by
  intro c hc
  unfold coefs at hc
  obtain ⟨i, _, rfl⟩ := List.mem_map.mp hc
  exact (Sm.get hp i).sub (Sm.get hq i)
/-- from the last one on -/
def hrev (x : Int) : List Int → Int → Int
  | [], t => t
  | a :: r, t => hrev x r (t * x + a)
theorem hrev_snoc (x a : Int) : ∀ (l : List Int) (t : Int), hrev x (l ++ [a]) t = hrev x l t * x + a
  | [], t => rfl
  | b :: r, t => hrev_snoc x a r _
theorem hrev_hev (x : Int) : ∀ c : List Int, hrev x c.reverse 0 = M77.hev c x
  | [] => rfl
  | a :: r => by
    rw [List.reverse_cons, hrev_snoc, hrev_hev x r]
    show _ = a + x * M77.hev r x
    rw [Int.mul_comm]; omega
theorem take_rev {α : Type} {l : List α} {i : Nat} {v : α} (e : l[i]? = some v) : l.take (i + 1) = l.take i ++ [v] := by
  rw [List.take_add_one, e]; rfl
theorem sum_at_ok {k : Nat} {h : PH} {v : PV} {p q : List Int} {x : Int} {Q : PV → PH → Prop} {E : PX → PH → Prop} (hs : SumAt h v p q) (hl : p.length ≤ 100 ∧ q.length ≤ 100) (hp : ∀ c ∈ p, Sm 100 c) (hq' : ∀ c ∈ q, Sm 100 c) (hx : Sm 100 x)
    (hq : ∀ h', Kp0 h h' → Q (.int (M77.hev (coefs p q) x)) h') : S (k + 3) 2 [v, .int x] h Q E := by
  refine e_sum_at ?_
  unfold b_sum_at
  walk_at "wp"
  refine coefs_ok hs hl ?_
  refine ⟨_, lstOf_lst get_new, ?_⟩
  have hrl : (coefs p q).length ≤ 100 := by rw [coefs_len]; omega
  refine for_inv (fun i σ h' => ∃ t y, σ = [some v, some (.int x), some (.int t), y] ∧ h' = h ++ [.lst (IL (coefs p q))] ∧ t = hrev x ((coefs p q).reverse.take i) 0 ∧ Sm (102 * i + 102) t) ⟨0, none, rfl, rfl, by simp [hrev], Nat.two_pow_pos _⟩ ?_ ?_
  · rintro i it σ h' K hi ⟨t, y, rfl, rfl, ht, hb⟩ hK
    refine ⟨lstOf_lst get_new, ?_⟩
    obtain ⟨w, hw, rfl⟩ := val_item hi
    rw [← List.map_reverse] at hw
    have hw' : (IL (coefs p q).reverse)[i]? = some w := hw
    rw [IL_get] at hw'
    obtain ⟨c, hc, rfl⟩ := Option.map_eq_some_iff.mp hw'
    have hi' : i < 100 := by have := get_len hc; simp at this; omega
    walk_at "wp"
    refine ⟨_, mul_fit (102 * i + 102) 100 hb hx (by omega) (by omega) (by omega), ?_⟩
    walk_at "wp"
    have hcs : Sm 101 c := coefs_sm hp hq' c (by have := List.mem_of_getElem? hc; simpa using this)
    refine hK _ _ ⟨t * x + c, _, rfl, rfl, ?_, ?_⟩
    · rw [take_rev hc, hrev_snoc, ← ht]
    · have h1 : Sm (102 * i + 102 + 100) (t * x) := hb.mul hx
      exact ((h1.add (hcs.mono (by omega))).mono (by omega))
  · rintro σ h' ⟨t, y, rfl, rfl, ht, hb⟩
    refine ⟨lstOf_lst get_new, ?_⟩
    walk_at "wp"
    rw [List.take_of_length_le (by simp), hrev_hev] at ht
    rw [ht]
    exact hq _ Kp.snoc
/-! ### shortened, sum_same -/
def short (ns : List Int) : List Int := (ns.reverse.dropWhile (· == 0)).reverse
/-- the least place behind which all is 0 -/
def cutN (ns : List Int) : Nat → Nat
  | 0 => 0
  | e + 1 => if ns.getD e 0 = 0 then cutN ns e else e + 1
theorem slc_hi {ns : List Int} {e : Nat} (he : e ≤ ns.length) : cutP (IL ns) none (some (e : Int)) = IL (ns.take e) := by
  unfold cutP
  have h1 : HT.sIx (IL ns).length 0 none = 0 := rfl
  have h2 : HT.sIx (IL ns).length (IL ns).length (some (e : Int)) = min e (IL ns).length := HT.sIx_nat _ _ e
  rw [h1, h2, List.length_map, Nat.min_eq_left he]
  simp [IL, List.map_take]
theorem cutN_le (ns : List Int) : ∀ e, cutN ns e ≤ e
  | 0 => Nat.le_refl _
  | e + 1 => by
    unfold cutN
    split
    · exact Nat.le_succ_of_le (cutN_le ns e)
    · exact Nat.le_refl _
theorem shortened_ok {k : Nat} {h : PH} {n : Nat} {ns : List Int} {Q : PV → PH → Prop} {E : PX → PH → Prop} (hs : h[n]? = some (.lst (IL ns)))
    (hq : Q (.loc h.length) (h ++ [.lst (IL (ns.take (cutN ns ns.length)))])) : S (k + 1) 3 [.loc n] h Q E := by
  refine e_shortened ?_
  unfold b_shortened
  walk_at "wp"
  rw [len_seq (seqOf_lst hs)]
  walk_at "wp"
  refine ⟨fun m σ h' => ∃ e : Nat, m = e ∧ σ = [some (.loc n), some (.int (e : Int))] ∧ h' = h ∧ e ≤ ns.length ∧ cutN ns ns.length = cutN ns e, ⟨ns.length, ns.length, rfl, by rw [List.length_map], rfl, Nat.le_refl _, rfl⟩, ?_⟩
  rintro m σ h' ⟨e, rfl, rfl, rfl, he, hc⟩
  walk_at "wp"
  cases m with
  | zero =>
    rw [if_neg (by simp)]
    rw [slc_lst (lstOf_lst hs)]
    walk_at "wp"
    rw [show cutP (IL ns) none (some ((0 : Nat) : Int)) = IL (ns.take (cutN ns ns.length)) by rw [slc_hi (Nat.zero_le _), hc]; rfl]
    exact hq
  | succ e =>
    have lt : e < ns.length := by omega
    rw [if_pos (by rw [decide_eq_true_eq]; omega)]
    have e1 : (((e + 1 : Nat) : Int) - 1) = (e : Int) := by omega
    rw [e1, idx_seq (seqOf_lst hs), atI_nat', IL_get, List.getElem?_eq_getElem lt]
    refine ⟨.int ns[e], rfl, ?_⟩
    walk_at "wp"
    have hg : ns.getD e 0 = ns[e] := by rw [List.getD_eq_getElem?_getD, List.getElem?_eq_getElem lt]; rfl
    by_cases hz : ns[e] = 0
    · rw [if_pos (by rw [hz]; rfl)]
      refine ⟨e, Nat.lt_succ_self e, rfl, by omega, ?_⟩
      rw [hc]
      show (if ns.getD e 0 = 0 then cutN ns e else e + 1) = _
      rw [if_pos (hg.trans hz)]
    · rw [if_neg (by rw [decide_eq_true_eq]; exact hz)]
      rw [slc_lst (lstOf_lst hs)]
      walk_at "wp"
      have hc2 : cutN ns ns.length = e + 1 := by
        rw [hc]
        show (if ns.getD e 0 = 0 then cutN ns e else e + 1) = _
        rw [if_neg (by rw [hg]; exact hz)]
      rw [slc_hi he, ← hc2]
      exact hq
/-! two lists of numbers compared -/
theorem data_int {h : PH} (k : Nat) (i : Int) : dataOf G0 h k (.int i) = some (.int i) := by cases k <;> rfl
theorem mapM_ints {h : PH} (k : Nat) : ∀ ns : List Int, (IL ns).mapM (dataOf G0 h k) = some (ns.map .int)
  | [] => rfl
  | i :: r => by
    show (PV.int i :: IL r).mapM (dataOf G0 h k) = _
    rw [List.mapM_cons, data_int, mapM_ints k r]; rfl
theorem lay_ints : ∀ ns : List Int, PyData.canLayAll0 (ns.map .int) = true
  | [] => rfl
  | _ :: r => by
    show (true && PyData.canLayAll0 (r.map .int)) = true
    rw [lay_ints r]; rfl
theorem eqv_ints : ∀ ns ms : List Int, PyData.eqvAll (ns.map .int) (ms.map .int) = decide (ns = ms)
  | [], [] => rfl
  | [], _ :: _ => rfl
  | _ :: _, [] => rfl
  | a :: r, b :: t => by
    show (PyData.eqv (.int a) (.int b) && PyData.eqvAll (r.map .int) (t.map .int)) = _
    rw [eqv_ints r t]
    show ((a == b) && decide (r = t)) = _
    by_cases h : a = b
    · subst h; by_cases h2 : r = t <;> simp [h2]
    · simp [h]
end K77
set_option Elab.async false
set_option linter.all false
set_option maxRecDepth 100000
set_option maxHeartbeats 4000000
namespace K77
open PySem PySem.Spec PyProof.Rows Fw L2
local macro_rules | `(tactic| walk_at "wp") => `(tactic| try simp only [wpSs, wpSt, wpE, wpEs, wpT, wpTs, wpG, wpI, wpO, List.getElem?_cons_zero, List.getElem?_cons_succ, Option.some.injEq, exists_eq_left', exists_eq_left, Nat.reduceAdd, List.set_cons_zero, List.set_cons_succ, setAll, wipeP, prmV, mtyP, partP, ite_true, ite_false, if_true, if_false, Bool.false_eq_true, true_and, exists_const, List.length_cons, List.length_nil, p_add, p_sub, p_and, q_add, q_sub, c_lt, c_le, c_gt, c_ge, c_eq, c_ne, c_eqs, c_nes, c_is, c_isnt, c_isb, c_isntb, t_bl, t_int, i_int, i_bl, m_two, m_three, m_four, m_min, Item.v, Item.h, PV.int.injEq, PV.bl.injEq, PV.str.injEq, PV.loc.injEq])
theorem depth_ints : ∀ ns : List Int, PyData.depthAll (ns.map .int) ≤ 1
  | [] => by decide
  | a :: r => by
    have := depth_ints r
    show max (PyData.depth (.int a)) (PyData.depthAll (r.map .int)) ≤ 1
    have h : PyData.depth (.int a) ≤ 1 := Nat.le_of_ble_eq_true rfl
    omega
theorem shaped_ints (ns : List Int) : SeqAt.shaped (.list (ns.map .int)) = true := by
  unfold SeqAt.shaped
  have h1 : PyData.canLay0 (.list (ns.map .int)) = true := lay_ints ns
  have h2 : PyData.depth (.list (ns.map .int)) ≤ 64 := by
    have := depth_ints ns
    show PyData.depthAll (ns.map .int) + 1 ≤ 64
    omega
  rw [h1, decide_eq_true h2]; rfl
theorem eq_ints {h : PH} {a b : Nat} {ns ms : List Int} (ha : h[a]? = some (.lst (IL ns))) (hb : h[b]? = some (.lst (IL ms))) : cmpV G0 .Eq (.loc a) (.loc b) h = some (decide (ns = ms)) := by
  show eqP G0 h (.loc a) (.loc b) = _
  have da : ∀ {a : Nat} {ns : List Int}, h[a]? = some (.lst (IL ns)) → dataOf G0 h 60 (.loc a) = some (.list (ns.map .int)) := fun {a ns} e => by
    show (match deref G0 h (.loc a) with
      | some (.lst xs) => (xs.mapM (dataOf G0 h 59)).map PyData.list
      | some (.rol xs) => (xs.mapM (dataOf G0 h 59)).map PyData.list
      | some (.tup xs) => (xs.mapM (dataOf G0 h 59)).map PyData.tuple
      | _ => none) = _
    rw [deref_loc e]
    dsimp only
    rw [mapM_ints]; rfl
  unfold eqP
  rw [if_neg (by simp [scalP]), da ha, da hb]
  dsimp only
  rw [shaped_ints, shaped_ints, if_pos (by rfl)]
  show some (PyData.eqvAll (ns.map .int) (ms.map .int)) = _
  rw [eqv_ints]
def sh (p q : List Int) : List Int := (coefs p q).take (cutN (coefs p q) (coefs p q).length)
theorem sum_same_ok {k : Nat} {h : PH} {v u : PV} {p q p' q' : List Int} {Q : PV → PH → Prop} {E : PX → PH → Prop} (hs : SumAt h v p q) (hs' : SumAt h u p' q') (hl : p.length ≤ 100 ∧ q.length ≤ 100) (hl' : p'.length ≤ 100 ∧ q'.length ≤ 100)
    (hq : ∀ h', Kp0 h h' → Q (.bl (decide (sh p q = sh p' q'))) h') : S (k + 3) 4 [v, u] h Q E := by
  refine e_sum_same ?_
  unfold b_sum_same
  walk_at "wp"
  refine coefs_ok hs hl ?_
  walk_at "wp"
  refine shortened_ok get_new ?_
  have k1 : Kp0 h (h ++ [.lst (IL (coefs p q))] ++ [.lst (IL (sh p q))]) := Kp.snoc.trans Kp.snoc
  refine coefs_ok (hs'.kp k1) hl' ?_
  walk_at "wp"
  refine shortened_ok get_new ?_
  refine ⟨_, eq_ints (ns := sh p q) (ms := sh p' q') ?_ get_new, hq _ (k1.trans (Kp.snoc.trans Kp.snoc))⟩
  have k2 : Kp0 (h ++ [.lst (IL (coefs p q))] ++ [.lst (IL (sh p q))]) (h ++ [.lst (IL (coefs p q))] ++ [.lst (IL (sh p q))] ++ [.lst (IL (coefs p' q'))] ++ [.lst (IL (sh p' q'))]) := Kp.snoc.trans Kp.snoc
  exact k2.get0 get_new
/-- a pair of tuples of numbers -/
structure PairAt (h : PH) (n : Nat) (p q : List Int) : Prop where
  ex : ∃ a b, h[n]? = some (.tup [.loc a, .loc b]) ∧ h[a]? = some (.tup (IL p)) ∧ h[b]? = some (.tup (IL q))
theorem PairAt.sum {h : PH} {n : Nat} {p q : List Int} (x : PairAt h n p q) : SumAt h (.loc n) p q := by
  obtain ⟨a, b, e1, e2, e3⟩ := x.ex
  exact ⟨_, _, seqOf_tup e1, seqOf_tup e2, seqOf_tup e3⟩
theorem PairAt.kp {h h' : PH} {n : Nat} {p q : List Int} (x : PairAt h n p q) (kp : Kp0 h h') : PairAt h' n p q := by
  obtain ⟨a, b, e1, e2, e3⟩ := x.ex
  exact ⟨a, b, kp.get0 e1, kp.get0 e2, kp.get0 e3⟩
def pos (ns : List Int) : List Int := ns.map fun i => max 0 i
def neg (ns : List Int) : List Int := ns.map fun i => max 0 (-i)
theorem parted_ok {k : Nat} {h : PH} {n : Nat} {ns : List Int} {Q : PV → PH → Prop} {E : PX → PH → Prop} (hs : h[n]? = some (.lst (IL ns))) (hl : ns.length ≤ 1000)
    (hq : ∀ h' m, Kp0 h h' → h.length ≤ m → PairAt h' m (pos ns) (neg ns) → Q (.loc m) h') : S (k + 1) 5 [.loc n] h Q E := by
  refine e_parted ?_
  unfold b_parted
  walk_at "wp"
  refine ⟨_, _, deref_loc hs, rfl, ?_⟩
  have one : ∀ {f : Int → Int} {h : PH} {tg : PV → PSt → PH → (PSt → PH → Prop) → Prop} {el : PSt → PH → (PV → PH → Prop) → Prop} {σ0 : PSt} {Q : PV → PH → Prop}, h[n]? = some (.lst (IL ns)) → (∀ (i : Int) (h' : PH) (K : PV → PH → Prop), K (.int (f i)) h' → tg (.int i) σ0 h' fun σ2 h2 => el σ2 h2 K) → Q (.loc h.length) (h ++ [.lst (IL (ns.map f))]) →
      wpLc tg (fun _ h Q => Q true h) el σ0 h.length Q (fun h' => deref G0 h' (.loc n) = some (.lst (IL ns))) ((IL ns).map Item.val) (h ++ [.lst []]) := by
    intro f h tg el σ0 Q hs st hq
    refine lc_map (IL (ns.map f)) rfl (by simp) (by rw [List.length_map, List.length_map, line_eq]; omega) (fun xs => deref_loc (Kp.snoc.get0 hs)) vals_val ?_ hq
    intro i v y h' K kp hx hy hK
    obtain ⟨w, hw, e⟩ := val_item hx
    cases e
    rw [IL_get] at hw
    obtain ⟨c, hc, rfl⟩ := Option.map_eq_some_iff.mp hw
    refine st c h' K ?_
    rw [IL_get, List.getElem?_map, hc] at hy
    have hy : some (PV.int (f c)) = some y := hy
    cases hy
    exact hK
  refine one (f := fun i => max 0 i) hs ?_ ?_
  · intro i h' K hK
    walk_at "wp"
    exact hK
  · walk_at "wp"
    rw [tuple_lst (lstOf_lst get_new)]
    walk_at "wp"
    have k1 : Kp0 h (h ++ [.lst (IL (pos ns))] ++ [.tup (IL (pos ns))]) := Kp.snoc.trans Kp.snoc
    refine ⟨_, _, deref_loc (k1.get0 hs), rfl, ?_⟩
    refine one (f := fun i => max 0 (-i)) (k1.get0 hs) ?_ ?_
    · intro i h' K hK
      walk_at "wp"
      exact hK
    · walk_at "wp"
      rw [tuple_lst (lstOf_lst get_new)]
      walk_at "wp"
      refine ⟨by rw [line_eq]; decide, ?_⟩
      refine hq _ _ ?_ ?_ ⟨_, _, get_new, ?_, ?_⟩
      · exact k1.trans (Kp.snoc.trans (Kp.snoc.trans Kp.snoc))
      · simp <;> omega
      · refine Kp.get0 (a := h ++ [.lst (IL (pos ns))] ++ [.tup (IL (pos ns))]) ?_ get_new
        exact Kp.snoc.trans (Kp.snoc.trans Kp.snoc)
      · exact (Kp.snoc (S := [])).get0 get_new
/-! times_less -/
/-- the coefficients, multiplied by (x - r) -/
def tl (ns : List Int) (r : Int) : List Int := List.zipWith (fun a b => a - b) (0 :: ns) (ns.map (fun i => r * i) ++ [0])
theorem tl_len (ns : List Int) (r : Int) : (tl ns r).length = ns.length + 1 := by simp [tl]
theorem tl_at {ns : List Int} {r : Int} {i : Nat} {a b : Int} (h : (0 :: ns)[i]? = some a) (h' : (ns.map (fun i => r * i) ++ [0])[i]? = some b) : (tl ns r)[i]? = some (a - b) := by
  unfold tl
  rw [List.getElem?_zipWith, h, h']
theorem zip_item {xs ys : List PV} {i : Nat} {x : Item} (e : (zipL xs ys)[i]? = some x) : ∃ v u, xs[i]? = some v ∧ ys[i]? = some u ∧ x = .tup [v, u] := by
  obtain ⟨p, hp, rfl⟩ := its_at (l := xs.zip ys) e
  obtain ⟨h1, h2⟩ := List.getElem?_zip_eq_some.mp hp
  exact ⟨_, _, h1, h2, rfl⟩
theorem zip_len {xs ys : List PV} : (zipL xs ys).length = min xs.length ys.length := by simp [zipL]
theorem times_less_ok {k : Nat} {h : PH} {n : Nat} {ns : List Int} {r : Int} {Q : PV → PH → Prop} {E : PX → PH → Prop} (hs : h[n]? = some (.lst (IL ns))) (hl : ns.length ≤ 1000) (hb : ∀ c ∈ ns, Sm 1000 c) (hr : Sm 1000 r)
    (hq : ∀ h' m, Kp0 h h' → h.length ≤ m → h'[m]? = some (.lst (IL (tl ns r))) → Q (.loc m) h') : S (k + 1) 6 [.loc n, .int r] h Q E := by
  refine e_times_less ?_
  unfold b_times_less
  walk_at "wp"
  refine ⟨by rw [line_eq]; decide, ?_⟩
  rw [cat_lst get_new (Kp.snoc (S := []) |>.get0 hs) (by rw [List.length_map, line_eq]; simp; omega)]
  walk_at "wp"
  have k1 : Kp0 h (h ++ [.lst [.int 0]] ++ [.lst ([.int 0] ++ IL ns)]) := Kp.snoc.trans Kp.snoc
  refine ⟨_, _, deref_loc (k1.get0 hs), rfl, ?_⟩
  generalize hh1 : h ++ [PO.lst [.int 0]] ++ [PO.lst ([.int 0] ++ IL ns)] = h1 at k1
  have hi1 : h1[(h ++ [PO.lst [.int 0]]).length]? = some (.lst (IL (0 :: ns))) := by rw [← hh1]; exact get_new
  have lenh : (h ++ [PO.lst [.int 0]]).length < h1.length := get_len hi1
  generalize (h ++ [PO.lst [.int 0]]).length = high at hi1 lenh
  refine lc_map (IL (ns.map fun i => r * i)) rfl (by simp) (by rw [List.length_map, List.length_map, line_eq]; omega) (fun xs => deref_loc (Kp.snoc.get0 (k1.get0 hs))) vals_val ?_ ?_
  · intro i v y h' K kp hx hy hK
    obtain ⟨w, hw, e⟩ := val_item hx
    cases e
    rw [IL_get] at hw
    obtain ⟨c, hc, rfl⟩ := Option.map_eq_some_iff.mp hw
    walk_at "wp"
    refine ⟨_, mul_fit 1000 1000 hr (hb c (List.mem_of_getElem? hc)) (by omega) (by omega) (by omega), ?_⟩
    rw [IL_get, List.getElem?_map, hc] at hy
    have hy : some (PV.int (r * c)) = some y := hy
    cases hy
    exact hK
  · walk_at "wp"
    refine ⟨by rw [line_eq]; decide, ?_⟩
    rw [cat_lst ((Kp.snoc (S := [])).get0 get_new) get_new (by rw [List.length_map, List.length_map, line_eq]; simp; omega)]
    walk_at "wp"
    have k2 : Kp0 h1 (h1 ++ [.lst (IL (ns.map fun i => r * i))] ++ [.lst [.int 0]] ++ [.lst (IL (ns.map fun i => r * i) ++ [.int 0])]) := Kp.snoc.trans (Kp.snoc.trans Kp.snoc)
    generalize hh2 : h1 ++ [PO.lst (IL (ns.map fun i => r * i))] ++ [PO.lst [.int 0]] ++ [PO.lst (IL (ns.map fun i => r * i) ++ [.int 0])] = h2 at k2
    have hi2 : h2[(h1 ++ [PO.lst (IL (ns.map fun i => r * i))] ++ [PO.lst [.int 0]]).length]? = some (.lst (IL (ns.map (fun i => r * i) ++ [0]))) := by
      have q : IL (ns.map (fun i => r * i) ++ [0]) = IL (ns.map fun i => r * i) ++ [.int 0] := by simp [IL]
      rw [← hh2, q]; exact get_new
    generalize (h1 ++ [PO.lst (IL (ns.map fun i => r * i))] ++ [PO.lst [.int 0]]).length = low at hi2
    have hi1' : h2[high]? = some (.lst (IL (0 :: ns))) := k2.get0 hi1
    refine ⟨_, _, lstOf_lst hi1', lstOf_lst hi2, ?_⟩
    have zl : (zipL (IL (0 :: ns)) (IL (ns.map (fun i => r * i) ++ [0]))).length = ns.length + 1 := by rw [zip_len]; simp
    refine lc_gen rfl (by rw [zl, line_eq]; omega) (fun i ys h' => ys = IL ((tl ns r).take i)) rfl (fun _ _ _ _ z _ => z) (fun i ys h' kp _ => ⟨lstOf_lst (kp.get0 hi1'), lstOf_lst (kp.get0 hi2)⟩) ?_ ?_
    · intro i x ys h' K kp hI hx hl hK
      obtain ⟨v, u, hv, hu, rfl⟩ := zip_item hx
      rw [IL_get] at hv hu
      obtain ⟨a, ha, rfl⟩ := Option.map_eq_some_iff.mp hv
      obtain ⟨b, hb, rfl⟩ := Option.map_eq_some_iff.mp hu
      walk_at "wp"
      refine ⟨_, seqOf_tup get_new, rfl, ?_⟩
      walk_at "wp"
      refine hK _ _ Kp.snoc ?_
      rw [hI, List.take_add_one, tl_at ha hb]
      simp [IL]
    · intro ys h' kp hd hl hI
      rw [hI, zl, List.take_of_length_le (by rw [tl_len]; exact Nat.le_refl _)] at hd
      walk_at "wp"
      refine hq h' _ (k1.trans (k2.trans kp)) ?_ hd
      have a1 := k1.1
      have a2 := k2.1
      omega
/-! fooling_sum -/
def foolR (n : Nat) : List Int := (List.range n).foldl (fun row (i : Nat) => tl row (i : Int)) [1]
theorem foolR_succ (n : Nat) : foolR (n + 1) = tl (foolR n) (n : Int) := by
  unfold foolR
  rw [List.range_succ, List.foldl_append]; rfl
theorem foolR_len : ∀ n, (foolR n).length = n + 1
  | 0 => rfl
  | n + 1 => by rw [foolR_succ, tl_len, foolR_len n]
theorem tl_mem {ns : List Int} {r : Int} {c : Int} (hc : c ∈ tl ns r) : ∃ a b, (a = 0 ∨ a ∈ ns) ∧ (b = 0 ∨ b ∈ ns) ∧ c = a - r * b := by
  obtain ⟨i, hi, rfl⟩ := List.getElem_of_mem hc
  rw [tl_len] at hi
  have h1 : (0 :: ns)[i]? = some ((0 :: ns)[i]'(by simp; omega)) := List.getElem?_eq_getElem _
  have h2 : (ns.map (fun i => r * i) ++ [0])[i]? = some ((ns.map (fun i => r * i) ++ [0])[i]'(by simp; omega)) := List.getElem?_eq_getElem _
  have h3 := tl_at h1 h2
  rw [List.getElem?_eq_getElem (by rw [tl_len]; omega)] at h3
  have m1 := List.mem_of_getElem? h1
  have m2 := List.mem_of_getElem? h2
  rw [Option.some.inj h3]
  generalize (0 :: ns)[i]'_ = a at m1
  generalize (ns.map (fun i => r * i) ++ [0])[i]'_ = b at m2
  have m1' : a = 0 ∨ a ∈ ns := List.mem_cons.mp m1
  rcases List.mem_append.mp m2 with m2 | m2
  · obtain ⟨d, hd, rfl⟩ := List.mem_map.mp m2
    exact ⟨a, d, m1', .inr hd, rfl⟩
  · simp at m2
    subst m2
    exact ⟨a, 0, m1', .inl rfl, by simp⟩
theorem Sm.zero {b : Nat} : Sm b 0 := Nat.two_pow_pos b
theorem tl_sm {ns : List Int} {r : Int} {b l : Nat} (h : ∀ c ∈ ns, Sm b c) (hr : Sm l r) : ∀ c ∈ tl ns r, Sm (b + l + 1) c := by
  intro c hc
  obtain ⟨x, y, hx, hy, rfl⟩ := tl_mem hc
  have h1 : Sm b x := by rcases hx with rfl | hx; exact Sm.zero; exact h x hx
  have h2 : Sm b y := by rcases hy with rfl | hy; exact Sm.zero; exact h y hy
  have h3 : Sm (b + l) (r * y) := by have := hr.mul h2; rw [Nat.add_comm] at this; exact this
  exact (h1.mono (by omega)).sub h3
theorem small_sm {n : Nat} (h : n < 256) : Sm 8 (n : Int) := by
  show (n : Int).natAbs < 2 ^ 8
  omega
theorem foolR_sm : ∀ n, n ≤ 20 → ∀ c ∈ foolR n, Sm (9 * n + 1) c
  | 0, _, c, hc => by
    have : c = 1 := by simpa [foolR] using hc
    subst this
    exact (show (1 : Int).natAbs < 2 ^ (9 * 0 + 1) by decide)
  | n + 1, hn, c, hc => by
    rw [foolR_succ] at hc
    exact (tl_sm (foolR_sm n (by omega)) (small_sm (by omega)) c hc).mono (by omega)
theorem fooling_ok {k : Nat} {h : PH} {n : Nat} {Q : PV → PH → Prop} {E : PX → PH → Prop} (hn : n ≤ 20) (hq : ∀ h' m, Kp0 h h' → h.length ≤ m → PairAt h' m (pos (foolR n)) (neg (foolR n)) → Q (.loc m) h') : S (k + 2) 7 [.int (n : Int)] h Q E := by
  refine e_fooling_sum ?_
  unfold b_fooling_sum
  walk_at "wp"
  refine ⟨by rw [line_eq]; decide, ?_⟩
  refine ⟨_, rng_1 (by omega), ?_⟩
  refine for_inv (fun i σ h' => ∃ m y, σ = [some (.int (n : Int)), some (.loc m), y] ∧ Kp0 h h' ∧ h.length ≤ m ∧ h'[m]? = some (.lst (IL (foolR i)))) ⟨_, none, rfl, Kp.snoc, Nat.le_refl _, get_new⟩ ?_ ?_
  · rintro i x σ h' K hx ⟨m, y, rfl, kp, hm, hd⟩ hK
    obtain ⟨hi, rfl⟩ := rng_item hx
    replace hi : i < n := hi
    refine ⟨trivial, ?_⟩
    walk_at "wp"
    refine times_less_ok hd (by rw [foolR_len]; omega) (fun c hc => (foolR_sm i (by omega) c hc).mono (by omega)) ((small_sm (by omega)).mono (by omega)) ?_
    intro h'' m' kp' hm' hd'
    walk_at "wp"
    refine hK _ _ ⟨m', _, rfl, kp.trans kp', by have := kp.1; omega, ?_⟩
    rw [foolR_succ]; exact hd'
  · rintro σ h' ⟨m, y, rfl, kp, hm, hd⟩
    refine ⟨trivial, ?_⟩
    rw [rngL_len] at hd
    replace hd : h'[m]? = some (.lst (IL (foolR n))) := hd
    walk_at "wp"
    refine parted_ok hd (by rw [foolR_len]; omega) ?_
    intro h'' m' kp' hm' hp
    exact hq h'' m' (kp.trans kp') (by have := kp.1; omega) hp
end K77
set_option Elab.async false
set_option linter.all false
set_option maxRecDepth 100000
set_option maxHeartbeats 4000000
namespace K77
open PySem PySem.Spec PyProof.Rows Fw L2
local macro_rules | `(tactic| walk_at "wp") => `(tactic| try simp only [wpSs, wpSt, wpE, wpEs, wpT, wpTs, wpG, wpI, wpO, List.getElem?_cons_zero, List.getElem?_cons_succ, Option.some.injEq, exists_eq_left', exists_eq_left, Nat.reduceAdd, List.set_cons_zero, List.set_cons_succ, setAll, wipeP, prmV, mtyP, partP, ite_true, ite_false, if_true, if_false, Bool.false_eq_true, true_and, exists_const, List.length_cons, List.length_nil, p_add, p_sub, p_and, q_add, q_sub, c_lt, c_le, c_gt, c_ge, c_eq, c_ne, c_eqs, c_nes, c_is, c_isnt, c_isb, c_isntb, t_bl, t_int, i_int, i_bl, m_two, m_three, m_four, m_min, Item.v, Item.h, PV.int.injEq, PV.bl.injEq, PV.str.injEq, PV.loc.injEq])
/-! differences -/
def stp1 (a : List Int) : List Int := List.zipWith (fun l r => r - l) a a.tail
def stp : Nat → List Int → List Int
  | 0, a => a
  | d + 1, a => stp1 (stp d a)
theorem stp1_len (a : List Int) : (stp1 a).length = a.length - 1 := by simp [stp1]
theorem stp_len : ∀ (d : Nat) (a : List Int), (stp d a).length = a.length - d
  | 0, a => rfl
  | d + 1, a => by
    show (stp1 (stp d a)).length = _
    rw [stp1_len, stp_len d a]; omega
theorem getD_of {a : List Int} {i : Nat} {c : Int} (h : a[i]? = some c) : a.getD i 0 = c := by
  rw [List.getD_eq_getElem?_getD, h]; rfl
theorem get_getD {a : List Int} {i : Nat} (h : i < a.length) : a[i]? = some (a.getD i 0) := by
  rw [List.getD_eq_getElem?_getD, List.getElem?_eq_getElem h]; rfl
theorem stp1_at {a : List Int} {i : Nat} (h : i + 1 < a.length) : (stp1 a)[i]? = some (a.getD (i + 1) 0 - a.getD i 0) := by
  unfold stp1
  rw [List.getElem?_zipWith, get_getD (show i < a.length by omega), List.getElem?_tail, get_getD h]
theorem DI_up : ∀ (d : Nat) (f : Nat → Int) (x : Nat), M77.DI (d + 1) f x = M77.DI d f (x + 1) - M77.DI d f x
  | 0, f, x => rfl
  | d + 1, f, x => DI_up d (M77.D f) x
theorem stp_DI (a : List Int) : ∀ (d x : Nat), d + x < a.length → (stp d a).getD x 0 = M77.DI d (fun x => a.getD x 0) x
  | 0, x, _ => rfl
  | d + 1, x, h => by
    rw [DI_up, ← stp_DI a d x (by omega), ← stp_DI a d (x + 1) (by omega)]
    exact getD_of (stp1_at (by rw [stp_len]; omega))
theorem stp_sm {a : List Int} {b : Nat} (h : ∀ c ∈ a, Sm b c) : ∀ (d : Nat), ∀ c ∈ stp d a, Sm (b + d) c
  | 0 => h
  | d + 1 => by
    intro c hc
    obtain ⟨i, hi⟩ := List.mem_iff_getElem?.mp hc
    have hi2 := get_len hi
    have hi' : i < (stp1 (stp d a)).length := hi2
    rw [stp1_len] at hi'
    have e := stp1_at (a := stp d a) (i := i) (by omega)
    rw [show stp (d + 1) a = stp1 (stp d a) from rfl, e] at hi
    cases hi
    exact (Sm.get (stp_sm h d) _).sub (Sm.get (stp_sm h d) _)
theorem t_lst {h : PH} {n : Nat} {xs : List PV} (e : h[n]? = some (.lst xs)) : truP G0 h (.loc n) = some (!xs.isEmpty) := by
  unfold truP; dsimp only; rw [e]
theorem mty_append {h : PH} {n : Nat} {xs : List PV} (e : h[n]? = some (.lst xs)) : mtyP G0 .append (.loc n) h = true := by
  show (lstOf G0 h (.loc n)).isSome = true
  rw [lstOf_lst e]; rfl
def fst (a : List Int) (d : Nat) : Int := (stp d a).getD 0 0
def dfs (a : List Int) (d : Nat) : List Int := (List.range d).map (fst a)
theorem dfs_succ (a : List Int) (d : Nat) : dfs a (d + 1) = dfs a d ++ [fst a d] := by unfold dfs; rw [List.range_succ, List.map_append]; rfl
theorem cut_tail {a : List PV} : cutP a (some 1) none = a.tail := by
  unfold cutP
  have h1 : HT.sIx a.length 0 (some ((1 : Nat) : Int)) = min 1 a.length := HT.sIx_nat _ _ 1
  have h2 : HT.sIx a.length a.length none = a.length := rfl
  rw [h2, show (some (1 : Int)) = some ((1 : Nat) : Int) from rfl, h1]
  cases a with
  | nil => rfl
  | cons x r => simp
theorem differences_ok {k : Nat} {h : PH} {v : PV} {a : List Int} {Q : PV → PH → Prop} {E : PX → PH → Prop} (hs : seqOf G0 h v = some (IL a)) (hl : a.length ≤ 1000)
    (hq : ∀ h' m, Kp0 h h' → h.length ≤ m → h'[m]? = some (.lst (IL (dfs a a.length))) → Q (.loc m) h') : S (k + 1) 8 [v] h Q E := by
  refine e_differences ?_
  unfold b_differences
  walk_at "wp"
  refine ⟨by rw [line_eq]; decide, ?_⟩
  rw [list_seq (seqOf_kp Kp.snoc hs)]
  walk_at "wp"
  refine ⟨fun m σ h' => ∃ r d y z, m = a.length - d ∧ d ≤ a.length ∧ σ = [some v, some (.loc h.length), some (.loc r), y, z] ∧ Kp0 h h' ∧ h.length < r ∧ h'[h.length]? = some (.lst (IL (dfs a d))) ∧ h'[r]? = some (.lst (IL (stp d a))), ⟨_, _, 0, none, none, rfl, Nat.zero_le _, rfl, Kp.snoc.trans Kp.snoc, by simp, ?_, get_new⟩, ?_⟩
  · exact (Kp.snoc (S := [])).get0 get_new
  rintro m σ h' ⟨r, d, y, z, rfl, hd, rfl, kp, hr, e1, e2⟩
  walk_at "wp"
  rw [t_lst e2]
  walk_at "wp"
  have lr := get_len e2
  by_cases lt : d < a.length
  · have ne : (IL (stp d a)).isEmpty = false := by
      cases q : stp d a with
      | nil => have := stp_len d a; rw [q] at this; simp at this; omega
      | cons x r => rfl
    rw [ne, if_pos (by rfl)]
    refine ⟨by rw [lstOf_lst e1]; rfl, ?_⟩
    rw [idx_seq (seqOf_lst e2), show (0 : Int) = ((0 : Nat) : Int) from rfl, atI_nat', IL_get, get_getD (by rw [stp_len]; omega)]
    refine ⟨.int (fst a d), rfl, ?_⟩
    rw [append_lst e1 (by rw [List.length_map]; unfold dfs; simp; rw [line_eq]; omega)]
    walk_at "wp"
    have e2' : (h'.set h.length (.lst (IL (dfs a d) ++ [.int (fst a d)])))[r]? = some (.lst (IL (stp d a))) := by
      rw [List.getElem?_set_ne (by omega)]; exact e2
    rw [slc_lst (lstOf_lst e2'), show cutP (IL (stp d a)) (some (1 : Int)) none = IL (stp d a).tail by rw [cut_tail]; simp]
    walk_at "wp"
    have kq : Kp0 h (h'.set h.length (.lst (IL (dfs a d) ++ [.int (fst a d)]))) := (Kp.drop (kp.to.trans (Kp.set (S := [h.length]) (List.mem_singleton.mpr rfl))) (Nat.le_refl _))
    have e1' : (h'.set h.length (.lst (IL (dfs a d) ++ [.int (fst a d)])))[h.length]? = some (.lst (IL (dfs a (d + 1)))) := by
      rw [get_put e1, dfs_succ]; simp [IL]
    have ln : (h'.set h.length (.lst (IL (dfs a d) ++ [.int (fst a d)]))).length = h'.length := List.length_set
    generalize h'.set h.length (.lst (IL (dfs a d) ++ [.int (fst a d)])) = g at e2' kq e1' ln
    refine ⟨_, _, lstOf_lst ((Kp.snoc (S := [])).get0 e2'), lstOf_lst get_new, ?_⟩
    have zl : (zipL (IL (stp d a)) (IL (stp d a).tail)).length = (stp (d + 1) a).length := by
      rw [zip_len, show stp (d + 1) a = stp1 (stp d a) from rfl, stp1_len]; simp
    refine lc_gen rfl (by rw [zl, stp_len, line_eq]; omega) (fun i ys h' => ys = IL ((stp (d + 1) a).take i)) rfl (fun _ _ _ _ z _ => z) (fun i ys h' kp _ => ⟨lstOf_lst (kp.get0 ((Kp.snoc (S := [])).get0 e2')), lstOf_lst (kp.get0 get_new)⟩) ?_ ?_
    · intro i x ys h' K kp hI hx hl hK
      obtain ⟨v, u, hv, hu, rfl⟩ := zip_item hx
      rw [IL_get] at hv hu
      obtain ⟨a', ha, rfl⟩ := Option.map_eq_some_iff.mp hv
      obtain ⟨b, hb, rfl⟩ := Option.map_eq_some_iff.mp hu
      have hst : (stp (d + 1) a)[i]? = some (b - a') := by
        show (stp1 (stp d a))[i]? = _
        unfold stp1
        rw [List.getElem?_zipWith, ha, hb]
      walk_at "wp"
      refine ⟨_, seqOf_tup get_new, rfl, ?_⟩
      walk_at "wp"
      refine hK _ _ Kp.snoc ?_
      rw [hI, List.take_add_one, hst]
      simp [IL]
    · intro ys h' kp' hd' hl' hI
      rw [hI, zl, List.take_of_length_le (Nat.le_refl _)] at hd'
      have kp'' := (Kp.snoc (S := [])).trans kp'
      refine ⟨a.length - (d + 1), by omega, _, d + 1, y, z, rfl, by omega, rfl, kq.trans kp'', ?_, kp''.get0 e1', hd'⟩
      have := kq.1
      simp
      omega
  · have ne : (IL (stp d a)).isEmpty = true := by
      cases q : stp d a with
      | nil => rfl
      | cons x r => have := stp_len d a; rw [q] at this; simp at this; omega
    rw [ne, if_neg (by decide)]
    have : d = a.length := by omega
    subst this
    exact hq _ _ kp (Nat.le_refl _) e1
end K77
set_option Elab.async false
set_option linter.all false
set_option maxRecDepth 100000
set_option maxHeartbeats 4000000
namespace K77
open PySem PySem.Spec PyProof.Rows Fw L2
local macro_rules | `(tactic| walk_at "wp") => `(tactic| try simp only [wpSs, wpSt, wpE, wpEs, wpT, wpTs, wpG, wpI, wpO, List.getElem?_cons_zero, List.getElem?_cons_succ, Option.some.injEq, exists_eq_left', exists_eq_left, Nat.reduceAdd, List.set_cons_zero, List.set_cons_succ, setAll, wipeP, prmV, mtyP, partP, ite_true, ite_false, if_true, if_false, Bool.false_eq_true, true_and, exists_const, List.length_cons, List.length_nil, p_add, p_sub, p_and, q_add, q_sub, c_lt, c_le, c_gt, c_ge, c_eq, c_ne, c_eqs, c_nes, c_is, c_isnt, c_isb, c_isntb, t_bl, t_int, i_int, i_bl, m_two, m_three, m_four, m_min, Item.v, Item.h, PV.int.injEq, PV.bl.injEq, PV.str.injEq, PV.loc.injEq])
/-! sum_of_answers -/
def addR : List Int → List Int → Int → List Int
  | [], _, _ => []
  | t :: T, [], _ => t :: T
  | t :: T, p :: P, c => (t + c * p) :: addR T P c
theorem addR_nil (c : Int) : ∀ T : List Int, addR T [] c = T
  | [] => rfl
  | _ :: _ => rfl
theorem addR_len (c : Int) : ∀ T P : List Int, (addR T P c).length = T.length
  | [], _ => rfl
  | _ :: _, [] => rfl
  | _ :: T, _ :: P => by show (addR T P c).length + 1 = T.length + 1; rw [addR_len c T P]
theorem hev_addR (c x : Int) : ∀ T P : List Int, P.length ≤ T.length → M77.hev (addR T P c) x = M77.hev T x + c * M77.hev P x
  | [], [], _ => by show (0 : Int) = 0 + c * 0; omega
  | [], _ :: _, h => by simp at h
  | t :: T, [], _ => by show M77.hev (t :: T) x = M77.hev (t :: T) x + c * 0; omega
  | t :: T, p :: P, h => by
    have ih := hev_addR c x T P (by simpa using h)
    show (t + c * p) + x * M77.hev (addR T P c) x = (t + x * M77.hev T x) + c * (p + x * M77.hev P x)
    rw [ih, Int.mul_add, Int.mul_add, Int.mul_left_comm x c]
    omega
theorem addR_get (c : Int) : ∀ (T P : List Int) (j : Nat), P.length ≤ j → (addR T P c)[j]? = T[j]?
  | [], _, _, _ => rfl
  | _ :: _, [], _, _ => rfl
  | t :: T, p :: P, j, h => by
    cases j with
    | zero => simp at h
    | succ j => exact addR_get c T P j (by simpa using h)
theorem addR_set (c : Int) : ∀ (T P : List Int) (j : Nat) (p t : Int), P[j]? = some p → T[j]? = some t → (addR T (P.take j) c).set j (t + c * p) = addR T (P.take (j + 1)) c
  | [], _, _, _, _, _, h => by simp at h
  | _ :: _, [], _, _, _, h, _ => by simp at h
  | t' :: T, p' :: P, 0, p, t, h, h' => by
    cases h; cases h'
    simp [addR, addR_nil]
  | t' :: T, p' :: P, j + 1, p, t, h, h' => by
    show ((t' + c * p') :: addR T (P.take j) c).set (j + 1) (t + c * p) = (t' + c * p') :: addR T (P.take (j + 1)) c
    rw [List.set_cons_succ, addR_set c T P j p t h h']
def quo (a : List Int) (d : Nat) : Int := (fst a d).fdiv (M77.fac d)
def totR (a : List Int) : Nat → List Int
  | 0 => List.replicate a.length 0
  | i + 1 => addR (totR a i) (foolR i) (quo a i)
theorem totR_len (a : List Int) : ∀ i, (totR a i).length = a.length
  | 0 => List.length_replicate
  | i + 1 => (addR_len _ _ _).trans (totR_len a i)
def divs (a : List Int) : Prop := ∀ d, d < a.length → (fst a d).fmod (M77.fac d) = 0
theorem fst_sm {a : List Int} {b : Nat} (h : ∀ c ∈ a, Sm b c) (d : Nat) : Sm (b + d) (fst a d) := Sm.get (stp_sm h d) 0
theorem quo_mul {a : List Int} {d : Nat} (h : (fst a d).fmod (M77.fac d) = 0) : M77.fac d * quo a d = fst a d := by
  have := Int.mul_fdiv_add_fmod (fst a d) (M77.fac d)
  rw [h] at this
  unfold quo
  omega
theorem quo_sm {a : List Int} {b : Nat} (hb : ∀ c ∈ a, Sm b c) {d : Nat} (h : (fst a d).fmod (M77.fac d) = 0) : Sm (b + d) (quo a d) := by
  have h1 := quo_mul h
  have h2 : (fst a d).natAbs < 2 ^ (b + d) := fst_sm hb d
  rw [← h1, Int.natAbs_mul] at h2
  have h3 := M77.fac_pos d
  have h4 : 1 * (quo a d).natAbs ≤ (M77.fac d).natAbs * (quo a d).natAbs := Nat.mul_le_mul_right _ (by omega)
  show (quo a d).natAbs < _
  omega
theorem fac_le : ∀ d, d ≤ 10 → M77.fac d ≤ 3628800 := by decide +kernel
theorem enum_item {xs : List PV} {i : Nat} {x : Item} (e : (enumL xs)[i]? = some x) : ∃ v, xs[i]? = some v ∧ x = .tup [.int (i : Int), v] := by
  obtain ⟨p, hp, rfl⟩ := its_at e
  rw [List.getElem?_zipIdx] at hp
  obtain ⟨v, hv, rfl⟩ := Option.map_eq_some_iff.mp hp
  exact ⟨v, hv, by simp⟩
theorem enum_len {xs : List PV} : (enumL xs).length = xs.length := by simp [enumL]
theorem set_at {h : PH} {n i : Nat} {xs : List PV} {v : PV} (e : h[n]? = some (.lst xs)) (hi : i < xs.length) : setP (.loc n) (.int (i : Int)) v h = some (h.set n (.lst (xs.set i v))) := by
  unfold setP
  dsimp only
  rw [e]
  dsimp only
  unfold ixN
  rw [if_pos (by omega), if_pos (by omega)]
  rfl
theorem idxL_lst {h : PH} {n : Nat} {xs : List PV} {i : Int} (e : h[n]? = some (.lst xs)) : idxL G0 h (.loc n) (.int i) = L2.atI xs i := by
  unfold idxL
  dsimp only
  rw [lstOf_lst e]
def tail9 : List IS := [.ite (.tru (.cmp .NotEq (.bin .Mod (.var 5) (.var 3)) (.cst (.int 0)))) [.ret (.cst .non)] [],
    .asg (.name 6) (.bin .FloorDiv (.var 5) (.var 3)),
    .for_ (.names [8, 9]) (.enum (.var 2)) [.augS (.var 1) (.var 8) .Add (.bin .Mult (.var 6) (.var 9))]]
theorem b_soa : b_sum_of_answers = [.asg (.name 1) (.comp (.cst (.int 0)) (.name 7) (.seq (.var 0)) [] [7]),
    .asg (.name 2) (.lst [.cst (.int 1)]),
    .asg (.name 3) (.cst (.int 1)),
    .for_ (.names [4, 5]) (.enum (.call 8 [.var 0])) ((.ite (.tru (.cmp .Gt (.var 4) (.cst (.int 0)))) [.asg (.name 2) (.call 6 [.var 2, .bin .Sub (.var 4) (.cst (.int 1))]),
    .aug 3 .Mult (.var 4)] []) :: tail9),
    .ret (.call 5 [.var 1])] := rfl
theorem tail9_ok {k : Nat} {E : PX → PSt → PH → Prop} {D : PEnds} {h : PH} {v : PV} {t p i : Nat} {a T : List Int} {y6 y7 y8 y9 : Option PV} (ht : h[t]? = some (.lst (IL T))) (hp : h[p]? = some (.lst (IL (foolR i)))) (ne : p ≠ t) (hi : i < 10) (hT : i < T.length) (hb : ∀ c ∈ a, Sm 500 c)
    (hN : (fst a i).fmod (M77.fac i) ≠ 0 → D.rt .non h)
    (hY : (fst a i).fmod (M77.fac i) = 0 → ∀ h' z6 z8 z9, Kp [t] h h' → h'[t]? = some (.lst (IL (addR T (foolR i) (quo a i)))) → D.nx [some v, some (.loc t), some (.loc p), some (.int (M77.fac i)), some (.int (i : Int)), some (.int (fst a i)), z6, y7, z8, z9] h') :
    wpSs G0 (S (k + 1)) (Sp (k + 1)) E tail9 D [some v, some (.loc t), some (.loc p), some (.int (M77.fac i)), some (.int (i : Int)), some (.int (fst a i)), y6, y7, y8, y9] h := by
  unfold tail9
  have f0 := M77.fac_pos i
  have f1 := fac_le i (by omega)
  walk_at "wp"
  rw [p_mod, if_pos (by omega)]
  walk_at "wp"
  by_cases hm : (fst a i).fmod (M77.fac i) = 0
  · rw [if_neg (by rw [hm]; decide)]
    rw [p_div, if_pos ⟨by omega, log_lt (Nat.lt_of_lt_of_le (show (M77.fac i).natAbs < 2 ^ 22 by omega) (Nat.pow_le_pow_right (by decide) (by omega))) (by omega)⟩]
    walk_at "wp"
    refine ⟨_, lstOf_lst hp, ?_⟩
    refine for_inv (fun j σ h' => ∃ z8 z9, σ = [some v, some (.loc t), some (.loc p), some (.int (M77.fac i)), some (.int (i : Int)), some (.int (fst a i)), some (.int (quo a i)), y7, z8, z9] ∧ Kp [t] h h' ∧ h'[t]? = some (.lst (IL (addR T ((foolR i).take j) (quo a i))))) ⟨y8, y9, rfl, Kp.refl, by rw [List.take_zero, addR_nil]; exact ht⟩ ?_ ?_
    · rintro j x σ h' K hx ⟨z8, z9, rfl, kp, e⟩ hK
      obtain ⟨u, hu, rfl⟩ := enum_item hx
      rw [IL_get] at hu
      obtain ⟨c, hc, rfl⟩ := Option.map_eq_some_iff.mp hu
      have hj := get_len hc
      rw [foolR_len] at hj
      refine ⟨lstOf_lst (kp.get hp (by simpa using ne)), ?_⟩
      walk_at "wp"
      refine ⟨_, seqOf_tup get_new, rfl, ?_⟩
      walk_at "wp"
      have e' := (Kp.snoc (S := []) (o := .tup [.int (j : Int), .int c])).get0 e
      rw [idxL_lst e', show L2.atI (IL (addR T ((foolR i).take j) (quo a i))) (j : Int) = some (.int (T.getD j 0)) by
        rw [atI_nat', IL_get, addR_get _ _ _ _ (by rw [List.length_take]; omega), get_getD (by omega)]; rfl]
      refine ⟨_, rfl, ?_⟩
      refine ⟨_, mul_fit 1000 1000 ((quo_sm hb hm).mono (by omega)) ((foolR_sm i (by omega) c (List.mem_of_getElem? hc)).mono (by omega)) (by omega) (by omega) (by omega), ?_⟩
      walk_at "wp"
      rw [set_at e' (by rw [List.length_map, addR_len]; omega)]
      refine ⟨_, rfl, ?_⟩
      refine hK _ _ ⟨_, _, rfl, (kp.trans Kp.snoc).trans (Kp.set (List.mem_singleton.mpr rfl)), ?_⟩
      rw [get_put e', ← addR_set (quo a i) T (foolR i) j c (T.getD j 0) hc (get_getD (by omega))]
      simp [IL, List.map_set]
    · rintro σ h' ⟨z8, z9, rfl, kp, e⟩
      refine ⟨lstOf_lst (kp.get hp (by simpa using ne)), ?_⟩
      rw [enum_len, List.length_map, List.take_of_length_le (Nat.le_refl _)] at e
      exact hY hm h' _ _ _ kp e
  · rw [if_pos (by rw [decide_eq_false hm]; rfl)]
    exact hN hm
theorem soa_ok {k : Nat} {h : PH} {n : Nat} {a : List Int} {Q : PV → PH → Prop} {E : PX → PH → Prop} (hs : h[n]? = some (.lst (IL a))) (hl : a.length ≤ 10) (hb : ∀ c ∈ a, Sm 500 c) (hN : ¬ divs a → ∀ h', Kp0 h h' → Q .non h')
    (hY : divs a → ∀ h' m, Kp0 h h' → h.length ≤ m → PairAt h' m (pos (totR a a.length)) (neg (totR a a.length)) → Q (.loc m) h') : S (k + 2) 9 [.loc n] h Q E := by
  refine e_sum_of_answers ?_
  rw [b_soa]
  walk_at "wp"
  refine ⟨_, _, deref_loc hs, rfl, ?_⟩
  refine lc_map (IL (List.replicate a.length 0)) rfl (by simp) (by rw [List.length_map, List.length_map, line_eq]; omega) (fun xs => deref_loc (Kp.snoc.get0 hs)) vals_val ?_ ?_
  · intro i v y h' K kp hx hy hK
    have hy' : y = .int 0 := by
      have := List.mem_of_getElem? hy
      simp at this
      exact this.2
    subst hy'
    walk_at "wp"
    exact hK
  walk_at "wp"
  refine ⟨by rw [line_eq]; decide, ?_⟩
  have e1 : (h ++ [.lst (IL (List.replicate a.length 0))] ++ [.lst [.int 1]])[h.length]? = some (.lst (IL (List.replicate a.length 0))) := Kp.snoc.get0 get_new
  have e2 : (h ++ [PO.lst (IL (List.replicate a.length 0))] ++ [.lst [.int 1]])[(h ++ [PO.lst (IL (List.replicate a.length 0))]).length]? = some (.lst (IL (foolR 0))) := get_new
  have e3 : h.length < (h ++ [PO.lst (IL (List.replicate a.length 0))]).length := by simp
  generalize (h ++ [PO.lst (IL (List.replicate a.length 0))]).length = p at e2 e3
  have kp : Kp0 h (h ++ [PO.lst (IL (List.replicate a.length 0))] ++ [.lst [.int 1]]) := Kp.snoc.trans Kp.snoc
  generalize h ++ [PO.lst (IL (List.replicate a.length 0))] ++ [PO.lst [.int 1]] = g at e1 e2 kp
  have hs' := kp.get0 hs
  refine differences_ok (seqOf_lst hs') (by omega) ?_
  intro h1 dl kp1 hdl ed
  refine ⟨_, lstOf_lst ed, ?_⟩
  have gl := get_len e2
  refine for_inv (fun i σ h' => (∀ d, d < i → (fst a d).fmod (M77.fac d) = 0) ∧ i ≤ a.length ∧ ∃ p y4 y5 y6 y8 y9, σ = [some (.loc n), some (.loc h.length), some (.loc p), some (.int (M77.fac (i - 1))), y4, y5, y6, none, y8, y9] ∧ Kp0 h h' ∧ h.length < p ∧ h'[dl]? = some (.lst (IL (dfs a a.length))) ∧ h'[h.length]? = some (.lst (IL (totR a i))) ∧ h'[p]? = some (.lst (IL (foolR (i - 1))))) ⟨fun d hd => absurd hd (Nat.not_lt_zero _), Nat.zero_le _, p, none, none, none, none, none, rfl, kp.trans kp1, e3, ed, kp1.get0 e1, kp1.get0 e2⟩ ?_ ?_
  · rintro i x σ h' K hx ⟨hd, hin, p, y4, y5, y6, y8, y9, rfl, kp, hp, ed, et, ep⟩ hK
    obtain ⟨u, hu, rfl⟩ := enum_item hx
    rw [IL_get] at hu
    obtain ⟨c, hc, rfl⟩ := Option.map_eq_some_iff.mp hu
    have hi : i < a.length := by have := get_len hc; simpa [dfs] using this
    have hc' : c = fst a i := by
      unfold dfs at hc
      rw [List.getElem?_map, List.getElem?_range hi] at hc
      exact (Option.some.inj hc).symm
    subst hc'
    refine ⟨lstOf_lst ed, ?_⟩
    walk_at "wp"
    refine ⟨_, seqOf_tup get_new, rfl, ?_⟩
    walk_at "wp"
    have ks : Kp0 h' (h' ++ [.tup [.int (i : Int), .int (fst a i)]]) := Kp.snoc
    have kq := kp.trans ks
    replace ed := ks.get0 ed
    replace et := ks.get0 et
    replace ep := ks.get0 ep
    clear ks
    generalize h' ++ [PO.tup [.int (i : Int), .int (fst a i)]] = g at kq ed et ep
    have fin : ∀ {B : PSt → PH → Prop} {g' : PH} {p' : Nat} {z6 : Option PV} {y8 y9 : Option PV}, Kp0 g g' → h.length < p' → g'[p']? = some (.lst (IL (foolR i))) → wpSs G0 (S (k + 1)) (Sp (k + 1)) (fun x _ => E x) tail9 { nx := K, ct := K, bk := B, rt := Q } [some (.loc n), some (.loc h.length), some (.loc p'), some (.int (M77.fac i)), some (.int (i : Int)), some (.int (fst a i)), z6, none, y8, y9] g' := by
      intro B g' p' z6 y8 y9 kg hp' ep'
      refine tail9_ok (kg.get0 et) ep' (by omega) (by omega) (by rw [totR_len]; omega) hb ?_ ?_
      · intro hm
        exact hN (fun z => hm (z i hi)) _ (kq.trans kg)
      · intro hm h2 z6 z8 z9 k2 e2
        refine hK _ _ ⟨?_, hi, p', _, _, z6, z8, z9, rfl, ?_, hp', ?_, e2, ?_⟩
        · intro d hd'
          by_cases hdi : d = i
          · rw [hdi]; exact hm
          · exact hd d (by omega)
        · exact Kp.drop ((kq.trans kg).to.trans k2) (Nat.le_refl _)
        · exact k2.get (kg.get0 ed) (by rw [List.mem_singleton]; have := kp1.1; have := kp.1; omega)
        · exact k2.get ep' (by rw [List.mem_singleton]; omega)
    cases i with
    | zero =>
      rw [if_neg (by decide)]
      exact fin Kp.refl hp ep
    | succ j =>
      rw [if_pos (by rw [decide_eq_true_eq]; omega)]
      rw [show (((j + 1 : Nat) : Int) - 1) = (j : Int) by omega]
      refine times_less_ok ep (by rw [foolR_len]; omega) (fun c hc => (foolR_sm j (by omega) c hc).mono (by omega)) ((small_sm (by omega)).mono (by omega)) ?_
      intro g' p' kg hp' ep'
      walk_at "wp"
      have f0 := M77.fac_pos j
      have f1 := fac_le j (by omega)
      refine ⟨_, imul_fit 22 22 (show (M77.fac j).natAbs < 2 ^ 22 by omega) (show (((j + 1 : Nat) : Int)).natAbs < 2 ^ 22 by omega) (by omega) (by omega) (by omega), ?_⟩
      walk_at "wp"
      exact fin kg (by have := kq.1; have := get_len et; omega) (by rw [foolR_succ]; exact ep')
  · rintro σ h' ⟨hd, hin, p, y4, y5, y6, y8, y9, rfl, kp, hp, ed, et, ep⟩
    refine ⟨lstOf_lst ed, ?_⟩
    rw [enum_len, List.length_map, show (dfs a a.length).length = a.length by simp [dfs]] at hd et
    walk_at "wp"
    refine parted_ok et (by rw [totR_len]; omega) ?_
    intro h2 m k2 hm hp2
    exact hY hd h2 m (kp.trans k2) (by have := kp.1; omega) hp2
end K77
set_option Elab.async false
set_option linter.all false
set_option maxRecDepth 100000
set_option maxHeartbeats 4000000
namespace K77
open PySem PySem.Spec PyProof.Rows Fw L2
local macro_rules | `(tactic| walk_at "wp") => `(tactic| try simp only [wpSs, wpSt, wpE, wpEs, wpT, wpTs, wpG, wpI, wpO, List.getElem?_cons_zero, List.getElem?_cons_succ, Option.some.injEq, exists_eq_left', exists_eq_left, Nat.reduceAdd, List.set_cons_zero, List.set_cons_succ, setAll, wipeP, prmV, mtyP, partP, ite_true, ite_false, if_true, if_false, Bool.false_eq_true, true_and, exists_const, List.length_cons, List.length_nil, p_add, p_sub, p_and, q_add, q_sub, c_lt, c_le, c_gt, c_ge, c_eq, c_ne, c_eqs, c_nes, c_is, c_isnt, c_isb, c_isntb, t_bl, t_int, i_int, i_bl, m_two, m_three, m_four, m_min, Item.v, Item.h, PV.int.injEq, PV.bl.injEq, PV.str.injEq, PV.loc.injEq, is_int, is_bl, is_non, is_str, ki_ii, ki_ib, ki_is, ki_it, ki_bi, ki_bb, ki_bs, ki_bt, ki_si, ki_sb, ki_ss, ki_st, ki_ni, ki_nb, ki_ns, ki_nt, Option.map_some, Bool.not_true, Bool.not_false, c_eqb, c_neb])
theorem p_smul {h : PH} {a b : Int} (k l : Nat) (ha : Sm k a) (hb : Sm l b) (hk : 0 < k) (hl : 0 < l) (w : k + l ≤ 1000000) {P : PV × PH → Prop} (hP : P (.int (a * b), h)) : ∃ r, binV G0 .Mult (.int a) (.int b) h = some r ∧ P r := ⟨_, mul_fit k l ha hb hk hl w, hP⟩
theorem p_smod {h : PH} {a b : Int} (hb : b ≠ 0) {P : PV × PH → Prop} (hP : P (.int (a.fmod b), h)) : ∃ r, binV G0 .Mod (.int a) (.int b) h = some r ∧ P r := ⟨_, by rw [p_mod, if_pos hb], hP⟩
theorem p_sdiv {h : PH} {a b : Int} (hb : b ≠ 0) (hs : Sm 100 b) {P : PV × PH → Prop} (hP : P (.int (a.fdiv b), h)) : ∃ r, binV G0 .FloorDiv (.int a) (.int b) h = some r ∧ P r :=
  ⟨_, by rw [p_div, if_pos ⟨hb, Nat.lt_of_lt_of_le (log_lt hs (by omega)) (by omega)⟩], hP⟩
theorem sm_lit {b n : Nat} {i : Int} (h : i.natAbs ≤ n) (hn : n < 2 ^ b) : Sm b i := Nat.lt_of_le_of_lt h hn
theorem fmod_rng {a b : Int} (hb : 0 < b) : 0 ≤ a.fmod b ∧ a.fmod b < b := ⟨Int.fmod_nonneg_of_pos a hb, Int.fmod_lt_of_pos a hb⟩
theorem whole_ok {k : Nat} {h : PH} {i : Int} {Q : PV → PH → Prop} {E : PX → PH → Prop} (hq : Q (.bl (decide (0 ≤ i))) h) : S (k + 1) 10 [.int i] h Q E := by
  refine e__law_whole ?_
  unfold b__law_whole
  walk_at "wp"
  exact hq
theorem sign_ok {k : Nat} {h : PH} {i : Int} {Q : PV → PH → Prop} {E : PX → PH → Prop} (hq : Q (.bl true) h) : S (k + 1) 16 [.int i] h Q E := by
  refine e__law_whole_sign ?_
  unfold b__law_whole_sign
  walk_at "wp"
  exact hq
/-- the script -/
def Scr (h : PH) (ns : List Int) : Prop := h[0]? = some (.rol (IL ns)) ∧ ns.length ≤ 63
theorem Scr.kp {h h' : PH} {ns : List Int} (s : Scr h ns) (kp : Kp0 h h') : Scr h' ns := ⟨kp.get0 s.1, s.2⟩
theorem cell_ok {k : Nat} {h : PH} {ns : List Int} {c : Nat} {Q : PV → PH → Prop} {E : PX → PH → Prop} (hs : Scr h ns) (hc : c ≤ 20) (hq : ∀ i, Q (.int i) h) : S (k + 1) 11 [.loc 0, .int (c : Int)] h Q E := by
  refine e__law_cell ?_
  unfold b__law_cell
  walk_at "wp"
  have sq : seqOf G0 h (.loc 0) = some (IL ns) := seqOf_rol hs.1
  rw [len_seq sq]
  walk_at "wp"
  rw [List.length_map]
  by_cases lt : c < ns.length
  · rw [if_pos (by rw [decide_eq_true_eq]; omega)]
    rw [idx_seq sq, atI_nat', IL_get, get_getD lt]
    exact ⟨_, rfl, hq _⟩
  rw [if_neg (by rw [decide_eq_true_eq]; omega)]
  refine ⟨_, _, deref_loc hs.1, rfl, ?_⟩
  refine for_inv (fun i σ h' => h' = h ∧ ∃ s y, σ = [some (.loc 0), some (.int (c : Int)), some (.int s), y] ∧ 0 ≤ s ∧ s < 1000003) ⟨rfl, 17, none, rfl, by decide, by decide⟩ ?_ ?_
  · rintro i x σ h' K hx ⟨rfl, s, y, rfl, h1, h2⟩ hK
    obtain ⟨w, hw, rfl⟩ := val_item hx
    rw [IL_get] at hw
    obtain ⟨e, he, rfl⟩ := Option.map_eq_some_iff.mp hw
    refine ⟨deref_loc hs.1, ?_⟩
    walk_at "wp"
    refine p_smul 20 5 (sm_lit (n := 1000003) (by omega) (by decide)) (sm_lit (n := 31) (by decide) (by decide)) (by omega) (by omega) (by omega) ?_
    refine p_smod (by decide) ?_
    walk_at "wp"
    refine p_smod (by decide) ?_
    exact hK _ _ ⟨rfl, _, _, rfl, (fmod_rng (by decide)).1, (fmod_rng (by decide)).2⟩
  · rintro σ h' ⟨rfl, s, y, rfl, h1, h2⟩
    refine ⟨deref_loc hs.1, ?_⟩
    walk_at "wp"
    refine p_smul 21 6 (sm_lit (n := 1000010) (by omega) (by decide)) (sm_lit (n := 30) (by omega) (by decide)) (by omega) (by omega) (by omega) ?_
    refine p_smul 27 20 ?_ (sm_lit (n := 69621) (by decide) (by decide)) (by omega) (by omega) (by omega) ?_
    · exact Sm.mul (a := 21) (b := 6) (sm_lit (n := 1000010) (by omega) (by decide)) (sm_lit (n := 30) (by omega) (by decide))
    walk_at "wp"
    refine p_smod (by decide) ?_
    exact hq _
/-- digits under sizes -/
def Dig (ds ss : List Int) : Prop := ds.length = ss.length ∧ ∀ i, i < ss.length → 0 ≤ ds.getD i 0 ∧ ds.getD i 0 < ss.getD i 0
def Siz (ss : List Int) : Prop := ss.length ≤ 64 ∧ ∀ s ∈ ss, 0 < s ∧ Sm 100 s
theorem Siz.at {ss : List Int} (h : Siz ss) {i : Nat} (hi : i < ss.length) : 0 < ss.getD i 0 ∧ Sm 100 (ss.getD i 0) := h.2 _ (List.mem_of_getElem? (get_getD hi))
/-- the digits so far -/
def Dg (ds ss : List Int) (n : Nat) : Prop := ds.length = n ∧ ∀ i, i < n → 0 ≤ ds.getD i 0 ∧ ds.getD i 0 < ss.getD i 0
theorem getD_app {a : List Int} {i : Nat} {c : Int} (h : i < a.length) : (a ++ [c]).getD i 0 = a.getD i 0 := by
  rw [List.getD_eq_getElem?_getD, List.getD_eq_getElem?_getD, List.getElem?_append_left h]
theorem getD_new {a : List Int} {c : Int} {i : Nat} (h : i = a.length) : (a ++ [c]).getD i 0 = c := by
  subst h; rw [List.getD_eq_getElem?_getD]; simp
theorem Dg.snoc {ds ss : List Int} {n : Nat} (h : Dg ds ss n) {c : Int} (hc : 0 ≤ c ∧ c < ss.getD n 0) : Dg (ds ++ [c]) ss (n + 1) := by
  refine ⟨by simp [h.1], fun i hi => ?_⟩
  by_cases e : i < n
  · rw [getD_app (by rw [h.1]; exact e)]; exact h.2 i e
  · have : i = n := by omega
    subst this
    rw [getD_new h.1.symm]; exact hc
theorem _root_.Fw.Kp.put {h h' : PH} {n : Nat} {o : PO} (x : Kp0 h h') (hn : h.length ≤ n) : Kp0 h (h'.set n o) := Kp.drop (x.to.trans (Kp.set (S := [n]) (List.mem_singleton.mpr rfl))) hn
theorem IL_snoc {ns : List Int} {c : Int} : IL ns ++ [.int c] = IL (ns ++ [c]) := by simp [IL]
theorem digits_ok {k : Nat} {h : PH} {c : Int} {m : Nat} {ss : List Int} {Q : PV → PH → Prop} {E : PX → PH → Prop} (hs : h[m]? = some (.lst (IL ss))) (hz : Siz ss)
    (hq : ∀ h' n ds, Kp0 h h' → h.length ≤ n → Dig ds ss → h'[n]? = some (.lst (IL ds)) → Q (.loc n) h') : S (k + 1) 12 [.int c, .loc m] h Q E := by
  refine e__law_digits ?_
  unfold b__law_digits
  walk_at "wp"
  refine ⟨by rw [line_eq]; decide, ?_⟩
  have hm := get_len hs
  have pw : ∀ {P : PV × PH → Prop} {h : PH}, P (.int (10 ^ 18), h) → ∃ r, binV G0 .Pow (.int 10) (.int 18) h = some r ∧ P r := fun {P h} hP => ⟨_, by rw [p_pow, if_pos (by decide)]; rfl, hP⟩
  refine pw ?_
  dsimp only
  walk_at "wp"
  by_cases hb : (10 : Int) ^ 18 ≤ c
  · rw [if_pos (by rw [decide_eq_true_eq]; exact hb)]
    refine pw ?_
    walk_at "wp"
    refine ⟨_, _, deref_loc (Kp.snoc.get0 hs), rfl, ?_⟩
    refine for_inv (fun i σ h' => ∃ r ds y4 y5 y6 y7, σ = [some (.int c), some (.loc m), some (.loc h.length), some (.int r), y4, y5, y6, y7] ∧ Kp0 h h' ∧ Dg ds ss i ∧ h'[h.length]? = some (.lst (IL ds))) ⟨_, [], none, none, none, none, rfl, Kp.snoc, ⟨rfl, fun i hi => absurd hi (Nat.not_lt_zero _)⟩, get_new⟩ ?_ ?_
    · rintro i x σ h' K hx ⟨r, ds, y4, y5, y6, y7, rfl, kp, hd, e⟩ hK
      obtain ⟨w, hw, rfl⟩ := val_item hx
      rw [IL_get] at hw
      obtain ⟨s, he, rfl⟩ := Option.map_eq_some_iff.mp hw
      refine ⟨deref_loc (kp.get0 hs), ?_⟩
      have hi := get_len he
      have hz' := hz.at hi
      rw [getD_of he] at hz'
      walk_at "wp"
      refine ⟨by rw [lstOf_lst e]; rfl, ?_⟩
      refine p_smod (by omega) ?_
      rw [append_lst e (by rw [List.length_map, hd.1, line_eq]; have := hz.1; omega)]
      walk_at "wp"
      refine p_sdiv (by omega) hz'.2 ?_
      refine hK _ _ ⟨_, ds ++ [r.fmod s], _, _, _, _, rfl, kp.put (Nat.le_refl _), hd.snoc (by rw [getD_of he]; exact fmod_rng hz'.1), ?_⟩
      rw [get_put e, IL_snoc]
    · rintro σ h' ⟨r, ds, y4, y5, y6, y7, rfl, kp, hd, e⟩
      refine ⟨deref_loc (kp.get0 hs), ?_⟩
      rw [List.length_map, List.length_map] at hd
      walk_at "wp"
      exact hq h' _ ds kp (Nat.le_refl _) ⟨hd.1, hd.2⟩ e
  · rw [if_neg (by rw [decide_eq_true_eq]; exact hb)]
    refine p_smod (by decide) ?_
    walk_at "wp"
    rw [len_seq (seqOf_lst ((Kp.snoc (S := [])).get0 hs))]
    walk_at "wp"
    refine ⟨_, rng_1' (n := ss.length) (by simp) (by have := hz.1; omega), ?_⟩
    dsimp only
    refine for_inv (fun i σ h' => ∃ r ds s y5 y6 y7, σ = [some (.int c), some (.loc m), some (.loc h.length), some (.int r), some (.int s), y5, y6, y7] ∧ 0 ≤ s ∧ s < 2147483647 ∧ Kp0 h h' ∧ Dg ds ss i ∧ h'[h.length]? = some (.lst (IL ds))) ⟨_, [], _, none, none, none, rfl, (fmod_rng (by decide)).1, Int.lt_trans (fmod_rng (by decide)).2 (by decide), Kp.snoc, ⟨rfl, fun i hi => absurd hi (Nat.not_lt_zero _)⟩, get_new⟩ ?_ ?_
    · rintro i x σ h' K hx ⟨r, ds, s, y5, y6, y7, rfl, s0, s1, kp, hd, e⟩ hK
      obtain ⟨hi, rfl⟩ := rng_item hx
      replace hi : i < ss.length := hi
      have hz' := hz.at hi
      have hzl := hz.1
      refine ⟨trivial, ?_⟩
      walk_at "wp"
      refine p_smul 32 16 (sm_lit (n := 2147483647) (by omega) (by decide)) (sm_lit (n := 48271) (by decide) (by decide)) (by omega) (by omega) (by omega) ?_
      refine p_smul 20 10 (sm_lit (n := 974711) (by decide) (by decide)) (sm_lit (n := 64) (by omega) (by decide)) (by omega) (by omega) (by omega) ?_
      walk_at "wp"
      refine p_smod (by decide) ?_
      have r1 := fmod_rng (a := s * 48271 + 974711 * (i : Int) + 12345) (b := 2147483647) (by decide)
      generalize (s * 48271 + 974711 * (i : Int) + 12345).fmod 2147483647 = s' at r1
      walk_at "wp"
      refine p_sdiv (by decide) (sm_lit (n := 65537) (by decide) (by decide)) ?_
      have r2 : 0 ≤ s'.fdiv 65537 ∧ s'.fdiv 65537 ≤ s' := by
        rw [Int.fdiv_eq_ediv_of_nonneg _ (by decide)]; omega
      walk_at "wp"
      refine p_smul 32 33 (sm_lit (n := 2147483647) (by omega) (by decide)) (sm_lit (n := 2147483650) (by omega) (by decide)) (by omega) (by omega) (by omega) ?_
      walk_at "wp"
      refine p_smod (by decide) ?_
      walk_at "wp"
      refine ⟨by rw [lstOf_lst e]; rfl, ?_⟩
      refine p_sdiv (by decide) (sm_lit (n := 19) (by decide) (by decide)) ?_
      rw [idx_seq (seqOf_lst (kp.get0 hs)), atI_nat', IL_get, get_getD hi]
      refine ⟨_, rfl, ?_⟩
      refine p_smod (by omega) ?_
      rw [append_lst e (by rw [List.length_map, hd.1, line_eq]; omega)]
      walk_at "wp"
      refine hK _ _ ⟨_, ds ++ [(((s' * (s'.fdiv 65537 + 3)).fmod 2147483629).fdiv 19).fmod (ss.getD i 0)], s', _, _, _, rfl, r1.1, r1.2, kp.put (Nat.le_refl _), hd.snoc (fmod_rng hz'.1), ?_⟩
      rw [get_put e, IL_snoc]
    · rintro σ h' ⟨r, ds, s, y5, y6, y7, rfl, s0, s1, kp, hd, e⟩
      refine ⟨trivial, ?_⟩
      rw [rngL_len] at hd
      walk_at "wp"
      exact hq h' _ ds kp (Nat.le_refl _) ⟨hd.1, hd.2⟩ e
end K77
set_option Elab.async false
set_option linter.all false
set_option maxRecDepth 100000
set_option maxHeartbeats 4000000
namespace K77
open PySem PySem.Spec PyProof.Rows Fw L2
local macro_rules | `(tactic| walk_at "wp") => `(tactic| try simp only [wpSs, wpSt, wpE, wpEs, wpT, wpTs, wpG, wpI, wpO, List.getElem?_cons_zero, List.getElem?_cons_succ, Option.some.injEq, exists_eq_left', exists_eq_left, Nat.reduceAdd, List.set_cons_zero, List.set_cons_succ, setAll, wipeP, prmV, mtyP, partP, ite_true, ite_false, if_true, if_false, Bool.false_eq_true, true_and, exists_const, List.length_cons, List.length_nil, p_add, p_sub, p_and, q_add, q_sub, c_lt, c_le, c_gt, c_ge, c_eq, c_ne, c_eqs, c_nes, c_is, c_isnt, c_isb, c_isntb, t_bl, t_int, i_int, i_bl, m_two, m_three, m_four, m_min, Item.v, Item.h, PV.int.injEq, PV.bl.injEq, PV.str.injEq, PV.loc.injEq, is_int, is_bl, is_non, is_str, ki_ii, ki_ib, ki_is, ki_it, ki_bi, ki_bb, ki_bs, ki_bt, ki_si, ki_sb, ki_ss, ki_st, ki_ni, ki_nb, ki_ns, ki_nt, Option.map_some, Bool.not_true, Bool.not_false, c_eqb, c_neb])
/-! _law_is of two truths -/
theorem is_pop {h : PH} {n : Nat} {xs : List PV} {y : PV} (e : h[n]? = some (.lst (xs ++ [y]))) : popV [.loc n] h = some (y, h.set n (.lst xs)) := by
  unfold popV
  dsimp only
  rw [e]
  simp
theorem lawis_ok {k : Nat} {h : PH} {a b : Bool} {Q : PV → PH → Prop} {E : PX → PH → Prop} (hq : ∀ h', Kp0 h h' → Q (.bl (decide (a = b))) h') : S (k + 1) 13 [.bl a, .bl b] h Q E := by
  refine e__law_is ?_
  unfold b__law_is
  walk_at "wp"
  refine ⟨by rw [line_eq]; decide, by rw [line_eq]; decide, ?_⟩
  refine ⟨_, rng_1' (n := 1000000) (by decide) (by decide), ?_⟩
  dsimp only
  have hN : 1 < (1000000 : Nat) := by decide
  generalize (1000000 : Nat) = N at hN
  have e0 : (h ++ [PO.lst [.bl a, .bl b]] ++ [.lst [.loc h.length]])[(h ++ [PO.lst [.bl a, .bl b]]).length]? = some (.lst [.loc h.length]) := get_new
  have e1 : (h ++ [PO.lst [.bl a, .bl b]] ++ [.lst [.loc h.length]])[h.length]? = some (.lst [.bl a, .bl b]) := Kp.snoc.get0 get_new
  have kp : Kp0 h (h ++ [PO.lst [.bl a, .bl b]] ++ [.lst [.loc h.length]]) := Kp.snoc.trans Kp.snoc
  have lt : h.length < (h ++ [PO.lst [.bl a, .bl b]]).length := by simp
  generalize (h ++ [PO.lst [.bl a, .bl b]]).length = w at e0 lt
  generalize h ++ [PO.lst [.bl a, .bl b]] ++ [PO.lst [.loc h.length]] = g at e0 e1 kp
  refine for_inv (fun i σ h' => Kp0 h h' ∧ ∃ y3 y4 y5, σ = [some (.bl a), some (.bl b), some (.loc w), y3, y4, y5] ∧ h'[h.length]? = some (.lst [.bl a, .bl b]) ∧ ((i = 0 ∧ h'[w]? = some (.lst [.loc h.length])) ∨ (i = 1 ∧ a = b ∧ h'[w]? = some (.lst [])))) ⟨kp, none, none, none, rfl, e1, .inl ⟨rfl, e0⟩⟩ ?_ ?_
  · rintro i x σ h' K hx ⟨kp, y3, y4, y5, rfl, e1, ⟨rfl, e0⟩ | ⟨rfl, rfl, e0⟩⟩ hK
    · obtain ⟨hi, rfl⟩ := rng_item hx
      refine ⟨trivial, ?_⟩
      walk_at "wp"
      rw [len_seq (seqOf_lst e0)]
      walk_at "wp"
      rw [if_neg (by decide)]
      refine ⟨by rw [lstOf_lst e0]; rfl, ?_⟩
      rw [is_pop (xs := []) e0]
      walk_at "wp"
      have kq := kp.put (n := w) (o := .lst []) (by omega)
      have ew : (h'.set w (.lst []))[w]? = some (.lst []) := get_put e0
      have ep : (h'.set w (.lst []))[h.length]? = some (.lst [.bl a, .bl b]) := by rw [List.getElem?_set_ne (by omega)]; exact e1
      generalize h'.set w (.lst []) = g' at kq ew ep
      have i0 : idxP G0 g' (.loc h.length) (.int 0) = some (.bl a) := by rw [idx_seq (seqOf_lst ep)]; rfl
      have i1 : idxP G0 g' (.loc h.length) (.int 1) = some (.bl b) := by rw [idx_seq (seqOf_lst ep)]; rfl
      repeat' first
        | (rw [i1]; walk_at "wp"; try simp only [reduceCtorEq, decide_false, Bool.false_eq_true, if_false])
        | (rw [i0]; walk_at "wp"; try simp only [reduceCtorEq, decide_false, Bool.false_eq_true, if_false])
      by_cases hab : a = b
      · subst hab
        simp only [beq_self_eq_true, Bool.not_true, Bool.false_eq_true, if_false]
        exact hK _ _ ⟨kq, _, _, _, rfl, ep, .inr ⟨rfl, rfl, ew⟩⟩
      · have ne : (!(a == b)) = true := by cases a <;> cases b <;> simp_all
        simp only [ne, if_true, reduceCtorEq, decide_false, Bool.false_eq_true, if_false]
        have := hq _ kq
        rw [decide_eq_false hab] at this
        exact this
    · obtain ⟨hi, rfl⟩ := rng_item hx
      refine ⟨trivial, ?_⟩
      walk_at "wp"
      rw [len_seq (seqOf_lst e0)]
      walk_at "wp"
      rw [if_pos (by rfl)]
      have := hq _ kp
      rw [decide_eq_true rfl] at this
      exact this
  · rintro σ h' ⟨kp, y3, y4, y5, rfl, e1, ⟨e, e0⟩ | ⟨e, _⟩⟩
    · rw [rngL_len] at e; omega
    · rw [rngL_len] at e; omega
/-! _law_sum_at -/
theorem pow_sm {b : Nat} {x : Int} (h : Sm b x) : ∀ i : Nat, Sm (b * i + 1) (x ^ i)
  | 0 => by rw [Int.pow_zero]; exact (show (1 : Int).natAbs < 2 ^ (b * 0 + 1) by simp)
  | i + 1 => by rw [Int.pow_succ]; exact (Sm.mul (pow_sm h i) h).mono (by rw [Nat.mul_succ]; omega)
theorem hev_take (x : Int) : ∀ (p : List Int) (i : Nat), M77.hev (p.take (i + 1)) x = M77.hev (p.take i) x + p.getD i 0 * x ^ i
  | [], i => by simp [M77.hev]
  | a :: r, 0 => by simp [M77.hev]
  | a :: r, i + 1 => by
    show a + x * M77.hev (r.take (i + 1)) x = (a + x * M77.hev (r.take i) x) + r.getD i 0 * x ^ (i + 1)
    rw [hev_take x r i, Int.mul_add, Int.pow_succ, Int.mul_left_comm x, Int.mul_comm x (x ^ i), Int.add_assoc]
theorem hev_sm {b : Nat} {x : Int} {p : List Int} (h : ∀ c ∈ p, Sm b c) (hx : Sm b x) : ∀ i, Sm (2 * b * i + b + i + 2) (M77.hev (p.take i) x)
  | 0 => by rw [List.take_zero]; exact Sm.zero
  | i + 1 => by
    rw [hev_take]
    have h1 := (hev_sm h hx i).mono (show 2 * b * i + b + i + 2 ≤ 2 * b * i + 2 * b + i + b + 2 by omega)
    have h2 : Sm (b + (b * i + 1)) (p.getD i 0 * x ^ i) := (Sm.get h i).mul (pow_sm hx i)
    have e : 2 * b * (i + 1) = 2 * b * i + 2 * b := by rw [Nat.mul_succ]
    have e2 : b * i ≤ 2 * b * i := Nat.mul_le_mul_right _ (by omega)
    exact (h1.add (h2.mono (by omega))).mono (by omega)
theorem lsum_ok {k : Nat} {h : PH} {v : PV} {p q : List Int} {x : Int} {Q : PV → PH → Prop} {E : PX → PH → Prop} (hs : SumAt h v p q) (hl : p.length ≤ 12 ∧ q.length ≤ 12) (hp : ∀ c ∈ p, Sm 100 c) (hq' : ∀ c ∈ q, Sm 100 c) (hx : Sm 100 x)
    (hq : Q (.int (M77.hev p x - M77.hev q x)) h) : S (k + 1) 14 [v, .int x] h Q E := by
  refine e__law_sum_at ?_
  unfold b__law_sum_at
  walk_at "wp"
  refine ⟨_, rng_1' (n := 12) (by decide) (by decide), ?_⟩
  dsimp only
  obtain ⟨a, b, e1, e2, e3⟩ := hs
  have i0 : idxP G0 h v (.int 0) = some a := by rw [idx_seq e1]; rfl
  have i1 : idxP G0 h v (.int 1) = some b := by rw [idx_seq e1]; rfl
  refine for_inv (fun i σ h' => h' = h ∧ ∃ y, σ = [some v, some (.int x), some (.int (M77.hev (p.take i) x - M77.hev (q.take i) x)), some (.int (x ^ i)), y]) ⟨rfl, none, by simp [M77.hev]⟩ ?_ ?_
  · rintro i x' σ h' K hx' ⟨rfl, y, rfl⟩ hK
    obtain ⟨hi, rfl⟩ := rng_item hx'
    replace hi : i < 12 := hi
    refine ⟨trivial, ?_⟩
    have pw : Sm 1300 (x ^ i) := (pow_sm hx i).mono (by omega)
    walk_at "wp"
    rw [i0]
    walk_at "wp"
    rw [len_seq e2]
    walk_at "wp"
    rw [List.length_map]
    have c1 : ∀ {P : PV × PH → Prop} {c d : Int} , Sm 100 c → Sm 1300 d → P (.int (c * d), h') → ∃ r, binV G0 .Mult (.int c) (.int d) h' = some r ∧ P r := fun hc hd hP => p_smul 100 1300 hc hd (by omega) (by omega) (by omega) hP
    have gp : ∀ {p : List Int} , ¬ i < p.length → p.take (i + 1) = p.take i := fun h => by rw [List.take_of_length_le (by omega), List.take_of_length_le (by omega)]
    have fin : ∀ (t : Int), t = M77.hev (p.take (i + 1)) x - M77.hev (q.take (i + 1)) x → K [some v, some (.int x), some (.int t), some (.int (x ^ i * x)), some (.int (i : Int))] h' := by
      intro t ht
      refine hK _ _ ⟨rfl, some (.int (i : Int)), ?_⟩
      rw [ht, Int.pow_succ]
    have mx : ∀ {P : PV × PH → Prop}, P (.int (x ^ i * x), h') → ∃ r, binV G0 .Mult (.int (x ^ i)) (.int x) h' = some r ∧ P r := fun hP => p_smul 1300 100 pw hx (by omega) (by omega) (by omega) hP
    by_cases h1 : i < p.length
    · rw [if_pos (by rw [decide_eq_true_eq]; omega)]
      rw [i0]
      walk_at "wp"
      rw [idx_seq e2, atI_nat', IL_get, get_getD h1]
      refine ⟨_, rfl, ?_⟩
      refine c1 (Sm.get hp i) pw ?_
      walk_at "wp"
      rw [i1]
      walk_at "wp"
      rw [len_seq e3]
      walk_at "wp"
      rw [List.length_map]
      by_cases h2 : i < q.length
      · rw [if_pos (by rw [decide_eq_true_eq]; omega)]
        rw [i1]
        walk_at "wp"
        rw [idx_seq e3, atI_nat', IL_get, get_getD h2]
        refine ⟨_, rfl, ?_⟩
        refine c1 (Sm.get hq' i) pw ?_
        walk_at "wp"
        refine mx ?_
        exact fin _ (by rw [hev_take, hev_take]; omega)
      · rw [if_neg (by rw [decide_eq_true_eq]; omega)]
        refine mx ?_
        exact fin _ (by rw [hev_take, gp h2]; omega)
    · rw [if_neg (by rw [decide_eq_true_eq]; omega)]
      rw [i1]
      walk_at "wp"
      rw [len_seq e3]
      walk_at "wp"
      rw [List.length_map]
      by_cases h2 : i < q.length
      · rw [if_pos (by rw [decide_eq_true_eq]; omega)]
        rw [i1]
        walk_at "wp"
        rw [idx_seq e3, atI_nat', IL_get, get_getD h2]
        refine ⟨_, rfl, ?_⟩
        refine c1 (Sm.get hq' i) pw ?_
        walk_at "wp"
        refine mx ?_
        exact fin _ (by rw [gp h1, hev_take]; omega)
      · rw [if_neg (by rw [decide_eq_true_eq]; omega)]
        refine mx ?_
        exact fin _ (by rw [gp h1, gp h2])
  · rintro σ h' ⟨rfl, y, rfl⟩
    refine ⟨trivial, ?_⟩
    rw [rngL_len]
    walk_at "wp"
    rw [List.take_of_length_le hl.1, List.take_of_length_le hl.2]
    exact hq
/-! _law_row_at -/
theorem row_ok {m0 k : Nat} {h : PH} {n : Nat} {p : List Int} {x : Int} {Q : PV → PH → Prop} {E : PX → PH → Prop} (hs : h[n]? = some (.lst (IL p))) (hl : p.length ≤ 12) (hp : ∀ c ∈ p, Sm (700 + m0) c) (hm0 : m0 ≤ 100) (hx : Sm 100 x)
    (hq : Q (.int (M77.hev p x)) h) : S (k + 1) 17 [.loc n, .int x] h Q E := by
  refine e__law_row_at ?_
  unfold b__law_row_at
  walk_at "wp"
  refine ⟨_, _, deref_loc hs, rfl, ?_⟩
  refine for_inv (fun i σ h' => h' = h ∧ ∃ y, σ = [some (.loc n), some (.int x), some (.int (M77.hev (p.take i) x)), some (.int (x ^ i)), y]) ⟨rfl, none, by simp [M77.hev]⟩ ?_ ?_
  · rintro i x' σ h' K hx' ⟨rfl, y, rfl⟩ hK
    obtain ⟨w, hw, rfl⟩ := val_item hx'
    rw [IL_get] at hw
    obtain ⟨c, hc, rfl⟩ := Option.map_eq_some_iff.mp hw
    refine ⟨deref_loc hs, ?_⟩
    have hi := get_len hc
    have pw : Sm 1300 (x ^ i) := (pow_sm hx i).mono (by omega)
    walk_at "wp"
    refine p_smul 900 1300 ((hp c (List.mem_of_getElem? hc)).mono (by omega)) pw (by omega) (by omega) (by omega) ?_
    walk_at "wp"
    refine p_smul 1300 100 pw hx (by omega) (by omega) (by omega) ?_
    refine hK _ _ ⟨rfl, some (.int c), ?_⟩
    rw [hev_take, getD_of hc, Int.pow_succ]
  · rintro σ h' ⟨rfl, y, rfl⟩
    refine ⟨deref_loc hs, ?_⟩
    rw [List.length_map, List.length_map, List.take_of_length_le (Nat.le_refl _)]
    walk_at "wp"
    exact hq
end K77
set_option Elab.async false
set_option linter.all false
set_option maxRecDepth 100000
set_option maxHeartbeats 4000000
namespace K77
open PySem PySem.Spec PyProof.Rows Fw L2
local macro_rules | `(tactic| walk_at "wp") => `(tactic| try simp only [wpSs, wpSt, wpE, wpEs, wpT, wpTs, wpG, wpI, wpO, List.getElem?_cons_zero, List.getElem?_cons_succ, Option.some.injEq, exists_eq_left', exists_eq_left, Nat.reduceAdd, List.set_cons_zero, List.set_cons_succ, setAll, wipeP, prmV, mtyP, partP, ite_true, ite_false, if_true, if_false, Bool.false_eq_true, true_and, exists_const, List.length_cons, List.length_nil, p_add, p_sub, p_and, q_add, q_sub, c_lt, c_le, c_gt, c_ge, c_eq, c_ne, c_eqs, c_nes, c_is, c_isnt, c_isb, c_isntb, t_bl, t_int, i_int, i_bl, m_two, m_three, m_four, m_min, Item.v, Item.h, PV.int.injEq, PV.bl.injEq, PV.str.injEq, PV.loc.injEq, is_int, is_bl, is_non, is_str, ki_ii, ki_ib, ki_is, ki_it, ki_bi, ki_bb, ki_bs, ki_bt, ki_si, ki_sb, ki_ss, ki_st, ki_ni, ki_nb, ki_ns, ki_nt, Option.map_some, Bool.not_true, Bool.not_false, c_eqb, c_neb])
/-! _law_twin -/
def TwinAt (h : PH) (n : Nat) (p q : List Int) : Prop := ∃ a b, h[n]? = some (.lst [.loc a, .loc b]) ∧ h[a]? = some (.lst (IL p)) ∧ h[b]? = some (.lst (IL q))
theorem TwinAt.sum {h : PH} {n : Nat} {p q : List Int} (x : TwinAt h n p q) : SumAt h (.loc n) p q := by
  obtain ⟨a, b, e1, e2, e3⟩ := x
  exact ⟨_, _, seqOf_lst e1, seqOf_lst e2, seqOf_lst e3⟩
theorem TwinAt.kp {h h' : PH} {n : Nat} {p q : List Int} (x : TwinAt h n p q) (kp : Kp0 h h') : TwinAt h' n p q := by
  obtain ⟨a, b, e1, e2, e3⟩ := x
  exact ⟨a, b, kp.get0 e1, kp.get0 e2, kp.get0 e3⟩
theorem rep_lst {h : PH} {n : Nat} {ns : List Int} {k : Int} {P : PV × PH → Prop} (e : h[n]? = some (.lst (IL ns))) (h0 : 0 ≤ k) (h1 : k ≤ 100) (hl : ns.length ≤ 100) (hP : P (.loc h.length, h ++ [.lst (IL (List.replicate k.toNat ns).flatten)])) : ∃ r, binV G0 .Mult (.loc n) (.int k) h = some r ∧ P r := by
  refine ⟨_, ?_, hP⟩
  unfold binV
  dsimp only
  rw [e]
  dsimp only
  have : ns.length * k.toNat ≤ 100 * 100 := Nat.mul_le_mul hl (by omega)
  rw [if_pos ⟨by omega, by omega, by rw [List.length_map, line_eq]; omega⟩]
  simp [IL, List.map_flatten]
theorem cat_ints {h : PH} {n m : Nat} {ns ms : List Int} {P : PV × PH → Prop} (e : h[n]? = some (.lst (IL ns))) (e' : h[m]? = some (.lst (IL ms))) (hl : ns.length + ms.length ≤ 1000) (hP : P (.loc h.length, h ++ [.lst (IL (ns ++ ms))])) : ∃ r, binV G0 .Add (.loc n) (.loc m) h = some r ∧ P r := by
  refine ⟨_, cat_lst e e' (by rw [List.length_map, List.length_map, line_eq]; omega), ?_⟩
  have : IL ns ++ IL ms = IL (ns ++ ms) := by simp [IL]
  rw [this]; exact hP
theorem cut_IL {ns : List Int} {a b : Option Int} : cutP (IL ns) a b = IL (cutP ns a b) := by
  unfold cutP
  simp [IL, List.map_take, List.map_drop]
theorem cut_mem {ns : List Int} {a b : Option Int} {c : Int} (h : c ∈ cutP ns a b) : c ∈ ns := List.mem_of_mem_drop (List.mem_of_mem_take h)
theorem cut_len {ns : List Int} {a b : Option Int} : (cutP ns a b).length ≤ ns.length := by
  unfold cutP
  rw [List.length_take, List.length_drop]; omega
theorem idx_at {h : PH} {n i : Nat} {ns : List Int} (e : h[n]? = some (.lst (IL ns))) (hi : i < ns.length) : idxP G0 h (.loc n) (.int (i : Int)) = some (.int (ns.getD i 0)) := by
  rw [idx_seq (seqOf_lst e), atI_nat', IL_get, get_getD hi]; rfl
theorem setP_int {h : PH} {n i : Nat} {ns : List Int} {c : Int} {P : PH → Prop} (e : h[n]? = some (.lst (IL ns))) (hi : i < ns.length) (hP : P (h.set n (.lst (IL (ns.set i c))))) : ∃ h', setP (.loc n) (.int (i : Int)) (.int c) h = some h' ∧ P h' := by
  refine ⟨_, set_at e (by rw [List.length_map]; exact hi), ?_⟩
  have : (IL ns).set i (.int c) = IL (ns.set i c) := by simp [IL, List.map_set]
  rw [this]; exact hP
theorem mem_set' {ns : List Int} {i : Nat} {v c : Int} (h : c ∈ ns.set i v) : c = v ∨ c ∈ ns := (List.mem_or_eq_of_mem_set h).symm
theorem twin_ok {k : Nat} {h : PH} {r a b : Nat} {ds p q : List Int} {Q : PV → PH → Prop} {E : PX → PH → Prop} (hr : h[r]? = some (.lst (IL ds))) (ha : h[a]? = some (.lst (IL p))) (hb : h[b]? = some (.lst (IL q))) (hd : Dig ds [5, 6, 6, 6, 6, 6]) (hp : p.length ≤ 5) (hql : q.length ≤ 5) (hps : ∀ c ∈ p, Sm 32 c) (hqs : ∀ c ∈ q, Sm 32 c)
    (hq : ∀ h' m p' q', Kp0 h h' → h.length ≤ m → TwinAt h' m p' q' → p'.length ≤ 11 → q'.length ≤ 11 → (∀ c ∈ p', Sm 40 c) → (∀ c ∈ q', Sm 40 c) → Q (.loc m) h') : S (k + 1) 15 [.loc r, .loc a, .loc b] h Q E := by
  refine e__law_twin ?_
  show wpSs G0 (S k) (Sp k) (fun x _ => E x) (List.drop 0 b__law_twin) _ _ _
  rw [show List.drop 0 b__law_twin = _ :: _ :: List.drop 2 b__law_twin from rfl]
  walk_at "wp"
  rw [list_seq (seqOf_lst ha)]
  walk_at "wp"
  rw [list_seq (seqOf_lst (Kp.snoc.get0 hb))]
  walk_at "wp"
  have el : (h ++ [PO.lst (IL p)] ++ [.lst (IL q)])[h.length]? = some (.lst (IL p)) := Kp.snoc.get0 get_new
  have er : (h ++ [PO.lst (IL p)] ++ [.lst (IL q)])[(h ++ [PO.lst (IL p)]).length]? = some (.lst (IL q)) := get_new
  have kp : Kp0 h (h ++ [PO.lst (IL p)] ++ [.lst (IL q)]) := Kp.snoc.trans Kp.snoc
  have lt : h.length < (h ++ [PO.lst (IL p)]).length := by simp
  generalize (h ++ [PO.lst (IL p)]).length = w at er lt
  generalize h ++ [PO.lst (IL p)] ++ [PO.lst (IL q)] = g at el er kp
  have d6 : ds.length = 6 := hd.1
  have dr : ∀ (i : Nat), i < 6 → 0 ≤ ds.getD i 0 ∧ ds.getD i 0 < 6 := by
    intro i hi
    have := hd.2 i (by simpa using hi)
    rcases i with _ | _ | _ | _ | _ | _ | i
    · have h1 : ds.getD 0 0 < 5 := this.2
      exact ⟨this.1, by omega⟩
    · exact this
    · exact this
    · exact this
    · exact this
    · exact this
    · omega
  have d0 : ds.getD 0 0 < 5 := (hd.2 0 (by decide)).2
  have d0' : 0 ≤ ds.getD 0 0 := (hd.2 0 (by decide)).1
  have ds3 : ∀ (i : Nat), i < 6 → Sm 3 (ds.getD i 0) := fun i hi => by
    have := dr i hi
    show (ds.getD i 0).natAbs < 2 ^ 3
    omega
  have rd : ∀ {h' : PH} (i : Nat) (j : Int), j = (i : Int) → Kp0 h h' → i < 6 → idxP G0 h' (.loc r) (.int j) = some (.int (ds.getD i 0)) := fun i j e kp hi => by
    rw [e]; exact idx_at (kp.get0 hr) (by omega)
  have fl : ∀ k : Nat, (List.replicate k [(0 : Int)]).flatten.length = k := fun k => by simp
  have sz : 2 ≤ sizeLine := by rw [line_eq]; decide
  have fin : ∀ {h' : PH} {l m : Nat} {p' q' : List Int}, Kp0 h h' → h'[l]? = some (.lst (IL p')) → h'[m]? = some (.lst (IL q')) → p'.length ≤ 11 → q'.length ≤ 11 → (∀ c ∈ p', Sm 40 c) → (∀ c ∈ q', Sm 40 c) → Q (.loc h'.length) (h' ++ [.lst [.loc l, .loc m]]) := by
    intro h' l m p' q' kp e1 e2 l1 l2 s1 s2
    exact hq _ _ p' q' (kp.trans Kp.snoc) kp.1 ⟨l, m, get_new, Kp.snoc.get0 e1, Kp.snoc.get0 e2⟩ l1 l2 s1 s2
  have cs : ds.getD 0 0 = 0 ∨ ds.getD 0 0 = 1 ∨ ds.getD 0 0 = 2 ∨ ds.getD 0 0 = 3 ∨ ds.getD 0 0 = 4 := by omega
  have no : ∀ {a b : Int}, a ≠ b → ¬ (decide (a = b) = true) := fun h => by rw [decide_eq_true_eq]; exact h
  have ye : ∀ {a b : Int}, a = b → decide (a = b) = true := fun h => by rw [decide_eq_true_eq]; exact h
  rcases cs with z | z | z | z | z
  · rw [show List.drop 2 b__law_twin = _ :: List.drop 3 b__law_twin from rfl]; walk_at "wp"; rw [rd 0 0 rfl kp (by omega), z]; walk_at "wp"; rw [if_pos (by decide)]
    rw [len_seq (seqOf_lst el)]
    walk_at "wp"
    rw [len_seq (seqOf_lst er)]
    walk_at "wp"
    refine ⟨_, rng_1' (n := min p.length q.length) (by simp; omega) (by omega), ?_⟩
    dsimp only
    refine for_inv (fun i σ h' => Kp0 h h' ∧ ∃ y p' q', σ = [some (.loc r), some (.loc a), some (.loc b), some (.loc h.length), some (.loc w), y] ∧ h'[h.length]? = some (.lst (IL p')) ∧ h'[w]? = some (.lst (IL q')) ∧ p'.length = p.length ∧ q'.length = q.length ∧ (∀ c ∈ p', Sm (32 + i) c) ∧ (∀ c ∈ q', Sm (32 + i) c)) ⟨kp, none, p, q, rfl, el, er, rfl, rfl, hps, hqs⟩ ?_ ?_
    · rintro i x σ h' K hx ⟨kp, y, p', q', rfl, e1, e2, l1, l2, s1, s2⟩ hK
      obtain ⟨hi, rfl⟩ := rng_item hx
      replace hi : i < min p.length q.length := hi
      refine ⟨trivial, ?_⟩
      walk_at "wp"
      rw [idx_at e1 (by omega)]
      walk_at "wp"
      rw [rd (1 + i) (1 + (i : Int)) (by omega) kp (by omega)]
      walk_at "wp"
      refine setP_int e1 (by omega) ?_
      have e2' : (h'.set h.length (.lst (IL (p'.set i (p'.getD i 0 + ds.getD (1 + i) 0)))))[w]? = some (.lst (IL q')) := by rw [List.getElem?_set_ne (by omega)]; exact e2
      have e1' := get_put (o := .lst (IL (p'.set i (p'.getD i 0 + ds.getD (1 + i) 0)))) e1
      have kq := kp.put (n := h.length) (o := .lst (IL (p'.set i (p'.getD i 0 + ds.getD (1 + i) 0)))) (Nat.le_refl _)
      generalize h'.set h.length (PO.lst (IL (p'.set i (p'.getD i 0 + ds.getD (1 + i) 0)))) = g' at e1' e2' kq
      rw [idx_at e2' (by omega)]
      walk_at "wp"
      rw [rd (1 + i) (1 + (i : Int)) (by omega) kq (by omega)]
      walk_at "wp"
      refine setP_int e2' (by omega) ?_
      have up : ∀ {n : List Int}, (∀ c ∈ n, Sm (32 + i) c) → ∀ c ∈ n.set i (n.getD i 0 + ds.getD (1 + i) 0), Sm (32 + (i + 1)) c := by
        intro n hn c hc
        rcases mem_set' hc with rfl | hc
        · exact (Sm.get hn i).add ((ds3 (1 + i) (by omega)).mono (by omega))
        · exact (hn c hc).mono (by omega)
      refine hK _ _ ⟨kq.put (by omega), _, _, _, rfl, ?_, get_put e2', by simpa using l1, by simpa using l2, up s1, up s2⟩
      rw [List.getElem?_set_ne (by omega)]; exact e1'
    · rintro σ h' ⟨kp, y, p', q', rfl, e1, e2, l1, l2, s1, s2⟩
      rw [rngL_len] at s1 s2
      replace s1 : ∀ c ∈ p', Sm (32 + min p.length q.length) c := s1
      replace s2 : ∀ c ∈ q', Sm (32 + min p.length q.length) c := s2
      refine ⟨trivial, ?_⟩
      rw [show List.drop 3 b__law_twin = _ :: List.drop 4 b__law_twin from rfl]; walk_at "wp"; rw [rd 0 0 rfl kp (by omega), z]; walk_at "wp"; rw [if_neg (by decide)]
      rw [show List.drop 4 b__law_twin = _ :: List.drop 5 b__law_twin from rfl]; walk_at "wp"; rw [rd 0 0 rfl kp (by omega), z]; walk_at "wp"; rw [if_neg (by decide)]
      rw [show List.drop 5 b__law_twin = _ :: List.drop 6 b__law_twin from rfl]; walk_at "wp"; rw [rd 0 0 rfl kp (by omega), z]; walk_at "wp"; rw [if_neg (by decide)]
      rw [show List.drop 6 b__law_twin = _ :: List.drop 7 b__law_twin from rfl]; walk_at "wp"; rw [rd 0 0 rfl kp (by omega), z]; walk_at "wp"; rw [if_neg (by decide)]
      rw [show List.drop 7 b__law_twin = [_] from rfl]; walk_at "wp"
      exact ⟨sz, fin kp e1 e2 (by omega) (by omega) (fun c hc => (s1 c hc).mono (by omega)) (fun c hc => (s2 c hc).mono (by omega))⟩
  · rw [show List.drop 2 b__law_twin = _ :: List.drop 3 b__law_twin from rfl]; walk_at "wp"; rw [rd 0 0 rfl kp (by omega), z]; walk_at "wp"; rw [if_neg (by decide)]
    rw [show List.drop 3 b__law_twin = _ :: List.drop 4 b__law_twin from rfl]; walk_at "wp"; rw [rd 0 0 rfl kp (by omega), z]; walk_at "wp"; rw [if_pos (by decide)]
    refine ⟨by rw [line_eq]; decide, ?_⟩
    rw [rd 1 1 rfl (kp.trans Kp.snoc) (by omega)]
    have r1 := dr 1 (by omega)
    have r2 := dr 2 (by omega)
    refine ⟨_, rfl, ?_⟩
    refine rep_lst (ns := [0]) get_new r1.1 (by omega) (by decide) ?_
    refine cat_ints (Kp.snoc.get0 (Kp.snoc.get0 el)) get_new ?_ ?_
    · rw [fl]; omega
    walk_at "wp"
    refine ⟨by rw [line_eq]; decide, ?_⟩
    have kq : Kp0 h (g ++ [PO.lst [.int 0]] ++ [PO.lst (IL (List.replicate (ds.getD 1 0).toNat [0]).flatten)] ++ [PO.lst (IL (p ++ (List.replicate (ds.getD 1 0).toNat [0]).flatten))]) := kp.trans (Kp.snoc.trans (Kp.snoc.trans Kp.snoc))
    have e1 : (g ++ [PO.lst [.int 0]] ++ [PO.lst (IL (List.replicate (ds.getD 1 0).toNat [0]).flatten)] ++ [PO.lst (IL (p ++ (List.replicate (ds.getD 1 0).toNat [0]).flatten))])[(g ++ [PO.lst [.int 0]] ++ [PO.lst (IL (List.replicate (ds.getD 1 0).toNat [0]).flatten)]).length]? = some (PO.lst (IL (p ++ (List.replicate (ds.getD 1 0).toNat [0]).flatten))) := get_new
    have e2 : (g ++ [PO.lst [.int 0]] ++ [PO.lst (IL (List.replicate (ds.getD 1 0).toNat [0]).flatten)] ++ [PO.lst (IL (p ++ (List.replicate (ds.getD 1 0).toNat [0]).flatten))])[w]? = some (PO.lst (IL q)) := Kp.snoc.get0 (Kp.snoc.get0 (Kp.snoc.get0 er))
    generalize (g ++ [PO.lst [.int 0]] ++ [PO.lst (IL (List.replicate (ds.getD 1 0).toNat [0]).flatten)]).length = l at e1
    generalize g ++ [PO.lst [.int 0]] ++ [PO.lst (IL (List.replicate (ds.getD 1 0).toNat [0]).flatten)] ++ [PO.lst (IL (p ++ (List.replicate (ds.getD 1 0).toNat [0]).flatten))] = g' at kq e1 e2
    rw [rd 2 2 rfl (kq.trans Kp.snoc) (by omega)]
    refine ⟨_, rfl, ?_⟩
    walk_at "wp"
    refine rep_lst (ns := [0]) get_new (by omega) (by omega) (by decide) ?_
    refine cat_ints (Kp.snoc.get0 (Kp.snoc.get0 e2)) get_new ?_ ?_
    · rw [fl]; omega
    walk_at "wp"
    have kr : Kp0 g' (g' ++ [.lst [.int 0]] ++ [.lst (IL (List.replicate (1 + ds.getD 2 0).toNat [0]).flatten)] ++ [.lst (IL (q ++ (List.replicate (1 + ds.getD 2 0).toNat [0]).flatten))]) := Kp.snoc.trans (Kp.snoc.trans Kp.snoc)
    rw [show List.drop 4 b__law_twin = _ :: List.drop 5 b__law_twin from rfl]; walk_at "wp"; rw [rd 0 0 rfl (kq.trans kr) (by omega), z]; walk_at "wp"; rw [if_neg (by decide)]
    rw [show List.drop 5 b__law_twin = _ :: List.drop 6 b__law_twin from rfl]; walk_at "wp"; rw [rd 0 0 rfl (kq.trans kr) (by omega), z]; walk_at "wp"; rw [if_neg (by decide)]
    rw [show List.drop 6 b__law_twin = _ :: List.drop 7 b__law_twin from rfl]; walk_at "wp"; rw [rd 0 0 rfl (kq.trans kr) (by omega), z]; walk_at "wp"; rw [if_neg (by decide)]
    rw [show List.drop 7 b__law_twin = [_] from rfl]; walk_at "wp"
    have zs : ∀ {n : List Int} {k : Nat}, (∀ c ∈ n, Sm 32 c) → ∀ c ∈ n ++ (List.replicate k [(0 : Int)]).flatten, Sm 40 c := by
      intro n k hn c hc
      rcases List.mem_append.mp hc with hc | hc
      · exact (hn c hc).mono (by omega)
      · simp at hc
        rw [hc.2]; exact Sm.zero
    refine ⟨sz, fin (kq.trans kr) (kr.get0 e1) get_new ?_ ?_ (zs hps) (zs hqs)⟩
    · rw [List.length_append, fl]; omega
    · rw [List.length_append, fl]; omega
  · rw [show List.drop 2 b__law_twin = _ :: List.drop 3 b__law_twin from rfl]; walk_at "wp"; rw [rd 0 0 rfl kp (by omega), z]; walk_at "wp"; rw [if_neg (by decide)]
    rw [show List.drop 3 b__law_twin = _ :: List.drop 4 b__law_twin from rfl]; walk_at "wp"; rw [rd 0 0 rfl kp (by omega), z]; walk_at "wp"; rw [if_neg (by decide)]
    rw [show List.drop 4 b__law_twin = _ :: List.drop 5 b__law_twin from rfl]; walk_at "wp"; rw [rd 0 0 rfl kp (by omega), z]; walk_at "wp"; rw [if_pos (by decide)]
    rw [rd 1 1 rfl kp (by omega)]
    refine ⟨_, rfl, ?_⟩
    walk_at "wp"
    refine ⟨by rw [line_eq]; decide, ?_⟩
    refine cat_ints (ms := [ds.getD 1 0 + 1]) (Kp.snoc.get0 el) get_new ?_ ?_
    · simp; omega
    walk_at "wp"
    have kr : Kp0 g (g ++ [.lst [.int (ds.getD 1 0 + 1)]] ++ [.lst (IL (p ++ [ds.getD 1 0 + 1]))]) := Kp.snoc.trans Kp.snoc
    rw [show List.drop 5 b__law_twin = _ :: List.drop 6 b__law_twin from rfl]; walk_at "wp"; rw [rd 0 0 rfl (kp.trans kr) (by omega), z]; walk_at "wp"; rw [if_neg (by decide)]
    rw [show List.drop 6 b__law_twin = _ :: List.drop 7 b__law_twin from rfl]; walk_at "wp"; rw [rd 0 0 rfl (kp.trans kr) (by omega), z]; walk_at "wp"; rw [if_neg (by decide)]
    rw [show List.drop 7 b__law_twin = [_] from rfl]; walk_at "wp"
    refine ⟨sz, fin (kp.trans kr) get_new (kr.get0 er) ?_ (by omega) ?_ (fun c hc => (hqs c hc).mono (by omega))⟩
    · simp; omega
    · intro c hc
      rcases List.mem_append.mp hc with hc | hc
      · exact (hps c hc).mono (by omega)
      · have hc : c = ds.getD 1 0 + 1 := by simpa using hc
        subst hc
        have := dr 1 (by omega)
        exact sm_lit (n := 8) (by omega) (by decide)
  · rw [show List.drop 2 b__law_twin = _ :: List.drop 3 b__law_twin from rfl]; walk_at "wp"; rw [rd 0 0 rfl kp (by omega), z]; walk_at "wp"; rw [if_neg (by decide)]
    rw [show List.drop 3 b__law_twin = _ :: List.drop 4 b__law_twin from rfl]; walk_at "wp"; rw [rd 0 0 rfl kp (by omega), z]; walk_at "wp"; rw [if_neg (by decide)]
    rw [show List.drop 4 b__law_twin = _ :: List.drop 5 b__law_twin from rfl]; walk_at "wp"; rw [rd 0 0 rfl kp (by omega), z]; walk_at "wp"; rw [if_neg (by decide)]
    rw [show List.drop 5 b__law_twin = _ :: List.drop 6 b__law_twin from rfl]; walk_at "wp"; rw [rd 0 0 rfl kp (by omega), z]; walk_at "wp"; rw [if_pos (by decide)]
    rw [len_seq (seqOf_lst el)]
    walk_at "wp"
    rw [List.length_map]
    by_cases lp : 0 < p.length
    · rw [if_pos (by rw [decide_eq_true_eq]; omega)]
      rw [rd 2 2 rfl kp (by omega)]
      refine ⟨_, rfl, ?_⟩
      rw [rd 1 1 rfl kp (by omega)]
      refine ⟨_, rfl, ?_⟩
      walk_at "wp"
      rw [len_seq (seqOf_lst el)]
      walk_at "wp"
      rw [List.length_map]
      refine p_smod (by omega) ?_
      have fr := fmod_rng (a := ds.getD 1 0) (b := (p.length : Int)) (by omega)
      obtain ⟨j, hj⟩ := Int.eq_ofNat_of_zero_le fr.1
      rw [hj] at fr ⊢
      have fr2 : j < p.length := by have := fr.2; omega
      refine setP_int el fr2 ?_
      have kr := kp.put (n := h.length) (o := .lst (IL (p.set j (ds.getD 2 0)))) (Nat.le_refl _)
      rw [show List.drop 6 b__law_twin = _ :: List.drop 7 b__law_twin from rfl]; walk_at "wp"; rw [rd 0 0 rfl kr (by omega), z]; walk_at "wp"; rw [if_neg (by decide)]
      rw [show List.drop 7 b__law_twin = [_] from rfl]; walk_at "wp"
      refine ⟨sz, fin kr (get_put el) (q' := q) ?_ (by simp; omega) (by omega) ?_ (fun c hc => (hqs c hc).mono (by omega))⟩
      · rw [List.getElem?_set_ne (by omega)]; exact er
      · intro c hc
        rcases mem_set' hc with rfl | hc
        · exact (ds3 2 (by omega)).mono (by omega)
        · exact (hps c hc).mono (by omega)
    · rw [if_neg (by rw [decide_eq_true_eq]; omega)]
      rw [show List.drop 6 b__law_twin = _ :: List.drop 7 b__law_twin from rfl]; walk_at "wp"; rw [rd 0 0 rfl kp (by omega), z]; walk_at "wp"; rw [if_neg (by decide)]
      rw [show List.drop 7 b__law_twin = [_] from rfl]; walk_at "wp"
      exact ⟨sz, fin kp el er (by omega) (by omega) (fun c hc => (hps c hc).mono (by omega)) (fun c hc => (hqs c hc).mono (by omega))⟩
  · rw [show List.drop 2 b__law_twin = _ :: List.drop 3 b__law_twin from rfl]; walk_at "wp"; rw [rd 0 0 rfl kp (by omega), z]; walk_at "wp"; rw [if_neg (by decide)]
    rw [show List.drop 3 b__law_twin = _ :: List.drop 4 b__law_twin from rfl]; walk_at "wp"; rw [rd 0 0 rfl kp (by omega), z]; walk_at "wp"; rw [if_neg (by decide)]
    rw [show List.drop 4 b__law_twin = _ :: List.drop 5 b__law_twin from rfl]; walk_at "wp"; rw [rd 0 0 rfl kp (by omega), z]; walk_at "wp"; rw [if_neg (by decide)]
    rw [show List.drop 5 b__law_twin = _ :: List.drop 6 b__law_twin from rfl]; walk_at "wp"; rw [rd 0 0 rfl kp (by omega), z]; walk_at "wp"; rw [if_neg (by decide)]
    rw [show List.drop 6 b__law_twin = _ :: List.drop 7 b__law_twin from rfl]; walk_at "wp"; rw [rd 0 0 rfl kp (by omega), z]; walk_at "wp"; rw [if_pos (by decide)]
    have hr' := kp.get0 hr
    rw [slc_lst (lstOf_lst hr'), cut_IL]
    walk_at "wp"
    rw [list_seq (seqOf_lst get_new)]
    walk_at "wp"
    rw [slc_lst (lstOf_lst ((Kp.snoc (S := [])).get0 ((Kp.snoc (S := [])).get0 hr'))), cut_IL]
    walk_at "wp"
    rw [list_seq (seqOf_lst get_new)]
    walk_at "wp"
    rw [show List.drop 7 b__law_twin = [_] from rfl]; walk_at "wp"
    have bd : ∀ {a b : Option Int}, ∀ c ∈ cutP ds a b, Sm 40 c := by
      intro a b c hc
      obtain ⟨i, hi⟩ := List.mem_iff_getElem?.mp (cut_mem hc)
      have hl := get_len hi
      have := ds3 i (by omega)
      rw [getD_of hi] at this
      exact this.mono (by omega)
    refine ⟨sz, fin (kp.trans (Kp.snoc.trans (Kp.snoc.trans (Kp.snoc.trans Kp.snoc)))) (Kp.snoc.get0 (Kp.snoc.get0 get_new)) get_new ?_ ?_ bd bd⟩
    · exact Nat.le_trans cut_len (by omega)
    · exact Nat.le_trans cut_len (by omega)
end K77
set_option Elab.async false
set_option linter.all false
set_option maxRecDepth 100000
set_option maxHeartbeats 4000000
namespace K77
open PySem PySem.Spec PyProof.Rows Fw L2
local macro_rules | `(tactic| walk_at "wp") => `(tactic| try simp only [wpSs, wpSt, wpE, wpEs, wpT, wpTs, wpG, wpI, wpO, List.getElem?_cons_zero, List.getElem?_cons_succ, Option.some.injEq, exists_eq_left', exists_eq_left, Nat.reduceAdd, List.set_cons_zero, List.set_cons_succ, setAll, wipeP, prmV, mtyP, partP, ite_true, ite_false, if_true, if_false, Bool.false_eq_true, true_and, exists_const, List.length_cons, List.length_nil, p_add, p_sub, p_and, q_add, q_sub, c_lt, c_le, c_gt, c_ge, c_eq, c_ne, c_eqs, c_nes, c_is, c_isnt, c_isb, c_isntb, t_bl, t_int, i_int, i_bl, m_two, m_three, m_four, m_min, Item.v, Item.h, PV.int.injEq, PV.bl.injEq, PV.str.injEq, PV.loc.injEq])
/-! _law_are_whole -/
def tail18 : List IS := [.ite (.tru (.cmp .NotEq (.bin .Mod (.prm .int [.idx (.var 1) (.cst (.int 0))]) (.var 2)) (.cst (.int 0)))) [.ret (.cst (.bl false))] [],
    .asg (.name 1) (.comp (.bin .Sub (.idx (.var 1) (.bin .Add (.var 4) (.cst (.int 1)))) (.idx (.var 1) (.var 4))) (.name 4) (.rng1 (.bin .Sub (.prm .len [.var 1]) (.cst (.int 1)))) [] [4])]
theorem b_law18 : b__law_are_whole = [.asg (.name 1) (.prm .list [.var 0]),
    .asg (.name 2) (.cst (.int 1)),
    .for_ (.name 3) (.rng1 (.prm .len [.var 0])) ((.ite (.tru (.cmp .Gt (.var 3) (.cst (.int 0)))) [.asg (.name 2) (.bin .Mult (.var 2) (.var 3))] []) :: tail18),
    .ret (.cst (.bl true))] := rfl
theorem tail18_ok {k : Nat} {E : PX → PSt → PH → Prop} {D : PEnds} {h : PH} {v : PV} {r i : Nat} {a : List Int} {x3 x4 : Option PV} (hr : h[r]? = some (.lst (IL (stp i a)))) (hi : i < a.length) (hl : a.length ≤ 10)
    (hN : (fst a i).fmod (M77.fac i) ≠ 0 → D.rt (.bl false) h)
    (hY : (fst a i).fmod (M77.fac i) = 0 → D.nx [some v, some (.loc h.length), some (.int (M77.fac i)), x3, x4] (h ++ [.lst (IL (stp (i + 1) a))])) :
    wpSs G0 (S k) (Sp k) E tail18 D [some v, some (.loc r), some (.int (M77.fac i)), x3, x4] h := by
  unfold tail18
  have f0 := M77.fac_pos i
  have sl := stp_len i a
  walk_at "wp"
  rw [show (0 : Int) = ((0 : Nat) : Int) from rfl, idx_at hr (by omega), show ((0 : Nat) : Int) = 0 from rfl]
  refine ⟨_, rfl, ?_⟩
  walk_at "wp"
  refine p_smod (by omega) ?_
  walk_at "wp"
  have fe : (stp i a).getD 0 0 = fst a i := rfl
  rw [fe]
  by_cases hm : (fst a i).fmod (M77.fac i) = 0
  · rw [if_neg (by rw [hm]; decide)]
    rw [len_seq (seqOf_lst hr)]
    walk_at "wp"
    refine ⟨_, rng_1' (n := a.length - i - 1) (by rw [List.length_map]; omega) (by omega), ?_⟩
    dsimp only
    refine lc_map (IL (stp (i + 1) a)) rfl (by rw [List.length_map, stp_len, rngL_len]; omega) (by rw [rngL_len, line_eq]; omega) (fun _ => trivial) rngL_val ?_ (hY hm)
    intro j x y h' K kp hx hy hK
    obtain ⟨hj, e⟩ := rng_item hx
    cases e
    replace hj : j < a.length - i - 1 := hj
    walk_at "wp"
    rw [show ((j : Int) + 1) = ((j + 1 : Nat) : Int) by omega, idx_at (kp.get0 hr) (by omega), idx_at (kp.get0 hr) (by omega)]
    refine ⟨_, rfl, _, rfl, ?_⟩
    walk_at "wp"
    rw [IL_get, show stp (i + 1) a = stp1 (stp i a) from rfl, stp1_at (by omega)] at hy
    cases hy
    exact hK
  · rw [if_pos (by rw [decide_eq_false hm]; rfl)]
    exact hN hm
theorem are_ok {k : Nat} {h : PH} {n : Nat} {a : List Int} {Q : PV → PH → Prop} {E : PX → PH → Prop} (hs : h[n]? = some (.lst (IL a))) (hl : a.length ≤ 10)
    (hN : ¬ divs a → ∀ h', Kp0 h h' → Q (.bl false) h') (hY : divs a → ∀ h', Kp0 h h' → Q (.bl true) h') : S (k + 1) 18 [.loc n] h Q E := by
  refine e__law_are_whole ?_
  rw [b_law18]
  walk_at "wp"
  rw [list_seq (seqOf_lst hs)]
  walk_at "wp"
  rw [len_seq (seqOf_lst ((Kp.snoc (S := [])).get0 hs))]
  walk_at "wp"
  refine ⟨_, rng_1' (n := a.length) (by rw [List.length_map]) (by omega), ?_⟩
  dsimp only
  refine for_inv (fun i σ h' => (∀ d, d < i → (fst a d).fmod (M77.fac d) = 0) ∧ Kp0 h h' ∧ ∃ r y3 y4, σ = [some (.loc n), some (.loc r), some (.int (M77.fac (i - 1))), y3, y4] ∧ h'[r]? = some (.lst (IL (stp i a)))) ⟨fun d hd => absurd hd (Nat.not_lt_zero _), Kp.snoc, h.length, none, none, rfl, get_new⟩ ?_ ?_
  · rintro i x σ h' K hx ⟨hd, kp, r, y3, y4, rfl, er⟩ hK
    obtain ⟨hi, rfl⟩ := rng_item hx
    replace hi : i < a.length := hi
    refine ⟨trivial, ?_⟩
    walk_at "wp"
    have fin : ∀ {B : PSt → PH → Prop}, wpSs G0 (S k) (Sp k) (fun x _ => E x) tail18 { nx := K, ct := K, bk := B, rt := Q } [some (.loc n), some (.loc r), some (.int (M77.fac i)), some (.int (i : Int)), y4] h' := by
      intro B
      refine tail18_ok er hi hl ?_ ?_
      · intro hm
        exact hN (fun z => hm (z i hi)) _ kp
      · intro hm
        refine hK _ _ ⟨?_, kp.trans Kp.snoc, _, _, _, rfl, get_new⟩
        intro d hd'
        by_cases hdi : d = i
        · rw [hdi]; exact hm
        · exact hd d (by omega)
    cases i with
    | zero =>
      rw [if_neg (by decide)]
      exact fin
    | succ j =>
      rw [if_pos (by rw [decide_eq_true_eq]; omega)]
      have f0 := M77.fac_pos j
      have f1 := fac_le j (by omega)
      refine p_smul 22 22 (show (M77.fac j).natAbs < 2 ^ 22 by omega) (show (((j + 1 : Nat) : Int)).natAbs < 2 ^ 22 by omega) (by omega) (by omega) (by omega) ?_
      exact fin
  · rintro σ h' ⟨hd, kp, r, y3, y4, rfl, er⟩
    refine ⟨trivial, ?_⟩
    rw [rngL_len] at hd
    walk_at "wp"
    exact hY hd _ kp
/-! what the answers are -/
theorem hev_tlA (x r : Int) : ∀ (ns : List Int) (c : Int), M77.hev (List.zipWith (fun a b => a - b) (c :: ns) (ns.map (fun i => r * i) ++ [0])) x = c + x * M77.hev ns x - r * M77.hev ns x
  | [], c => by show (c - 0) + x * 0 = c + x * 0 - r * 0; simp
  | a :: ns, c => by
    show (c - r * a) + x * M77.hev (List.zipWith (fun a b => a - b) (a :: ns) (ns.map (fun i => r * i) ++ [0])) x = c + x * (a + x * M77.hev ns x) - r * (a + x * M77.hev ns x)
    rw [hev_tlA x r ns a, Int.mul_sub, Int.mul_add, Int.mul_add, Int.mul_left_comm x r]
    omega
theorem hev_tl (x r : Int) (ns : List Int) : M77.hev (tl ns r) x = M77.hev ns x * (x - r) := by
  unfold tl
  rw [hev_tlA, Int.mul_sub, Int.mul_comm x, Int.mul_comm r]; omega
theorem hev_fool (x : Int) : ∀ n, M77.hev (foolR n) x = M77.fall n x
  | 0 => by show 1 + x * 0 = 1; omega
  | n + 1 => by rw [foolR_succ, hev_tl, hev_fool x n]; rfl
theorem hev_rep (x : Int) : ∀ n, M77.hev (List.replicate n 0) x = 0
  | 0 => rfl
  | n + 1 => by rw [List.replicate_succ]; show 0 + x * M77.hev (List.replicate n 0) x = 0; rw [hev_rep x n]; omega
theorem nevA_snoc (c x : Int) : ∀ (e : List Int) (d : Nat), M77.nevA d (e ++ [c]) x = M77.nevA d e x + c * M77.fall (d + e.length) x
  | [], d => by show c * M77.fall d x + 0 = 0 + c * M77.fall (d + 0) x; rw [Nat.add_zero]; omega
  | a :: r, d => by
    show a * M77.fall d x + M77.nevA (d + 1) (r ++ [c]) x = a * M77.fall d x + M77.nevA (d + 1) r x + c * M77.fall (d + (r.length + 1)) x
    rw [nevA_snoc c x r (d + 1), show d + 1 + r.length = d + (r.length + 1) by omega]; omega
def qs (a : List Int) (i : Nat) : List Int := (List.range i).map (quo a)
theorem tot_nev (a : List Int) (x : Int) : ∀ i, i ≤ a.length → M77.hev (totR a i) x = M77.nev (qs a i) x
  | 0, _ => hev_rep x _
  | i + 1, h => by
    show M77.hev (addR (totR a i) (foolR i) (quo a i)) x = _
    rw [hev_addR _ _ _ _ (by rw [foolR_len, totR_len]; omega), tot_nev a x i (by omega), hev_fool]
    have e : qs a (i + 1) = qs a i ++ [quo a i] := by unfold qs; rw [List.range_succ, List.map_append]; rfl
    rw [e]
    unfold M77.nev
    rw [nevA_snoc, Nat.zero_add, show (qs a i).length = i by simp [qs]]
theorem fst_DI (a : List Int) (d : Nat) (h : d < a.length) : fst a d = M77.DI d (fun x => a.getD x 0) 0 := stp_DI a d 0 (by omega)
theorem tot_right {a : List Int} (hd : divs a) : ∀ x : Nat, x < a.length → M77.hev (totR a a.length) x = a.getD x 0 := by
  refine M77.eq_of_DI a.length (fun x : Nat => M77.hev (totR a a.length) (x : Int)) (fun x => a.getD x 0) ?_
  intro d h
  rw [← fst_DI a d h, ← quo_mul (hd d h)]
  have e : (fun x : Nat => M77.hev (totR a a.length) (x : Int)) = fun x : Nat => M77.nev (qs a a.length) (x : Int) := funext fun x => tot_nev a _ _ (Nat.le_refl _)
  rw [e, M77.DI_nev0]
  congr 1
  refine getD_of ?_
  unfold qs
  rw [List.getElem?_map, List.getElem?_range h]; rfl
theorem divs_row (row : List Int) (n : Nat) : divs ((List.range n).map fun x : Nat => M77.hev row (x : Int)) := by
  intro d h
  have hn : d < n := by simpa using h
  rw [fst_DI _ d h]
  have e := M77.DI_congr d (fun x => ((List.range n).map fun x : Nat => M77.hev row (x : Int)).getD x 0) (fun x : Nat => M77.nev (M77.toN row) (x : Int)) n (fun x hx => by
    show ((List.range n).map fun x : Nat => M77.hev row (x : Int)).getD x 0 = _
    rw [← M77.hev_toN]
    refine getD_of ?_
    rw [List.getElem?_map, List.getElem?_range hx]; rfl) 0 (by omega)
  rw [e, M77.DI_nev0]
  exact Int.mul_fmod_right _ _
theorem addR_mem {T P : List Int} {c x : Int} : x ∈ addR T P c → ∃ t p, (t = 0 ∨ t ∈ T) ∧ (p = 0 ∨ p ∈ P) ∧ x = t + c * p := by
  induction T generalizing P with
  | nil => intro h; cases h
  | cons t T ih =>
    cases P with
    | nil => intro h; exact ⟨x, 0, .inr h, .inl rfl, by omega⟩
    | cons p P =>
      intro h
      rcases List.mem_cons.mp h with rfl | h
      · exact ⟨t, p, .inr (List.mem_cons_self ..), .inr (List.mem_cons_self ..), rfl⟩
      · obtain ⟨t', p', h1, h2, e⟩ := ih h
        exact ⟨t', p', h1.imp id (List.mem_cons_of_mem _), h2.imp id (List.mem_cons_of_mem _), e⟩
theorem totR_sm {a : List Int} (hb : ∀ c ∈ a, Sm 500 c) (hd : divs a) (hl : a.length ≤ 10) : ∀ i, i ≤ a.length → ∀ c ∈ totR a i, Sm (700 + i) c
  | 0, _, c, hc => by
    have : c = 0 := by have : c ∈ List.replicate a.length (0 : Int) := hc; simp at this; exact this.2
    subst this; exact Sm.zero
  | i + 1, h, c, hc => by
    obtain ⟨t, p, ht, hp, rfl⟩ := addR_mem hc
    have s1 : Sm (700 + i) t := by rcases ht with rfl | ht; exact Sm.zero; exact totR_sm hb hd hl i (by omega) t ht
    have s2 : Sm (9 * i + 1) p := by rcases hp with rfl | hp; exact Sm.zero; exact foolR_sm i (by omega) p hp
    have s3 := (quo_sm hb (hd i (by omega))).mul s2
    exact s1.add (s3.mono (by omega))
/-! _law_answered -/
theorem is_tup' {h : PH} {n : Nat} {xs : List PV} (e : h[n]? = some (.tup xs)) : isiV G0 [.loc n, .ty "tuple"] h = some (.bl true, h) := by
  rw [is_tup (tupOf_tup e), ki_tt]; rfl
theorem ne_ints {h : PH} {a b : Nat} {ns ms : List Int} (ha : h[a]? = some (.lst (IL ns))) (hb : h[b]? = some (.lst (IL ms))) : cmpV G0 .NotEq (.loc a) (.loc b) h = some (!decide (ns = ms)) := by
  have e : eqP G0 h (.loc a) (.loc b) = some (decide (ns = ms)) := eq_ints ha hb
  show (eqP G0 h (.loc a) (.loc b)).map (!·) = _
  rw [e]; rfl
theorem seq_at {h : PH} {v : PV} {i : Nat} {ns : List Int} (e : seqOf G0 h v = some (IL ns)) (hi : i < ns.length) : idxP G0 h v (.int (i : Int)) = some (.int (ns.getD i 0)) := by
  rw [idx_seq e, atI_nat', IL_get, get_getD hi]; rfl
theorem pos_get (T : List Int) (i : Nat) : (pos T).getD i 0 = max 0 (T.getD i 0) := by
  unfold pos
  rw [List.getD_eq_getElem?_getD, List.getD_eq_getElem?_getD, List.getElem?_map]
  cases T[i]? <;> simp
theorem neg_get (T : List Int) (i : Nat) : (neg T).getD i 0 = max 0 (-(T.getD i 0)) := by
  unfold neg
  rw [List.getD_eq_getElem?_getD, List.getD_eq_getElem?_getD, List.getElem?_map]
  cases T[i]? <;> simp
def d19 (n : Nat) : List IS := b__law_answered.drop n
theorem answered_ok {k : Nat} {h : PH} {n : Nat} {a : List Int} {Q : PV → PH → Prop} {E : PX → PH → Prop} (hs : h[n]? = some (.lst (IL a))) (hl : a.length ≤ 10) (hb : ∀ c ∈ a, Sm 500 c)
    (hq : ∀ h', Kp0 h h' → Q (.bl true) h') : S (k + 3) 19 [.loc n, .int (a.length : Int)] h Q E := by
  refine e__law_answered ?_
  show wpSs G0 (S (k + 2)) (Sp (k + 2)) (fun x _ => E x) (d19 0) _ _ _
  rw [show d19 0 = _ :: _ :: _ :: d19 3 from rfl]
  walk_at "wp"
  rw [list_seq (seqOf_lst hs)]
  walk_at "wp"
  have rest : ∀ {told : PV} {h' : PH}, Kp0 h h' → h'[h.length]? = some (.lst (IL a)) → (divs a → ∃ m, told = .loc m ∧ PairAt h' m (pos (totR a a.length)) (neg (totR a a.length))) → (¬ divs a → told = .non) →
      ∃ r, listV G0 [.loc n] h' = some r ∧ ∃ r1, cmpV G0 .NotEq (.loc h.length) r.1 r.2 = some r1 ∧ if r1 = true then Q (.bl false) r.2 else wpSs G0 (S (k + 2)) (Sp (k + 2)) (fun x _ => E x) (d19 3) { nx := fun _ h' => Q .non h', rt := Q } [some (.loc n), some (.int (a.length : Int)), some (.loc h.length), some told, none, none, none] r.2 := by
    intro told h1 kp1 hh hY hN
    refine ⟨_, list_seq (seqOf_lst (kp1.get0 hs)), ?_⟩
    refine ⟨_, ne_ints (Kp.snoc.get0 hh) get_new, ?_⟩
    rw [if_neg (by rw [decide_eq_true rfl]; decide)]
    have kp2 : Kp0 h1 (h1 ++ [.lst (IL a)]) := Kp.snoc
    dsimp only
    generalize h1 ++ [PO.lst (IL a)] = h2 at kp2
    have kp := kp1.trans kp2
    rw [show d19 3 = _ :: d19 4 from rfl]
    walk_at "wp"
    by_cases hd : divs a
    · obtain ⟨m, rfl, pa⟩ := hY hd
      replace pa := pa.kp kp2
      refine are_ok (kp.get0 hs) hl (fun h _ _ => absurd hd h) ?_
      intro _ h3 kp3
      replace pa := pa.kp kp3
      replace kp := kp.trans kp3
      clear kp2 kp3 kp1 hh hN hY
      walk_at "wp"
      have tl := totR_len a a.length
      have tr := tot_right hd
      have ts := totR_sm hb hd hl a.length (Nat.le_refl _)
      generalize totR a a.length = T at pa tl tr ts
      obtain ⟨u, w, p0, p1, p2⟩ := pa.ex
      have pl : (pos T).length = a.length := by simp [pos, tl]
      have nl : (neg T).length = a.length := by simp [neg, tl]
      have i0 : ∀ {g : PH}, Kp0 h3 g → idxP G0 g (.loc m) (.int 0) = some (.loc u) := fun kg => by rw [idx_seq (seqOf_tup (kg.get0 p0))]; rfl
      have i1 : ∀ {g : PH}, Kp0 h3 g → idxP G0 g (.loc m) (.int 1) = some (.loc w) := fun kg => by rw [idx_seq (seqOf_tup (kg.get0 p0))]; rfl
      have ju : ∀ {g : PH} {i : Nat}, Kp0 h3 g → i < a.length → idxP G0 g (.loc u) (.int (i : Int)) = some (.int (max 0 (T.getD i 0))) := fun kg hi => by
        rw [seq_at (seqOf_tup (kg.get0 p1)) (by omega), pos_get]
      have jw : ∀ {g : PH} {i : Nat}, Kp0 h3 g → i < a.length → idxP G0 g (.loc w) (.int (i : Int)) = some (.int (max 0 (-(T.getD i 0)))) := fun kg hi => by
        rw [seq_at (seqOf_tup (kg.get0 p2)) (by omega), neg_get]
      rw [show d19 4 = _ :: d19 5 from rfl]
      walk_at "wp"
      rw [is_tup' p0]
      walk_at "wp"
      rw [len_seq (seqOf_tup p0)]
      walk_at "wp"
      rw [if_neg (by decide)]
      rw [show d19 5 = _ :: d19 6 from rfl]
      walk_at "wp"
      refine ⟨_, rng_1' (n := 2) (by decide) (by decide), ?_⟩
      dsimp only
      refine for_inv (fun i σ h' => h' = h3 ∧ ∃ y, σ = [some (.loc n), some (.int (a.length : Int)), some (.loc h.length), some (.loc m), y, none, none]) ⟨rfl, none, rfl⟩ ?_ ?_
      · rintro i x σ h' K hx ⟨rfl, y, rfl⟩ hK
        obtain ⟨hi, rfl⟩ := rng_item hx
        refine ⟨trivial, ?_⟩
        have z : i = 0 ∨ i = 1 := by have : i < 2 := hi; omega
        walk_at "wp"
        rcases z with rfl | rfl
        · rw [show ((0 : Nat) : Int) = 0 from rfl, i0 Kp.refl]
          walk_at "wp"
          rw [is_tup' p1]
          walk_at "wp"
          try rw [if_neg (by decide)]
          try rw [i0 Kp.refl]
          walk_at "wp"
          rw [len_seq (seqOf_tup p1)]
          walk_at "wp"
          rw [List.length_map, pl, if_neg (by rw [decide_eq_true rfl]; decide)]
          exact hK _ _ ⟨rfl, _, rfl⟩
        · rw [show ((1 : Nat) : Int) = 1 from rfl, i1 Kp.refl]
          walk_at "wp"
          rw [is_tup' p2]
          walk_at "wp"
          try rw [if_neg (by decide)]
          try rw [i1 Kp.refl]
          walk_at "wp"
          rw [len_seq (seqOf_tup p2)]
          walk_at "wp"
          rw [List.length_map, nl, if_neg (by rw [decide_eq_true rfl]; decide)]
          exact hK _ _ ⟨rfl, _, rfl⟩
      rintro σ h' ⟨rfl, y, rfl⟩
      refine ⟨trivial, ?_⟩
      dsimp only
      rw [show d19 6 = _ :: d19 7 from rfl]
      walk_at "wp"
      refine ⟨_, rng_1' (n := a.length) rfl (by omega), ?_⟩
      dsimp only
      refine for_inv (fun i σ g => g = h' ∧ ∃ y, σ = [some (.loc n), some (.int (a.length : Int)), some (.loc h.length), some (.loc m), y, none, none]) ⟨rfl, y, rfl⟩ ?_ ?_
      · rintro i x σ h' K hx ⟨rfl, y, rfl⟩ hK
        obtain ⟨hi, rfl⟩ := rng_item hx
        replace hi : i < a.length := hi
        refine ⟨trivial, ?_⟩
        walk_at "wp"
        rw [i0 Kp.refl]
        walk_at "wp"
        rw [ju Kp.refl hi]
        refine ⟨_, rfl, ?_⟩
        refine whole_ok ?_
        walk_at "wp"
        rw [if_neg (by rw [decide_eq_true (by omega)]; decide)]
        rw [i1 Kp.refl]
        walk_at "wp"
        rw [jw Kp.refl hi]
        refine ⟨_, rfl, ?_⟩
        refine whole_ok ?_
        walk_at "wp"
        rw [if_neg (by rw [decide_eq_true (by omega)]; decide)]
        rw [i0 Kp.refl]
        walk_at "wp"
        rw [ju Kp.refl hi]
        refine ⟨_, rfl, ?_⟩
        rw [i1 Kp.refl]
        walk_at "wp"
        rw [jw Kp.refl hi]
        refine ⟨_, rfl, ?_⟩
        walk_at "wp"
        rw [if_neg (by rw [decide_eq_true (by omega)]; decide)]
        exact hK _ _ ⟨rfl, _, rfl⟩
      rintro σ h' ⟨rfl, y, rfl⟩
      refine ⟨trivial, ?_⟩
      dsimp only
      rw [show d19 7 = _ :: d19 8 from rfl]
      walk_at "wp"
      refine ⟨_, rng_1' (n := a.length) rfl (by omega), ?_⟩
      dsimp only
      refine lc_map (IL T) rfl (by rw [List.length_map, rngL_len, tl]) (by rw [rngL_len, line_eq]; omega) (fun _ => trivial) rngL_val ?_ ?_
      · intro j x y g K kg hx hy hK
        obtain ⟨hj, e⟩ := rng_item hx
        cases e
        replace hj : j < a.length := hj
        walk_at "wp"
        rw [i0 kg]
        walk_at "wp"
        rw [ju kg hj]
        refine ⟨_, rfl, ?_⟩
        rw [i1 kg]
        walk_at "wp"
        rw [jw kg hj]
        refine ⟨_, rfl, ?_⟩
        walk_at "wp"
        rw [IL_get, get_getD (by omega)] at hy
        cases hy
        have : max 0 (T.getD j 0) - max 0 (-(T.getD j 0)) = T.getD j 0 := by omega
        rw [this]
        exact hK
      rw [show d19 8 = [_] from rfl]
      walk_at "wp"
      refine ⟨_, rng_1' (n := a.length) rfl (by omega), ?_⟩
      dsimp only
      have ef : (h' ++ [PO.lst (IL T)])[h'.length]? = some (.lst (IL T)) := get_new
      refine lc_map (IL ((List.range a.length).map fun x : Nat => M77.hev T (x : Int))) rfl (by simp [rngL_len]) (by rw [rngL_len, line_eq]; omega) (fun _ => trivial) rngL_val ?_ ?_
      · intro j x y g K kg hx hy hK
        obtain ⟨hj, e⟩ := rng_item hx
        cases e
        replace hj : j < a.length := hj
        walk_at "wp"
        refine row_ok (kg.get0 ef) (by omega) ts (by omega) ((small_sm (by omega)).mono (by omega)) ?_
        rw [IL_get, List.getElem?_map, List.getElem?_range hj] at hy
        cases hy
        exact hK
      · walk_at "wp"
        have ea : (List.range a.length).map (fun x : Nat => M77.hev T (x : Int)) = a := by
          refine List.ext_getElem? fun i => ?_
          rw [List.getElem?_map]
          by_cases hi : i < a.length
          · rw [List.getElem?_range hi, get_getD hi, ← tr i hi]; rfl
          · rw [List.getElem?_eq_none (l := List.range a.length) (by rw [List.length_range]; omega), List.getElem?_eq_none (l := a) (by omega)]; rfl
        rw [ea]
        refine ⟨_, eq_ints (ns := a) (ms := a) get_new ?_, ?_⟩
        · exact (Kp.snoc (S := [])).get0 ((Kp.snoc (S := [])).get0 (kp.get0 hs))
        · rw [decide_eq_true rfl]
          exact hq _ (kp.trans (Kp.snoc.trans Kp.snoc))
    · have e := hN hd
      subst e
      refine are_ok (kp.get0 hs) hl ?_ (fun h _ _ => absurd h hd)
      intro _ h3 kp3
      walk_at "wp"
      exact hq _ (kp.trans kp3)
  refine soa_ok (n := h.length) get_new hl hb ?_ ?_
  · intro hd h' kp
    have := rest (told := .non) (h' := h') (Kp.snoc.trans kp) (kp.get0 get_new) (fun z => absurd z hd) (fun _ => rfl)
    exact this
  · intro hd h' m kp _ pa
    have := rest (told := .loc m) (h' := h') (Kp.snoc.trans kp) (kp.get0 get_new) (fun _ => ⟨m, rfl, pa⟩) (fun z => absurd hd z)
    exact this
end K77
set_option Elab.async false
set_option linter.all false
set_option maxRecDepth 100000
set_option maxHeartbeats 4000000
namespace K77
open PySem PySem.Spec PyProof.Rows Fw L2
local macro_rules | `(tactic| walk_at "wp") => `(tactic| try simp only [wpSs, wpSt, wpE, wpEs, wpT, wpTs, wpG, wpI, wpO, List.getElem?_cons_zero, List.getElem?_cons_succ, Option.some.injEq, exists_eq_left', exists_eq_left, Nat.reduceAdd, List.set_cons_zero, List.set_cons_succ, setAll, wipeP, prmV, mtyP, partP, ite_true, ite_false, if_true, if_false, Bool.false_eq_true, true_and, exists_const, List.length_cons, List.length_nil, p_add, p_sub, p_and, q_add, q_sub, c_lt, c_le, c_gt, c_ge, c_eq, c_ne, c_eqs, c_nes, c_is, c_isnt, c_isb, c_isntb, t_bl, t_int, i_int, i_bl, m_two, m_three, m_four, m_min, Item.v, Item.h, PV.int.injEq, PV.bl.injEq, PV.str.injEq, PV.loc.injEq])
/-! _law_lengths -/
def d20 (n : Nat) : List IS := b__law_lengths.drop n
theorem hev_sm2 {b l : Nat} {x : Int} (hx : Sm l x) : ∀ {p : List Int}, (∀ c ∈ p, Sm b c) → Sm (b + (l + 1) * p.length + 1) (M77.hev p x)
  | [], _ => Sm.zero
  | a :: r, h => by
    have h1 := hev_sm2 hx (p := r) fun c hc => h c (List.mem_cons_of_mem _ hc)
    have h2 := hx.mul h1
    have h3 := h a (List.mem_cons_self ..)
    have e : (l + 1) * (r.length + 1) = (l + 1) * r.length + (l + 1) := Nat.mul_succ ..
    show Sm (b + (l + 1) * (r.length + 1) + 1) (a + x * M77.hev r x)
    exact ((h3.mono (show b ≤ l + (b + (l + 1) * r.length + 1) by omega)).add h2).mono (by omega)
theorem sm_rng {b n : Nat} {i : Int} (h0 : -(n : Int) ≤ i) (h1 : i ≤ n) (hn : n < 2 ^ b) : Sm b i := Nat.lt_of_le_of_lt (show i.natAbs ≤ n by omega) hn
theorem dig_at {ds ss : List Int} (h : Dig ds ss) {i : Nat} (hi : i < ss.length) {g : PH} {n : Nat} (e : g[n]? = some (.lst (IL ds))) : idxP G0 g (.loc n) (.int (i : Int)) = some (.int (ds.getD i 0)) := idx_at e (by rw [h.1]; exact hi)
theorem siz_rep {m : Int} {n : Nat} (h0 : 0 < m) (h1 : m < 2 ^ 90) (hn : n ≤ 64) : Siz (List.replicate n [m]).flatten := by
  refine ⟨by simp; exact hn, fun s hs => ?_⟩
  simp at hs
  rw [hs.2]
  exact ⟨h0, sm_rng (n := 2 ^ 90) (by omega) (by omega) (by decide)⟩
theorem rep_at {m : Int} {n i : Nat} (h : i < n) : (List.replicate n [m]).flatten.getD i 0 = m := by
  have e : (List.replicate n [m]).flatten = List.replicate n m := by
    clear h
    induction n with
    | zero => rfl
    | succ n ih => rw [List.replicate_succ, List.flatten_cons, ih]; rfl
  rw [e]
  exact getD_of (by rw [List.getElem?_replicate, if_pos h])
theorem lengths_ok {k : Nat} {h : PH} {ns : List Int} {Q : PV → PH → Prop} {E : PX → PH → Prop} (hs : Scr h ns) (hq : ∀ h', Kp0 h h' → Q (.bl true) h') : S (k + 4) 20 [.loc 0] h Q E := by
  refine e__law_lengths ?_
  show wpSs G0 (S (k + 3)) (Sp (k + 3)) (fun x _ => E x) (d20 0) _ _ _
  rw [show d20 0 = _ :: d20 1 from rfl]
  walk_at "wp"
  refine cell_ok (c := 4) hs (by omega) ?_
  intro c0
  walk_at "wp"
  refine ⟨by rw [line_eq]; decide, ?_⟩
  refine digits_ok (ss := [9, 4, 5, 9, 6, 8]) get_new ⟨by decide, by simp [Sm]⟩ ?_
  intro h1 sz ds kp1 _ hd es
  replace kp1 := (Kp.snoc (S := [])).trans kp1
  have dl : ds.length = 6 := hd.1
  have d0 := hd.2 0 (by decide)
  have d1 := hd.2 1 (by decide)
  have d2 := hd.2 2 (by decide)
  have d3 := hd.2 3 (by decide)
  have d4 := hd.2 4 (by decide)
  replace d0 : 0 ≤ ds.getD 0 0 ∧ ds.getD 0 0 < 9 := d0
  replace d1 : 0 ≤ ds.getD 1 0 ∧ ds.getD 1 0 < 4 := d1
  replace d2 : 0 ≤ ds.getD 2 0 ∧ ds.getD 2 0 < 5 := d2
  replace d3 : 0 ≤ ds.getD 3 0 ∧ ds.getD 3 0 < 9 := d3
  replace d4 : 0 ≤ ds.getD 4 0 ∧ ds.getD 4 0 < 6 := d4
  walk_at "wp"
  rw [show d20 1 = _ :: d20 2 from rfl]
  walk_at "wp"
  have rd : ∀ {g : PH} (i : Nat) (j : Int), g[sz]? = some (.lst (IL ds)) → j = (i : Int) → i < 6 → idxP G0 g (.loc sz) (.int j) = some (.int (ds.getD i 0)) := fun i j es e hi => by
    rw [e]; exact idx_at es (by omega)
  rw [rd 0 0 es rfl (by omega)]
  refine ⟨_, rfl, ?_⟩
  walk_at "wp"
  obtain ⟨c, hc⟩ : ∃ c : Nat, 1 + ds.getD 0 0 = (c : Int) := ⟨(1 + ds.getD 0 0).toNat, by omega⟩
  have hc9 : 1 ≤ c ∧ c ≤ 9 := by omega
  rw [hc]
  rw [show d20 2 = _ :: d20 3 from rfl]
  walk_at "wp"
  refine ⟨_, by rw [p_pow, if_pos (by decide)], ?_⟩
  refine ⟨by rw [line_eq]; decide, ?_⟩
  rw [rd 1 1 (Kp.snoc.get0 es) rfl (by omega)]
  refine ⟨_, rfl, ?_⟩
  obtain ⟨j, hj⟩ : ∃ j : Nat, ds.getD 1 0 = (j : Int) := ⟨(ds.getD 1 0).toNat, by omega⟩
  rw [hj]
  dsimp only
  obtain ⟨M, hM0, hM1, hM⟩ : ∃ M : Int, 0 < M ∧ M ≤ 1000000000 ∧ idxP G0 (h1 ++ [PO.lst [.int 41, .int 4, .int ((10 : Int) ^ Int.toNat 9), .int 13]]) (.loc h1.length) (.int (j : Int)) = some (.int M) := by
    have e : idxP G0 (h1 ++ [PO.lst (IL [41, 4, 1000000000, 13])]) (.loc h1.length) (.int (j : Int)) = some (.int ([41, 4, 1000000000, 13].getD j 0)) := idx_at get_new (by show j < 4; omega)
    refine ⟨_, ?_, ?_, e⟩
    · rcases j with _ | _ | _ | _ | j
      · decide
      · decide
      · decide
      · decide
      · omega
    · rcases j with _ | _ | _ | _ | j
      · decide
      · decide
      · decide
      · decide
      · omega
  refine ⟨_, hM, ?_⟩
  have kp2 := kp1.trans (Kp.snoc (S := []) (o := PO.lst [.int 41, .int 4, .int ((10 : Int) ^ Int.toNat 9), .int 13]))
  replace es := (Kp.snoc (S := []) (o := PO.lst [.int 41, .int 4, .int ((10 : Int) ^ Int.toNat 9), .int 13])).get0 es
  clear hM kp1
  generalize h1 ++ [PO.lst [.int 41, .int 4, .int ((10 : Int) ^ Int.toNat 9), .int 13]] = h2 at kp2 es
  rw [show d20 3 = _ :: d20 4 from rfl]
  walk_at "wp"
  refine cell_ok (c := 5) (hs.kp kp2) (by omega) ?_
  intro c1
  walk_at "wp"
  refine p_smul 5 50 (sm_lit (n := 2) (by decide) (by decide)) (sm_lit (n := 1000000000) (by omega) (by decide)) (by omega) (by omega) (by omega) ?_
  walk_at "wp"
  refine ⟨by rw [line_eq]; decide, ?_⟩
  refine rep_lst (ns := [2 * M + 1]) get_new (by decide) (by decide) (Nat.le_of_ble_eq_true rfl) ?_
  refine digits_ok (ss := (List.replicate 9 [2 * M + 1]).flatten) get_new (siz_rep (by omega) (by omega) (by omega)) ?_
  intro h3 pz ps kp3 _ hp ep
  replace kp3 := (Kp.snoc (S := [])).trans ((Kp.snoc (S := [])).trans kp3)
  have pl : ps.length = 9 := hp.1.trans (by simp)
  have pb : ∀ i, i < 9 → 0 ≤ ps.getD i 0 ∧ ps.getD i 0 < 2 * M + 1 := fun i hi => by
    have := hp.2 i (by simp; exact hi)
    rw [rep_at hi] at this
    exact this
  have kp := kp2.trans kp3
  replace es := kp3.get0 es
  rw [show d20 4 = _ :: d20 5 from rfl]
  walk_at "wp"
  refine ⟨_, rng_1' (n := c) rfl (by omega), ?_⟩
  dsimp only
  obtain ⟨R, hR⟩ : ∃ R : List Int, R = (List.range c).map fun i => ps.getD i 0 - M := ⟨_, rfl⟩
  have Rl : R.length = c := by rw [hR]; simp
  have Rs : ∀ x ∈ R, Sm 31 x := fun x hx => by
    rw [hR] at hx
    obtain ⟨i, hi, rfl⟩ := List.mem_map.mp hx
    have := List.mem_range.mp hi
    have := pb i (by omega)
    exact sm_rng (n := 1000000000) (by omega) (by omega) (by decide)
  refine lc_map (IL R) rfl (by rw [List.length_map, rngL_len, Rl]) (by rw [rngL_len, line_eq]; omega) (fun _ => trivial) rngL_val ?_ ?_
  · intro j x y g K kg hx hy hK
    obtain ⟨hj, e⟩ := rng_item hx
    cases e
    replace hj : j < c := hj
    walk_at "wp"
    rw [idx_at (kg.get0 ep) (by omega)]
    refine ⟨_, rfl, ?_⟩
    walk_at "wp"
    rw [IL_get, hR, List.getElem?_map, List.getElem?_range hj] at hy
    cases hy
    exact hK
  have er : (h3 ++ [PO.lst (IL R)])[h3.length]? = some (.lst (IL R)) := get_new
  have kp4 := kp.trans (Kp.snoc (S := []) (o := PO.lst (IL R)))
  replace es := (Kp.snoc (S := []) (o := PO.lst (IL R))).get0 es
  clear ep
  generalize h3.length = rz at er
  generalize h3 ++ [PO.lst (IL R)] = h4 at er es kp4
  rw [show d20 5 = _ :: d20 6 from rfl]
  walk_at "wp"
  refine ⟨_, rng_1' (n := c) rfl (by omega), ?_⟩
  dsimp only
  obtain ⟨A, hA⟩ : ∃ A : List Int, A = (List.range c).map fun i : Nat => M77.hev R (i : Int) := ⟨_, rfl⟩
  have Al : A.length = c := by rw [hA]; simp
  have As : ∀ x ∈ A, Sm 90 x := fun x hx => by
    rw [hA] at hx
    obtain ⟨i, hi, rfl⟩ := List.mem_map.mp hx
    have := List.mem_range.mp hi
    exact (hev_sm2 (l := 4) (sm_rng (n := 9) (by omega) (by omega) (by decide)) Rs).mono (by omega)
  refine lc_map (IL A) rfl (by rw [List.length_map, rngL_len, Al]) (by rw [rngL_len, line_eq]; omega) (fun _ => trivial) rngL_val ?_ ?_
  · intro j x y g K kg hx hy hK
    obtain ⟨hj, e⟩ := rng_item hx
    cases e
    replace hj : j < c := hj
    walk_at "wp"
    refine row_ok (m0 := 0) (kg.get0 er) (by omega) (fun x hx => (Rs x hx).mono (by omega)) (by omega) ((small_sm (by omega)).mono (by omega)) ?_
    rw [IL_get, hA, List.getElem?_map, List.getElem?_range hj] at hy
    cases hy
    exact hK
  have ea : (h4 ++ [PO.lst (IL A)])[h4.length]? = some (.lst (IL A)) := get_new
  have kp5 := kp4.trans (Kp.snoc (S := []) (o := PO.lst (IL A)))
  have sne := get_len es
  have rne := get_len er
  replace er := (Kp.snoc (S := []) (o := PO.lst (IL A))).get0 er
  replace es := (Kp.snoc (S := []) (o := PO.lst (IL A))).get0 es
  have hal : h.length ≤ h4.length := kp4.1
  generalize h4.length = az at ea hal sne rne
  generalize h4 ++ [PO.lst (IL A)] = h5 at er ea es kp5
  clear kp4 kp kp3 kp2
  rw [show d20 6 = _ :: d20 7 from rfl]
  walk_at "wp"
  have Ad : divs A := by rw [hA]; exact divs_row R c
  refine are_ok ea (by omega) (fun z => absurd Ad z) ?_
  intro _ h6 kp6
  walk_at "wp"
  rw [← Al]
  refine answered_ok (kp6.get0 ea) (by omega) (fun x hx => (As x hx).mono (by omega)) ?_
  intro h7 kp7
  walk_at "wp"
  replace kp7 := kp6.trans kp7
  replace ea := kp7.get0 ea
  replace er := kp7.get0 er
  replace es := kp7.get0 es
  have kp8 := kp5.trans kp7
  have st11 : ∀ {g : PH} {A' : List Int} {a' : Nat} {x1 x3 x4 x5 x7 x8 x9 x10 : Option PV}, Kp0 h g → g[a']? = some (.lst (IL A')) → A'.length = A.length → (∀ x ∈ A', Sm 400 x) → wpSs G0 (S (k + 3)) (Sp (k + 3)) (fun x _ => E x) (d20 11) { nx := fun _ h' => Q .non h', rt := Q } [some (.loc 0), x1, some (.int (A.length : Int)), x3, x4, x5, some (.loc a'), x7, x8, x9, x10] g := by
    intro g A' a' x1 x3 x4 x5 x7 x8 x9 x10 kg e1 e2 e3
    rw [show d20 11 = [_] from rfl]
    walk_at "wp"
    rw [← e2]
    refine answered_ok e1 (by omega) (fun x hx => (e3 x hx).mono (by omega)) ?_
    intro g' kg'
    exact hq g' (kg.trans kg')
  rw [show d20 7 = _ :: d20 8 from rfl]
  walk_at "wp"
  rw [rd 3 3 es rfl (by omega)]
  refine ⟨_, rfl, ?_⟩
  walk_at "wp"
  refine p_smod (by omega) ?_
  obtain ⟨t, ht⟩ : ∃ t : Nat, (ds.getD 3 0).fmod (A.length : Int) = (t : Int) := ⟨_, (Int.toNat_of_nonneg (fmod_rng (by omega)).1).symm⟩
  have htl : t < A.length := by
    have := (fmod_rng (a := ds.getD 3 0) (b := (A.length : Int)) (by omega)).2
    rw [ht] at this; omega
  rw [ht]
  have st10 : ∀ {g : PH} {A' : List Int} {x8 x9 x10 : Option PV}, Kp0 h g → g[az]? = some (.lst (IL A')) → A'.length = A.length → (∀ x ∈ A', Sm 400 x) → g[sz]? = some (.lst (IL ds)) → g[rz]? = some (.lst (IL R)) → wpSs G0 (S (k + 3)) (Sp (k + 3)) (fun x _ => E x) (d20 10) { nx := fun _ h' => Q .non h', rt := Q } [some (.loc 0), some (.loc sz), some (.int (A.length : Int)), some (.int M), some (.loc pz), some (.loc rz), some (.loc az), some (.int (t : Int)), x8, x9, x10] g := by
    intro g A' x8 x9 x10 kg e1 e2 e3 es er
    rw [show d20 10 = _ :: d20 11 from rfl]
    walk_at "wp"
    rw [rd 2 2 es rfl (by omega)]
    refine ⟨_, rfl, ?_⟩
    walk_at "wp"
    by_cases z : 2 < ds.getD 2 0
    · rw [if_pos (by rw [decide_eq_true_eq]; exact z)]
      by_cases z2 : M < 100
      · rw [if_pos (by rw [decide_eq_true_eq]; exact z2)]
        refine ⟨_, rng_1' (n := A.length) rfl (by omega), ?_⟩
        dsimp only
        refine lc_map (IL ((List.range A.length).map fun i => (R.getD i 0).fmod 9 - 3)) rfl (by simp [rngL_len]) (by rw [rngL_len, line_eq]; omega) (fun _ => trivial) rngL_val ?_ ?_
        · intro j x y g K kg hx hy hK
          obtain ⟨hj, e⟩ := rng_item hx
          cases e
          replace hj : j < A.length := hj
          walk_at "wp"
          rw [idx_at (kg.get0 er) (by omega)]
          refine ⟨_, rfl, ?_⟩
          walk_at "wp"
          refine p_smod (by decide) ?_
          walk_at "wp"
          rw [IL_get, List.getElem?_map, List.getElem?_range hj] at hy
          cases hy
          exact hK
        · refine st11 (kg.trans Kp.snoc) get_new (by simp) ?_
          intro x hx
          obtain ⟨i, hi, rfl⟩ := List.mem_map.mp hx
          have := fmod_rng (a := R.getD i 0) (b := 9) (by decide)
          exact sm_rng (n := 9) (by omega) (by omega) (by decide)
      · rw [if_neg (by rw [decide_eq_true_eq]; exact z2)]
        exact st11 kg e1 e2 e3
    · rw [if_neg (by rw [decide_eq_true_eq]; exact z)]
      exact st11 kg e1 e2 e3
  have up : ∀ {g : PH} {A' : List Int} {v : Int} {P : PH → Prop}, Kp0 h g → g[az]? = some (.lst (IL A')) → A'.length = A.length → (∀ x ∈ A', Sm 300 x) → g[sz]? = some (.lst (IL ds)) → g[rz]? = some (.lst (IL R)) → Sm 300 v → (∀ g' B, Kp0 h g' → g'[az]? = some (.lst (IL B)) → B.length = A.length → (∀ x ∈ B, Sm 300 x) → g'[sz]? = some (.lst (IL ds)) → g'[rz]? = some (.lst (IL R)) → P g') → ∃ g', setP (.loc az) (.int (t : Int)) (.int v) g = some g' ∧ P g' := by
    intro g A' v P kg e1 e2 e3 e4 e5 hv hP
    refine setP_int e1 (by omega) ?_
    refine hP _ _ (kg.put hal) (get_put e1) (by simpa using e2) ?_ ?_ ?_
    · intro x hx
      rcases mem_set' hx with rfl | hx
      · exact hv
      · exact e3 x hx
    · rw [List.getElem?_set_ne (by omega)]; exact e4
    · rw [List.getElem?_set_ne (by omega)]; exact e5
  have st9 : ∀ {g : PH} {A' : List Int} {x8 x9 x10 : Option PV}, Kp0 h g → g[az]? = some (.lst (IL A')) → A'.length = A.length → (∀ x ∈ A', Sm 100 x) → g[sz]? = some (.lst (IL ds)) → g[rz]? = some (.lst (IL R)) → wpSs G0 (S (k + 3)) (Sp (k + 3)) (fun x _ => E x) (d20 9) { nx := fun _ h' => Q .non h', rt := Q } [some (.loc 0), some (.loc sz), some (.int (A.length : Int)), some (.int M), some (.loc pz), some (.loc rz), some (.loc az), some (.int (t : Int)), x8, x9, x10] g := by
    intro g A' x8 x9 x10 kg e1 e2 e3 e4 e5
    rw [show d20 9 = _ :: d20 10 from rfl]
    walk_at "wp"
    rw [rd 2 2 e4 rfl (by omega)]
    refine ⟨_, rfl, ?_⟩
    walk_at "wp"
    by_cases z : ds.getD 2 0 = 2
    · rw [if_pos (by rw [decide_eq_true_eq]; exact z)]
      refine ⟨_, rng_1' (n := A.length) rfl (by omega), ?_⟩
      dsimp only
      refine for_inv (fun i σ g' => g' = g ∧ ∃ y, σ = [some (.loc 0), some (.loc sz), some (.int (A.length : Int)), some (.int M), some (.loc pz), some (.loc rz), some (.loc az), some (.int (t : Int)), some (.int (M77.fac i)), y, x10]) ⟨rfl, _, rfl⟩ ?_ ?_
      · rintro i x σ h' K hx ⟨rfl, y, rfl⟩ hK
        obtain ⟨hi, rfl⟩ := rng_item hx
        replace hi : i < A.length := hi
        refine ⟨trivial, ?_⟩
        walk_at "wp"
        have f0 := M77.fac_pos i
        have f1 := fac_le i (by omega)
        refine p_smul 22 22 (show (M77.fac i).natAbs < 2 ^ 22 by omega) (show (((i : Int) + 1)).natAbs < 2 ^ 22 by omega) (by omega) (by omega) (by omega) ?_
        exact hK _ _ ⟨rfl, _, rfl⟩
      · rintro σ g' ⟨rfl, y, rfl⟩
        refine ⟨trivial, ?_⟩
        rw [rngL_len]
        dsimp only
        walk_at "wp"
        rw [idx_at e1 (by omega)]
        refine ⟨_, rfl, ?_⟩
        rw [rd 4 4 e4 rfl (by omega)]
        refine ⟨_, rfl, ?_⟩
        walk_at "wp"
        have f0 := M77.fac_pos A.length
        have f1 := fac_le A.length (by omega)
        have s1 : Sm 22 (M77.fac A.length) := show (M77.fac A.length).natAbs < 2 ^ 22 by omega
        have s2 : Sm 22 (ds.getD 4 0 + 1) := show (ds.getD 4 0 + 1).natAbs < 2 ^ 22 by omega
        refine p_smul 22 22 s1 s2 (by omega) (by omega) (by omega) ?_
        walk_at "wp"
        have sv : Sm 300 (A'.getD t 0 + M77.fac A.length * (ds.getD 4 0 + 1)) := ((Sm.get e3 t).add ((s1.mul s2).mono (by omega))).mono (by omega)
        refine up kg e1 e2 (fun x hx => (e3 x hx).mono (by omega)) e4 e5 sv ?_
        intro g2 B k1 b1 b2 b3 b4 b5
        exact st10 k1 b1 b2 (fun x hx => (b3 x hx).mono (by omega)) b4 b5
    · rw [if_neg (by rw [decide_eq_true_eq]; exact z)]
      exact st10 kg e1 e2 (fun x hx => (e3 x hx).mono (by omega)) e4 e5
  rw [show d20 8 = _ :: d20 9 from rfl]
  walk_at "wp"
  rw [rd 2 2 es rfl (by omega)]
  refine ⟨_, rfl, ?_⟩
  walk_at "wp"
  by_cases z : ds.getD 2 0 = 1
  · rw [if_pos (by rw [decide_eq_true_eq]; exact z)]
    rw [idx_at ea (by omega)]
    refine ⟨_, rfl, ?_⟩
    walk_at "wp"
    rw [rd 4 4 es rfl (by omega)]
    refine ⟨_, rfl, ?_⟩
    walk_at "wp"
    refine setP_int ea htl ?_
    have sv : Sm 100 (A.getD t 0 + 1 + ds.getD 4 0) := by
      have s0 := (Sm.get As t).add (sm_rng (b := 90) (n := 1) (i := 1) (by omega) (by omega) (by decide))
      exact (s0.add (sm_rng (b := 91) (n := 6) (i := ds.getD 4 0) (by omega) (by omega) (by decide))).mono (by omega)
    refine st9 (kp8.put hal) (get_put ea) (by simp) ?_ ?_ ?_
    · intro x hx
      rcases mem_set' hx with rfl | hx
      · exact sv
      · exact (As x hx).mono (by omega)
    · rw [List.getElem?_set_ne (by omega)]; exact es
    · rw [List.getElem?_set_ne (by omega)]; exact er
  · rw [if_neg (by rw [decide_eq_true_eq]; exact z)]
    exact st9 kp8 ea rfl (fun x hx => (As x hx).mono (by omega)) es er
end K77
set_option Elab.async false
set_option linter.all false
set_option maxRecDepth 100000
set_option maxHeartbeats 4000000
namespace K77
open PySem PySem.Spec PyProof.Rows Fw L2
local macro_rules | `(tactic| walk_at "wp") => `(tactic| try simp only [wpSs, wpSt, wpE, wpEs, wpT, wpTs, wpG, wpI, wpO, List.getElem?_cons_zero, List.getElem?_cons_succ, Option.some.injEq, exists_eq_left', exists_eq_left, Nat.reduceAdd, List.set_cons_zero, List.set_cons_succ, setAll, wipeP, prmV, mtyP, partP, ite_true, ite_false, if_true, if_false, Bool.false_eq_true, true_and, exists_const, List.length_cons, List.length_nil, p_add, p_sub, p_and, q_add, q_sub, c_lt, c_le, c_gt, c_ge, c_eq, c_ne, c_eqs, c_nes, c_is, c_isnt, c_isb, c_isntb, t_bl, t_int, i_int, i_bl, m_two, m_three, m_four, m_min, Item.v, Item.h, PV.int.injEq, PV.bl.injEq, PV.str.injEq, PV.loc.injEq])
/-! two sums agree -/
theorem hev_sub {α : Type} (x : Int) (f g : α → Int) : ∀ l : List α, M77.hev (l.map fun i => f i - g i) x = M77.hev (l.map f) x - M77.hev (l.map g) x
  | [] => rfl
  | a :: r => by
    show f a - g a + x * M77.hev (r.map fun i => f i - g i) x = f a + x * M77.hev (r.map f) x - (g a + x * M77.hev (r.map g) x)
    rw [hev_sub x f g r, Int.mul_sub]; omega
theorem hev_pad (x : Int) : ∀ (n : Nat) (p : List Int), p.length ≤ n → M77.hev ((List.range n).map fun i => p.getD i 0) x = M77.hev p x
  | 0, p, h => by have : p = [] := List.eq_nil_of_length_eq_zero (by omega); subst this; rfl
  | n + 1, p, h => by
    rw [List.range_succ_eq_map, List.map_cons, List.map_map]
    show p.getD 0 0 + x * M77.hev ((List.range n).map ((fun i => p.getD i 0) ∘ Nat.succ)) x = _
    cases p with
    | nil =>
      have := hev_pad x n [] (Nat.zero_le _)
      show 0 + x * M77.hev ((List.range n).map fun i => ([] : List Int).getD i 0) x = 0
      rw [this]; show 0 + x * 0 = (0 : Int); omega
    | cons a r =>
      have := hev_pad x n r (by simpa using h)
      show a + x * M77.hev ((List.range n).map fun i => r.getD i 0) x = a + x * M77.hev r x
      rw [this]
theorem hev_coefs (x : Int) (p q : List Int) : M77.hev (coefs p q) x = M77.hev p x - M77.hev q x := by
  unfold coefs
  rw [hev_sub, hev_pad x _ p (by omega), hev_pad x _ q (by omega)]
theorem coefs_getD (p q : List Int) (i : Nat) : (coefs p q).getD i 0 = p.getD i 0 - q.getD i 0 := by
  by_cases h : i < max p.length q.length
  · refine getD_of ?_
    unfold coefs
    rw [List.getElem?_map, List.getElem?_range h]; rfl
  · have e : ∀ {l : List Int}, l.length ≤ i → l.getD i 0 = 0 := fun h => by rw [List.getD_eq_getElem?_getD, List.getElem?_eq_none h]; rfl
    rw [e (by rw [coefs_len]; omega), e (by omega), e (by omega)]; rfl
theorem hev_ext (x : Int) {u v : List Int} (h : ∀ i, u.getD i 0 = v.getD i 0) : M77.hev u x = M77.hev v x := by
  rw [← hev_pad x (max u.length v.length) u (by omega), ← hev_pad x (max u.length v.length) v (by omega)]
  congr 1
  exact List.map_congr_left fun i _ => h i
theorem cutN_end (u : List Int) : ∀ e, (∀ i, e ≤ i → u.getD i 0 = 0) → (∀ i, cutN u e ≤ i → u.getD i 0 = 0) ∧ (cutN u e = 0 ∨ u.getD (cutN u e - 1) 0 ≠ 0)
  | 0, h => ⟨h, .inl rfl⟩
  | e + 1, h => by
    unfold cutN
    by_cases z : u.getD e 0 = 0
    · rw [if_pos z]
      refine cutN_end u e fun i hi => ?_
      by_cases he : i = e
      · rw [he]; exact z
      · exact h i (by omega)
    · rw [if_neg z]
      exact ⟨h, .inr z⟩
def cut0 (u : List Int) : List Int := u.take (cutN u u.length)
theorem getD_big {l : List Int} {i : Nat} (h : l.length ≤ i) : l.getD i 0 = 0 := by rw [List.getD_eq_getElem?_getD, List.getElem?_eq_none h]; rfl
theorem cut0_len (u : List Int) : (cut0 u).length = cutN u u.length := by
  unfold cut0
  rw [List.length_take, Nat.min_eq_left (cutN_le u _)]
theorem cut0_getD (u : List Int) (i : Nat) : (cut0 u).getD i 0 = u.getD i 0 := by
  by_cases h : i < cutN u u.length
  · unfold cut0
    rw [List.getD_eq_getElem?_getD, List.getD_eq_getElem?_getD, List.getElem?_take_of_lt h]
  · rw [getD_big (by rw [cut0_len]; omega), (cutN_end u u.length fun i hi => getD_big hi).1 i (by omega)]
theorem cut0_eq {u v : List Int} : cut0 u = cut0 v ↔ ∀ i, u.getD i 0 = v.getD i 0 := by
  constructor
  · intro h i
    rw [← cut0_getD u, ← cut0_getD v, h]
  · intro h
    obtain ⟨a1, a2⟩ := cutN_end u u.length fun i hi => getD_big hi
    obtain ⟨b1, b2⟩ := cutN_end v v.length fun i hi => getD_big hi
    have hl : cutN u u.length = cutN v v.length := by
      rcases Nat.lt_trichotomy (cutN u u.length) (cutN v v.length) with z | z | z
      · exfalso
        rcases b2 with b2 | b2
        · omega
        · exact b2 (by rw [← h]; exact a1 _ (by omega))
      · exact z
      · exfalso
        rcases a2 with a2 | a2
        · omega
        · exact a2 (by rw [h]; exact b1 _ (by omega))
    refine List.ext_getElem? fun i => ?_
    by_cases hi : i < cutN u u.length
    · rw [get_getD (by rw [cut0_len]; exact hi), get_getD (by rw [cut0_len]; omega), cut0_getD, cut0_getD, h]
    · rw [List.getElem?_eq_none (by rw [cut0_len]; omega), List.getElem?_eq_none (by rw [cut0_len]; omega)]
theorem sh_eq (p q p' q' : List Int) : sh p q = sh p' q' ↔ ∀ i, (coefs p q).getD i 0 = (coefs p' q').getD i 0 := cut0_eq
theorem sh_places {p q p' q' : List Int} {L : Nat} (h1 : p.length ≤ L) (h2 : q.length ≤ L) (h3 : p'.length ≤ L) (h4 : q'.length ≤ L) : sh p q = sh p' q' ↔ ∀ x : Nat, x < L → M77.hev (coefs p q) (x : Int) = M77.hev (coefs p' q') (x : Int) := by
  rw [sh_eq]
  constructor
  · intro h x _
    exact hev_ext _ h
  · intro h
    have z := M77.zero_of_places (coefs (coefs p q) (coefs p' q')) L (by rw [coefs_len, coefs_len, coefs_len]; omega) (fun x hx => by rw [hev_coefs, h x hx]; omega)
    intro i
    have e := coefs_getD (coefs p q) (coefs p' q') i
    have : (coefs (coefs p q) (coefs p' q')).getD i 0 = 0 := by
      by_cases hi : i < (coefs (coefs p q) (coefs p' q')).length
      · exact z _ (List.mem_of_getElem? (get_getD hi))
      · exact getD_big (by omega)
    rw [this] at e
    omega
theorem pos_neg (x : Int) : ∀ T : List Int, M77.hev (pos T) x - M77.hev (neg T) x = M77.hev T x
  | [] => rfl
  | a :: r => by
    have h := pos_neg x r
    show (max 0 a + x * M77.hev (pos r) x) - (max 0 (-a) + x * M77.hev (neg r) x) = a + x * M77.hev r x
    rw [← h, Int.mul_sub]; omega
theorem fool_last : ∀ n, (foolR n).getD n 0 = 1
  | 0 => rfl
  | n + 1 => by
    rw [foolR_succ]
    have h1 : (0 :: foolR n)[n + 1]? = some 1 := by
      rw [List.getElem?_cons_succ, get_getD (by rw [foolR_len]; omega), fool_last n]
    have h2 : ((foolR n).map (fun i => (n : Int) * i) ++ [0])[n + 1]? = some 0 := by
      rw [List.getElem?_append_right (by rw [List.length_map, foolR_len]; omega), List.length_map, foolR_len]; simp
    exact getD_of (tl_at h1 h2)
theorem fall_sm {x : Int} {n : Nat} (h0 : 0 ≤ x) (h1 : x ≤ 20) (hn : n ≤ 20) : ∀ i, i ≤ n → Sm (8 * i + 1) (M77.fall i x)
  | 0, _ => (show (1 : Int).natAbs < 2 ^ (8 * 0 + 1) by decide)
  | i + 1, h => by
    have := fall_sm h0 h1 hn i (by omega)
    exact (this.mul (sm_rng (b := 8) (n := 20) (i := x - i) (by omega) (by omega) (by decide))).mono (by omega)
end K77
set_option Elab.async false
set_option linter.all false
set_option maxRecDepth 100000
set_option maxHeartbeats 4000000
namespace K77
open PySem PySem.Spec PyProof.Rows Fw L2
local macro_rules | `(tactic| walk_at "wp") => `(tactic| try simp only [wpSs, wpSt, wpE, wpEs, wpT, wpTs, wpG, wpI, wpO, List.getElem?_cons_zero, List.getElem?_cons_succ, Option.some.injEq, exists_eq_left', exists_eq_left, Nat.reduceAdd, List.set_cons_zero, List.set_cons_succ, setAll, wipeP, prmV, mtyP, partP, ite_true, ite_false, if_true, if_false, Bool.false_eq_true, true_and, exists_const, List.length_cons, List.length_nil, p_add, p_sub, p_and, q_add, q_sub, c_lt, c_le, c_gt, c_ge, c_eq, c_ne, c_eqs, c_nes, c_is, c_isnt, c_isb, c_isntb, t_bl, t_int, i_int, i_bl, m_two, m_three, m_four, m_min, Item.v, Item.h, PV.int.injEq, PV.bl.injEq, PV.str.injEq, PV.loc.injEq])
/-! the law -/
def d21 (n : Nat) : List IS := b_law.drop n
theorem row5 {ps : List Int} {M : Int} (h : Dig ps (List.replicate 5 [M]).flatten) : ps.length = 5 ∧ ∀ x ∈ ps, 0 ≤ x ∧ x < M := by
  have l : ps.length = 5 := h.1.trans (by simp)
  refine ⟨l, fun x hx => ?_⟩
  obtain ⟨i, hi⟩ := List.mem_iff_getElem?.mp hx
  have hl := get_len hi
  have := h.2 i (by simp; omega)
  rw [rep_at (by omega), getD_of hi] at this
  exact this
theorem tuple_ints {h : PH} {n : Nat} {ns : List Int} {P : PV × PH → Prop} (e : h[n]? = some (.lst (IL ns))) (hP : P (.loc h.length, h ++ [.tup (IL ns)])) : ∃ r, tupleV G0 [.loc n] h = some r ∧ P r := ⟨_, tuple_lst (lstOf_lst e), hP⟩
theorem list_ints {h : PH} {n : Nat} {ns : List Int} {P : PV × PH → Prop} (e : h[n]? = some (.lst (IL ns))) (hP : P (.loc h.length, h ++ [.lst (IL ns)])) : ∃ r, listV G0 [.loc n] h = some r ∧ P r := ⟨_, list_seq (seqOf_lst e), hP⟩
theorem law_ok {k : Nat} {h : PH} {ns : List Int} {Q : PV → PH → Prop} {E : PX → PH → Prop} (hs : Scr h ns) (hq : ∀ h', Kp0 h h' → Q (.bl true) h') : S (k + 5) 21 [.loc 0] h Q E := by
  refine e_law ?_
  show wpSs G0 (S (k + 4)) (Sp (k + 4)) (fun x _ => E x) (d21 0) _ _ _
  rw [show d21 0 = _ :: d21 1 from rfl]
  walk_at "wp"
  refine cell_ok (c := 0) hs (by omega) ?_
  intro c0
  walk_at "wp"
  refine ⟨by rw [line_eq]; decide, ?_⟩
  refine digits_ok (ss := [6, 6, 11, 4]) get_new ⟨by decide, by simp [Sm]⟩ ?_
  intro h1 sz ds kp1 _ hd es
  replace kp1 := (Kp.snoc (S := [])).trans kp1
  have dl : ds.length = 4 := hd.1
  have d0 : 0 ≤ ds.getD 0 0 ∧ ds.getD 0 0 < 6 := hd.2 0 (by decide)
  have d1 : 0 ≤ ds.getD 1 0 ∧ ds.getD 1 0 < 6 := hd.2 1 (by decide)
  have d2 : 0 ≤ ds.getD 2 0 ∧ ds.getD 2 0 < 11 := hd.2 2 (by decide)
  have d3 : 0 ≤ ds.getD 3 0 ∧ ds.getD 3 0 < 4 := hd.2 3 (by decide)
  have rd : ∀ {g : PH} (i : Nat) (j : Int), g[sz]? = some (.lst (IL ds)) → j = (i : Int) → i < 4 → idxP G0 g (.loc sz) (.int j) = some (.int (ds.getD i 0)) := fun i j es e hi => by
    rw [e]; exact idx_at es (by omega)
  walk_at "wp"
  rw [show d21 1 = _ :: d21 2 from rfl]
  walk_at "wp"
  refine ⟨_, by rw [p_pow, if_pos (by decide)], ?_⟩
  walk_at "wp"
  refine ⟨by rw [line_eq]; decide, ?_⟩
  rw [rd 3 3 (Kp.snoc.get0 es) rfl (by omega)]
  refine ⟨_, rfl, ?_⟩
  obtain ⟨j, hj⟩ : ∃ j : Nat, ds.getD 3 0 = (j : Int) := ⟨(ds.getD 3 0).toNat, by omega⟩
  rw [hj]
  obtain ⟨M, hM0, hM1, hM⟩ : ∃ M : Int, 0 < M ∧ M ≤ 1000000001 ∧ idxP G0 (h1 ++ [PO.lst [.int 7, .int 3, .int ((10 : Int) ^ Int.toNat 9 + 1), .int 40]]) (.loc h1.length) (.int (j : Int)) = some (.int M) := by
    have e : idxP G0 (h1 ++ [PO.lst (IL [7, 3, 1000000001, 40])]) (.loc h1.length) (.int (j : Int)) = some (.int ([7, 3, 1000000001, 40].getD j 0)) := idx_at get_new (by show j < 4; omega)
    refine ⟨_, ?_, ?_, e⟩
    · rcases j with _ | _ | _ | _ | j
      · decide
      · decide
      · decide
      · decide
      · omega
    · rcases j with _ | _ | _ | _ | j
      · decide
      · decide
      · decide
      · decide
      · omega
  refine ⟨_, hM, ?_⟩
  have kp2 := kp1.trans (Kp.snoc (S := []) (o := PO.lst [.int 7, .int 3, .int ((10 : Int) ^ Int.toNat 9 + 1), .int 40]))
  replace es := (Kp.snoc (S := []) (o := PO.lst [.int 7, .int 3, .int ((10 : Int) ^ Int.toNat 9 + 1), .int 40])).get0 es
  clear hM kp1
  generalize h1 ++ [PO.lst [.int 7, .int 3, .int ((10 : Int) ^ Int.toNat 9 + 1), .int 40]] = h2 at kp2 es
  -- plus
  rw [show d21 2 = _ :: d21 3 from rfl]
  walk_at "wp"
  refine cell_ok (c := 1) (hs.kp kp2) (by omega) ?_
  intro c1
  walk_at "wp"
  refine ⟨by rw [line_eq]; decide, ?_⟩
  refine rep_lst (ns := [M]) get_new (by decide) (by decide) (Nat.le_of_ble_eq_true rfl) ?_
  refine digits_ok (ss := (List.replicate 5 [M]).flatten) get_new (siz_rep (by omega) (by omega) (by omega)) ?_
  intro h3 n3 p3 kp3 _ hp3 e3
  replace kp3 := (Kp.snoc (S := [])).trans ((Kp.snoc (S := [])).trans kp3)
  obtain ⟨l3, b3⟩ := row5 hp3
  replace es := kp3.get0 es
  have kp4 := kp2.trans kp3
  clear kp2 kp3 hp3
  walk_at "wp"
  rw [rd 0 0 es rfl (by omega)]
  refine ⟨_, rfl, ?_⟩
  walk_at "wp"
  rw [slc_lst (lstOf_lst e3), cut_IL]
  walk_at "wp"
  obtain ⟨u3, hu3⟩ : ∃ u, u = cutP p3 none (some (ds.getD 0 0)) := ⟨_, rfl⟩
  rw [← hu3]
  have ul3 : u3.length ≤ 5 := by rw [hu3, ← l3]; exact cut_len
  clear hu3 b3 l3 e3
  have eu : (h3 ++ [PO.lst (IL u3)])[h3.length]? = some (.lst (IL u3)) := get_new
  replace es := (Kp.snoc (S := []) (o := PO.lst (IL u3))).get0 es
  have kp5 := kp4.trans (Kp.snoc (S := []) (o := PO.lst (IL u3)))
  clear kp4
  generalize h3.length = nu at eu
  generalize h3 ++ [PO.lst (IL u3)] = h4 at eu es kp5
  -- minus
  rw [show d21 3 = _ :: d21 4 from rfl]
  walk_at "wp"
  refine cell_ok (c := 2) (hs.kp kp5) (by omega) ?_
  intro c2
  walk_at "wp"
  refine ⟨by rw [line_eq]; decide, ?_⟩
  refine rep_lst (ns := [M]) get_new (by decide) (by decide) (Nat.le_of_ble_eq_true rfl) ?_
  refine digits_ok (ss := (List.replicate 5 [M]).flatten) get_new (siz_rep (by omega) (by omega) (by omega)) ?_
  intro h5 n5 p5 kp6 _ hp5 e5
  replace kp6 := (Kp.snoc (S := [])).trans ((Kp.snoc (S := [])).trans kp6)
  obtain ⟨l5, b5⟩ := row5 hp5
  replace es := kp6.get0 es
  replace eu := kp6.get0 eu
  have kp7 := kp5.trans kp6
  clear kp5 kp6 hp5
  walk_at "wp"
  rw [rd 1 1 es rfl (by omega)]
  refine ⟨_, rfl, ?_⟩
  walk_at "wp"
  rw [slc_lst (lstOf_lst e5), cut_IL]
  walk_at "wp"
  obtain ⟨q, hq5⟩ : ∃ u, u = cutP p5 none (some (ds.getD 1 0)) := ⟨_, rfl⟩
  rw [← hq5]
  have ql : q.length ≤ 5 := by rw [hq5, ← l5]; exact cut_len
  have qs : ∀ x ∈ q, Sm 32 x := fun x hx => by
    rw [hq5] at hx
    have := b5 x (cut_mem hx)
    exact sm_rng (n := 1000000001) (by omega) (by omega) (by decide)
  clear hq5 b5 l5 e5
  have em : (h5 ++ [PO.lst (IL q)])[h5.length]? = some (.lst (IL q)) := get_new
  replace es := (Kp.snoc (S := []) (o := PO.lst (IL q))).get0 es
  replace eu := (Kp.snoc (S := []) (o := PO.lst (IL q))).get0 eu
  have kp8 := kp7.trans (Kp.snoc (S := []) (o := PO.lst (IL q)))
  clear kp7
  generalize h5.length = nm at em
  generalize h5 ++ [PO.lst (IL q)] = h6 at em eu es kp8
  -- plus, once more
  rw [show d21 4 = _ :: d21 5 from rfl]
  walk_at "wp"
  refine ⟨_, _, deref_loc eu, rfl, ?_⟩
  obtain ⟨p, hp⟩ : ∃ p : List Int, p = u3.map fun i => i.fmod M := ⟨_, rfl⟩
  have pl : p.length ≤ 5 := by rw [hp, List.length_map]; exact ul3
  have ps : ∀ x ∈ p, Sm 32 x := fun x hx => by
    rw [hp] at hx
    obtain ⟨i, _, rfl⟩ := List.mem_map.mp hx
    have := fmod_rng (a := i) hM0
    exact sm_rng (n := 1000000001) (by omega) (by omega) (by decide)
  refine lc_map (IL p) rfl (by rw [List.length_map, List.length_map, List.length_map, hp, List.length_map]) (by rw [List.length_map, List.length_map, line_eq]; omega) (fun xs => deref_loc (Kp.snoc.get0 eu)) vals_val ?_ ?_
  · intro i v y h' K kp hx hy hK
    obtain ⟨w, hw, e⟩ := val_item hx
    cases e
    rw [IL_get] at hw
    obtain ⟨c, hc, rfl⟩ := Option.map_eq_some_iff.mp hw
    walk_at "wp"
    refine p_smod (by omega) ?_
    rw [IL_get, hp, List.getElem?_map, hc] at hy
    cases hy
    exact hK
  have ep : (h6 ++ [PO.lst (IL p)])[h6.length]? = some (.lst (IL p)) := get_new
  replace es := (Kp.snoc (S := []) (o := PO.lst (IL p))).get0 es
  replace em := (Kp.snoc (S := []) (o := PO.lst (IL p))).get0 em
  have kp9 := kp8.trans (Kp.snoc (S := []) (o := PO.lst (IL p)))
  clear kp8 eu hp
  generalize h6.length = np at ep
  generalize h6 ++ [PO.lst (IL p)] = h7 at em ep es kp9
  -- the twin
  rw [show d21 5 = _ :: d21 6 from rfl]
  walk_at "wp"
  refine cell_ok (c := 3) (hs.kp kp9) (by omega) ?_
  intro c3
  walk_at "wp"
  refine ⟨by rw [line_eq]; decide, by rw [line_eq]; decide, ?_⟩
  refine rep_lst (ns := [6]) get_new (by decide) (by decide) (Nat.le_of_ble_eq_true rfl) ?_
  refine cat_ints (ns := [5]) (Kp.snoc.get0 (Kp.snoc.get0 get_new)) get_new (Nat.le_of_ble_eq_true rfl) ?_
  refine digits_ok (ss := [5, 6, 6, 6, 6, 6]) get_new ⟨by decide, by simp [Sm]⟩ ?_
  intro h8 n8 tw kp10 _ htw e8
  replace kp10 := (Kp.snoc (S := [])).trans ((Kp.snoc (S := [])).trans ((Kp.snoc (S := [])).trans ((Kp.snoc (S := [])).trans kp10)))
  replace es := kp10.get0 es
  replace em := kp10.get0 em
  replace ep := kp10.get0 ep
  have kp11 := kp9.trans kp10
  clear kp9 kp10
  refine twin_ok e8 ep em htw pl ql ps qs ?_
  intro h9 tn p' q' kp12 _ tw9 pl' ql' ps' qs'
  replace es := kp12.get0 es
  replace em := kp12.get0 em
  replace ep := kp12.get0 ep
  have kp := kp11.trans kp12
  clear kp11 kp12 htw e8
  walk_at "wp"
  -- the length
  rw [show d21 6 = _ :: d21 7 from rfl]
  walk_at "wp"
  rw [len_seq (seqOf_lst ep)]
  walk_at "wp"
  rw [len_seq (seqOf_lst em)]
  walk_at "wp"
  obtain ⟨ta, tb, t1, t2, t3⟩ := id tw9
  have j0 : ∀ {g : PH}, Kp0 h9 g → idxP G0 g (.loc tn) (.int 0) = some (.loc ta) := fun kg => by rw [idx_seq (seqOf_lst (kg.get0 t1))]; rfl
  have j1 : ∀ {g : PH}, Kp0 h9 g → idxP G0 g (.loc tn) (.int 1) = some (.loc tb) := fun kg => by rw [idx_seq (seqOf_lst (kg.get0 t1))]; rfl
  rw [j0 Kp.refl]
  walk_at "wp"
  rw [len_seq (seqOf_lst t2)]
  walk_at "wp"
  rw [j1 Kp.refl]
  walk_at "wp"
  rw [len_seq (seqOf_lst t3)]
  walk_at "wp"
  rw [List.length_map, List.length_map, List.length_map, List.length_map]
  obtain ⟨L, hL⟩ : ∃ L : Nat, max (max (max (p.length : Int) q.length) p'.length) q'.length = (L : Int) := ⟨max (max (max p.length q.length) p'.length) q'.length, by omega⟩
  rw [hL]
  have hL' : p.length ≤ L ∧ q.length ≤ L ∧ p'.length ≤ L ∧ q'.length ≤ L ∧ L ≤ 11 := by omega
  rw [show d21 7 = _ :: d21 8 from rfl]
  walk_at "wp"
  -- the places
  rw [show d21 8 = _ :: d21 9 from rfl]
  walk_at "wp"
  refine ⟨_, rng_1' (n := L + 3) (by omega) (by omega), ?_⟩
  dsimp only
  refine for_inv (fun i σ g => Kp0 h9 g ∧ ∃ b y8 y12 y13, σ = [some (.loc 0), some (.loc sz), some (.int M), some (.loc np), some (.loc nm), some (.loc tn), some (.int (L : Int)), some (.bl b), y8, none, none, none, y12, y13, none, none, none] ∧ (b = true ↔ ∀ x : Nat, x < i → x < L → M77.hev (coefs p q) (x : Int) = M77.hev (coefs p' q') (x : Int))) ⟨Kp.refl, true, none, none, none, rfl, ⟨fun _ x hx => absurd hx (Nat.not_lt_zero _), fun _ => rfl⟩⟩ ?_ ?_
  · rintro i x σ g K hx ⟨kg, b, y8, y12, y13, rfl, hb⟩ hK
    obtain ⟨hi, rfl⟩ := rng_item hx
    replace hi : i < L + 3 := hi
    have xi : Sm 100 (i : Int) := sm_rng (n := 20) (by omega) (by omega) (by decide)
    have p1 : ∀ c ∈ p, Sm 100 c := fun c hc => (ps c hc).mono (by omega)
    have q1 : ∀ c ∈ q, Sm 100 c := fun c hc => (qs c hc).mono (by omega)
    have p2 : ∀ c ∈ p', Sm 100 c := fun c hc => (ps' c hc).mono (by omega)
    have q2 : ∀ c ∈ q', Sm 100 c := fun c hc => (qs' c hc).mono (by omega)
    refine ⟨trivial, ?_⟩
    walk_at "wp"
    refine list_ints (kg.get0 ep) ?_
    refine tuple_ints (Kp.snoc.get0 (kg.get0 em)) ?_
    refine ⟨by rw [line_eq]; decide, ?_⟩
    dsimp only
    refine sum_at_ok (p := p) (q := q) ⟨_, _, seqOf_tup get_new, seqOf_lst (Kp.snoc.get0 (Kp.snoc.get0 get_new)), seqOf_tup (Kp.snoc.get0 get_new)⟩ (by omega) p1 q1 xi ?_
    intro g1 kg1
    replace kg1 := kg.trans ((Kp.snoc (S := [])).trans ((Kp.snoc (S := [])).trans ((Kp.snoc (S := [])).trans kg1)))
    clear kg
    walk_at "wp"
    refine sum_at_ok ((tw9.kp kg1).sum) (by omega) p2 q2 xi ?_
    intro g2 kg2
    replace kg2 := kg1.trans kg2
    clear kg1
    walk_at "wp"
    refine sign_ok ?_
    walk_at "wp"
    refine sign_ok ?_
    walk_at "wp"
    refine ⟨by rw [line_eq]; decide, ?_⟩
    refine lsum_ok (p := p) (q := q) ⟨_, _, seqOf_lst get_new, seqOf_lst (Kp.snoc.get0 (kg2.get0 ep)), seqOf_lst (Kp.snoc.get0 (kg2.get0 em))⟩ (by omega) p1 q1 xi ?_
    walk_at "wp"
    rw [if_neg (by rw [decide_eq_true (hev_coefs _ p q)]; decide)]
    refine lsum_ok ((tw9.kp (kg2.trans Kp.snoc)).sum) (by omega) p2 q2 xi ?_
    walk_at "wp"
    rw [if_neg (by rw [decide_eq_true (hev_coefs _ p' q')]; decide)]
    replace kg2 := kg2.trans (Kp.snoc (S := []) (o := PO.lst [.loc np, .loc nm]))
    by_cases z : i < L
    · rw [if_pos (by rw [decide_eq_true_eq]; omega)]
      by_cases z2 : M77.hev (coefs p q) (i : Int) = M77.hev (coefs p' q') (i : Int)
      · rw [if_neg (by rw [decide_eq_true z2]; decide)]
        refine hK _ _ ⟨kg2, b, _, _, _, rfl, hb.trans ⟨fun h x h1 h2 => ?_, fun h x h1 h2 => h x (by omega) h2⟩⟩
        by_cases e : x = i
        · rw [e]; exact z2
        · exact h x (by omega) h2
      · rw [if_pos (by rw [decide_eq_false z2]; rfl)]
        exact hK _ _ ⟨kg2, false, _, _, _, rfl, ⟨fun h => absurd h (by decide), fun h => absurd (h i (by omega) z) z2⟩⟩
    · rw [if_neg (by rw [decide_eq_true_eq]; omega)]
      exact hK _ _ ⟨kg2, b, _, _, _, rfl, hb.trans ⟨fun h x h1 h2 => h x (by omega) h2, fun h x h1 h2 => h x (by omega) h2⟩⟩
  rintro σ g ⟨kg, b, y8, y12, y13, rfl, hb⟩
  refine ⟨trivial, ?_⟩
  rw [rngL_len] at hb
  replace hb : b = true ↔ ∀ x : Nat, x < L + 3 → x < L → M77.hev (coefs p q) (x : Int) = M77.hev (coefs p' q') (x : Int) := hb
  have hb2 : decide (sh p q = sh p' q') = b := by
    have e := sh_places (p := p) (q := q) (p' := p') (q' := q') hL'.1 hL'.2.1 hL'.2.2.1 hL'.2.2.2.1
    by_cases z : sh p q = sh p' q'
    · rw [decide_eq_true z]
      exact (hb.mpr fun x _ h => e.mp z x h).symm
    · rw [decide_eq_false z]
      cases b with
      | false => rfl
      | true => exact absurd (e.mpr fun x h => hb.mp rfl x (by omega) h) z
  -- whether they are the same
  rw [show d21 9 = _ :: d21 10 from rfl]
  walk_at "wp"
  refine ⟨by rw [line_eq]; decide, ?_⟩
  rw [j0 (kg.trans Kp.snoc)]
  walk_at "wp"
  refine tuple_ints (Kp.snoc.get0 (kg.get0 t2)) ?_
  rw [j1 (kg.trans (Kp.snoc.trans Kp.snoc))]
  walk_at "wp"
  refine tuple_ints (Kp.snoc.get0 (Kp.snoc.get0 (kg.get0 t3))) ?_
  refine ⟨by rw [line_eq]; decide, ?_⟩
  dsimp only
  refine sum_same_ok (p := p) (q := q) (p' := p') (q' := q') ⟨_, _, seqOf_tup (Kp.snoc.get0 (Kp.snoc.get0 (Kp.snoc.get0 get_new))), seqOf_lst (Kp.snoc.get0 (Kp.snoc.get0 (Kp.snoc.get0 (Kp.snoc.get0 (kg.get0 ep))))), seqOf_lst (Kp.snoc.get0 (Kp.snoc.get0 (Kp.snoc.get0 (Kp.snoc.get0 (kg.get0 em)))))⟩ ⟨_, _, seqOf_tup get_new, seqOf_tup (Kp.snoc.get0 (Kp.snoc.get0 get_new)), seqOf_tup (Kp.snoc.get0 get_new)⟩ (by omega) (by omega) ?_
  intro g1 kg1
  replace kg1 := kg.trans ((Kp.snoc (S := [])).trans ((Kp.snoc (S := [])).trans ((Kp.snoc (S := [])).trans ((Kp.snoc (S := [])).trans kg1))))
  rw [hb2]
  refine lawis_ok ?_
  intro g2 kg2
  walk_at "wp"
  rw [if_neg (by simp)]
  replace kp := kp.trans (kg1.trans kg2)
  replace es := (kg1.trans kg2).get0 es
  clear kg1 kg2 hb hb2 kg j0 j1 t1 t2 t3 tw9 ep em
  -- the fooling sum
  rw [show d21 10 = _ :: d21 11 from rfl]
  walk_at "wp"
  rw [rd 2 2 es rfl (by omega)]
  refine ⟨_, rfl, ?_⟩
  obtain ⟨c, hc⟩ : ∃ c : Nat, ds.getD 2 0 = (c : Int) := ⟨(ds.getD 2 0).toNat, by omega⟩
  rw [hc]
  have hc10 : c ≤ 10 := by omega
  rw [show d21 11 = _ :: d21 12 from rfl]
  walk_at "wp"
  refine fooling_ok (by omega) ?_
  intro f0 fn kf _ pf
  walk_at "wp"
  replace kp := kp.trans kf
  obtain ⟨fa, fb, f1, f2, f3⟩ := pf.ex
  have Tl := foolR_len c
  have Ts := foolR_sm c (by omega)
  have Te := fun x => hev_fool x c
  have Tn := fool_last c
  clear es kf
  have i0 : ∀ {g : PH}, Kp0 f0 g → idxP G0 g (.loc fn) (.int 0) = some (.loc fa) := fun kg => by rw [idx_seq (seqOf_tup (kg.get0 f1))]; rfl
  have i1 : ∀ {g : PH}, Kp0 f0 g → idxP G0 g (.loc fn) (.int 1) = some (.loc fb) := fun kg => by rw [idx_seq (seqOf_tup (kg.get0 f1))]; rfl
  have pol : (pos (foolR c)).length = c + 1 := by simp [pos, Tl]
  have nel : (neg (foolR c)).length = c + 1 := by simp [neg, Tl]
  have ju : ∀ {g : PH} {i : Nat}, Kp0 f0 g → i < c + 1 → idxP G0 g (.loc fa) (.int (i : Int)) = some (.int (max 0 ((foolR c).getD i 0))) := fun kg hi => by
    rw [seq_at (seqOf_tup (kg.get0 f2)) (by omega), pos_get]
  have jw : ∀ {g : PH} {i : Nat}, Kp0 f0 g → i < c + 1 → idxP G0 g (.loc fb) (.int (i : Int)) = some (.int (max 0 (-((foolR c).getD i 0)))) := fun kg hi => by
    rw [seq_at (seqOf_tup (kg.get0 f3)) (by omega), neg_get]
  have pos_sm : ∀ x ∈ pos (foolR c), Sm 100 x := fun x hx => by
    obtain ⟨i, hi, rfl⟩ := List.mem_map.mp hx
    have := Ts i hi
    have h1 : i.natAbs < 2 ^ (9 * c + 1) := this
    have h2 : 2 ^ (9 * c + 1) ≤ 2 ^ 100 := Nat.pow_le_pow_right (by decide) (by omega)
    show (max 0 i).natAbs < 2 ^ 100
    omega
  have neg_sm : ∀ x ∈ neg (foolR c), Sm 100 x := fun x hx => by
    obtain ⟨i, hi, rfl⟩ := List.mem_map.mp hx
    have := Ts i hi
    have h1 : i.natAbs < 2 ^ (9 * c + 1) := this
    have h2 : 2 ^ (9 * c + 1) ≤ 2 ^ 100 := Nat.pow_le_pow_right (by decide) (by omega)
    show (max 0 (-i)).natAbs < 2 ^ 100
    omega
  rw [show d21 12 = _ :: d21 13 from rfl]
  walk_at "wp"
  rw [is_tup' f1]
  walk_at "wp"
  rw [if_neg (by decide)]
  rw [len_seq (seqOf_tup f1)]
  walk_at "wp"
  rw [if_neg (by decide)]
  rw [i0 Kp.refl]
  walk_at "wp"
  rw [len_seq (seqOf_tup f2)]
  walk_at "wp"
  rw [if_neg (by rw [decide_eq_true (by rw [List.length_map, pol]; omega)]; decide)]
  rw [i1 Kp.refl]
  walk_at "wp"
  rw [len_seq (seqOf_tup f3)]
  walk_at "wp"
  rw [if_neg (by rw [decide_eq_true (by rw [List.length_map, nel]; omega)]; decide)]
  rw [show d21 13 = _ :: d21 14 from rfl]
  walk_at "wp"
  refine ⟨_, rng_1' (n := c + 1) (by omega) (by omega), ?_⟩
  dsimp only
  obtain ⟨σ0, hσ0⟩ : ∃ σ0 : Option PV → Option PV → Option PV → Option PV → PSt, σ0 = fun z8 z11 z14 z15 => [some (.loc 0), some (.loc sz), some (.int M), some (.loc np), some (.loc nm), some (.loc tn), some (.int (L : Int)), some (.bl b), z8, some (.int (c : Int)), some (.loc fn), z11, y12, y13, z14, z15, none] := ⟨_, rfl⟩
  refine for_inv (fun i σ g => g = f0 ∧ ∃ y, σ = σ0 y8 y none none) ⟨rfl, none, by rw [hσ0]⟩ ?_ ?_
  · rintro i x σ h' K hx ⟨rfl, y, rfl⟩ hK
    rw [hσ0] at hK ⊢
    obtain ⟨hi, rfl⟩ := rng_item hx
    replace hi : i < c + 1 := hi
    refine ⟨trivial, ?_⟩
    walk_at "wp"
    rw [i0 Kp.refl]
    walk_at "wp"
    rw [ju Kp.refl hi]
    refine ⟨_, rfl, ?_⟩
    refine whole_ok ?_
    walk_at "wp"
    rw [if_neg (by rw [decide_eq_true (by omega)]; decide)]
    rw [i1 Kp.refl]
    walk_at "wp"
    rw [jw Kp.refl hi]
    refine ⟨_, rfl, ?_⟩
    refine whole_ok ?_
    walk_at "wp"
    rw [if_neg (by rw [decide_eq_true (by omega)]; decide)]
    rw [i0 Kp.refl]
    walk_at "wp"
    rw [ju Kp.refl hi]
    refine ⟨_, rfl, ?_⟩
    rw [i1 Kp.refl]
    walk_at "wp"
    rw [jw Kp.refl hi]
    refine ⟨_, rfl, ?_⟩
    walk_at "wp"
    rw [if_neg (by rw [decide_eq_true (by omega)]; decide)]
    exact hK _ _ ⟨rfl, some (.int (i : Int)), rfl⟩
  rintro σ h' ⟨rfl, y11, rfl⟩
  refine ⟨trivial, ?_⟩
  rw [show d21 14 = _ :: d21 15 from rfl]
  rw [hσ0]
  walk_at "wp"
  refine ⟨_, rng_1' (n := c + 3) (by omega) (by omega), ?_⟩
  dsimp only
  refine for_inv (fun i σ g => Kp0 h' g ∧ ∃ z8 z14 z15, σ = σ0 z8 y11 z14 z15) ⟨Kp.refl, y8, none, none, by rw [hσ0]⟩ ?_ ?_
  · rintro i x σ g K hx ⟨kg, z8, z14, z15, rfl⟩ hK
    rw [hσ0] at hK ⊢
    obtain ⟨hi, rfl⟩ := rng_item hx
    replace hi : i < c + 3 := hi
    have xi : Sm 100 (i : Int) := sm_rng (n := 20) (by omega) (by omega) (by decide)
    refine ⟨trivial, ?_⟩
    walk_at "wp"
    refine ⟨_, rng_1' (n := c) rfl (by omega), ?_⟩
    dsimp only
    refine for_inv (fun j σ g' => g' = g ∧ ∃ z15, σ = σ0 (some (.int (i : Int))) y11 (some (.int (M77.fall j (i : Int)))) z15) ⟨rfl, z15, by rw [hσ0]; rfl⟩ ?_ ?_
    · rintro j x σ g' K hx ⟨rfl, z15, rfl⟩ hK
      rw [hσ0] at hK ⊢
      obtain ⟨hj, rfl⟩ := rng_item hx
      replace hj : j < c := hj
      refine ⟨trivial, ?_⟩
      walk_at "wp"
      refine p_smul 200 10 ((fall_sm (n := c) (by omega) (by omega) (by omega) j (by omega)).mono (by omega)) (sm_rng (n := 20) (by omega) (by omega) (by decide)) (by omega) (by omega) (by omega) ?_
      exact hK _ _ ⟨rfl, some (.int (j : Int)), rfl⟩
    · rintro σ g' ⟨rfl, z15, rfl⟩
      rw [hσ0]
      refine ⟨trivial, ?_⟩
      rw [rngL_len]
      dsimp only
      walk_at "wp"
      refine lsum_ok ((pf.kp kg).sum) (by omega) pos_sm neg_sm xi ?_
      walk_at "wp"
      rw [if_neg (by rw [decide_eq_true (by rw [pos_neg, Te])]; decide)]
      refine sum_at_ok ((pf.kp kg).sum) (by omega) pos_sm neg_sm xi ?_
      intro g2 kg2
      walk_at "wp"
      rw [if_neg (by rw [decide_eq_true (by rw [hev_coefs, pos_neg, Te])]; decide)]
      exact hK _ _ ⟨kg.trans kg2, some (.int (i : Int)), _, _, rfl⟩
  rintro σ g ⟨kg, z8, z14, z15, rfl⟩
  rw [hσ0]
  refine ⟨trivial, ?_⟩
  rw [show d21 15 = _ :: d21 16 from rfl]
  walk_at "wp"
  refine ⟨by rw [line_eq]; decide, by rw [line_eq]; decide, by rw [line_eq]; decide, ?_⟩
  refine sum_same_ok (p' := []) (q' := []) ((pf.kp (kg.trans (Kp.snoc.trans (Kp.snoc.trans Kp.snoc)))).sum) ⟨_, _, seqOf_tup get_new, seqOf_tup (Kp.snoc.get0 (Kp.snoc.get0 get_new)), seqOf_tup (Kp.snoc.get0 get_new)⟩ (by omega) (by decide) ?_
  intro g1 kg1
  replace kg1 := kg.trans ((Kp.snoc (S := [])).trans ((Kp.snoc (S := [])).trans ((Kp.snoc (S := [])).trans kg1)))
  walk_at "wp"
  have ne : ¬ sh (pos (foolR c)) (neg (foolR c)) = sh [] [] := by
    intro z
    have := (sh_eq _ _ _ _).mp z c
    rw [coefs_getD, coefs_getD, pos_get, neg_get, Tn, getD_big (l := []) (Nat.zero_le _)] at this
    exact absurd this (by decide)
  rw [decide_eq_false ne, if_neg (by decide)]
  refine fooling_ok (by omega) ?_
  intro g2 fn2 kg2 _ pf2
  walk_at "wp"
  refine sum_same_ok ((pf.kp (kg1.trans kg2)).sum) pf2.sum (by omega) (by omega) ?_
  intro g3 kg3
  walk_at "wp"
  rw [if_neg (by simp)]
  rw [show d21 16 = [_] from rfl]
  walk_at "wp"
  have kz := kp.trans (kg1.trans (kg2.trans kg3))
  refine lengths_ok (hs.kp kz) ?_
  intro g4 kg4
  exact hq _ (kz.trans kg4)
theorem law_math (ns : List Int) (hl : ns.length ≤ 63) : semF G0 (prgOf recs bodies) 40 21 [.loc 0] [.rol (ns.map .int)] (fun v _ => v = .bl true) (fun _ _ => False) :=
  law_ok (k := 35) (ns := ns) ⟨rfl, hl⟩ fun _ _ => rfl
end K77
set_option Elab.async false
set_option linter.all false
set_option maxRecDepth 100000
set_option maxHeartbeats 4000000
namespace K77
open PySem PySem.Spec PyProof.Rows Fw L2
theorem kok {K : PySem.W.Frag} : KOk ⟨K, [], [], []⟩ G0 := ⟨rfl, fun n a o h => by simp at h⟩
theorem comp_all : ∀ (i : Nat) (r : Rec), recs[i]? = some r → ∃ b, bodies[i]? = some b ∧ compD (pEnv recs [] blt) r = some b := by
  intro i r h
  match i, h with
  | 0, h => cases h; exact ⟨_, rfl, c_entry⟩
  | 1, h => cases h; exact ⟨_, rfl, c_coefficients⟩
  | 2, h => cases h; exact ⟨_, rfl, c_sum_at⟩
  | 3, h => cases h; exact ⟨_, rfl, c_shortened⟩
  | 4, h => cases h; exact ⟨_, rfl, c_sum_same⟩
  | 5, h => cases h; exact ⟨_, rfl, c_parted⟩
  | 6, h => cases h; exact ⟨_, rfl, c_times_less⟩
  | 7, h => cases h; exact ⟨_, rfl, c_fooling_sum⟩
  | 8, h => cases h; exact ⟨_, rfl, c_differences⟩
  | 9, h => cases h; exact ⟨_, rfl, c_sum_of_answers⟩
  | 10, h => cases h; exact ⟨_, rfl, c__law_whole⟩
  | 11, h => cases h; exact ⟨_, rfl, c__law_cell⟩
  | 12, h => cases h; exact ⟨_, rfl, c__law_digits⟩
  | 13, h => cases h; exact ⟨_, rfl, c__law_is⟩
  | 14, h => cases h; exact ⟨_, rfl, c__law_sum_at⟩
  | 15, h => cases h; exact ⟨_, rfl, c__law_twin⟩
  | 16, h => cases h; exact ⟨_, rfl, c__law_whole_sign⟩
  | 17, h => cases h; exact ⟨_, rfl, c__law_row_at⟩
  | 18, h => cases h; exact ⟨_, rfl, c__law_are_whole⟩
  | 19, h => cases h; exact ⟨_, rfl, c__law_answered⟩
  | 20, h => cases h; exact ⟨_, rfl, c__law_lengths⟩
  | 21, h => cases h; exact ⟨_, rfl, c_law⟩
  | _ + 22, h => cases h
theorem all_mk {w : World} {K : PySem.W.Frag} {h : Heap} {mg : Str → Option Value} {fa : Addr} (X : K.In h) (G : h.Ns mainGlobals mg) (hfa : mg "law" = some (.ref fa))
    {oc0 kV0 dc0 pm0 cd0 ct0 : Value} {od0 an0 : Option Addr} {sl0 : Array (Option Value)} {f0 : Addr}
    {oc1 kV1 dc1 pm1 cd1 ct1 : Value} {od1 an1 : Option Addr} {sl1 : Array (Option Value)} {f1 : Addr}
    {oc2 kV2 dc2 pm2 cd2 ct2 : Value} {od2 an2 : Option Addr} {sl2 : Array (Option Value)} {f2 : Addr}
    {oc3 kV3 dc3 pm3 cd3 ct3 : Value} {od3 an3 : Option Addr} {sl3 : Array (Option Value)} {f3 : Addr}
    {oc4 kV4 dc4 pm4 cd4 ct4 : Value} {od4 an4 : Option Addr} {sl4 : Array (Option Value)} {f4 : Addr}
    {oc5 kV5 dc5 pm5 cd5 ct5 : Value} {od5 an5 : Option Addr} {sl5 : Array (Option Value)} {f5 : Addr}
    {oc6 kV6 dc6 pm6 cd6 ct6 : Value} {od6 an6 : Option Addr} {sl6 : Array (Option Value)} {f6 : Addr}
    {oc7 kV7 dc7 pm7 cd7 ct7 : Value} {od7 an7 : Option Addr} {sl7 : Array (Option Value)} {f7 : Addr}
    {oc8 kV8 dc8 pm8 cd8 ct8 : Value} {od8 an8 : Option Addr} {sl8 : Array (Option Value)} {f8 : Addr}
    {oc9 kV9 dc9 pm9 cd9 ct9 : Value} {od9 an9 : Option Addr} {sl9 : Array (Option Value)} {f9 : Addr}
    {oc10 kV10 dc10 pm10 cd10 ct10 : Value} {od10 an10 : Option Addr} {sl10 : Array (Option Value)} {f10 : Addr}
    {oc11 kV11 dc11 pm11 cd11 ct11 : Value} {od11 an11 : Option Addr} {sl11 : Array (Option Value)} {f11 : Addr}
    {oc12 kV12 dc12 pm12 cd12 ct12 : Value} {od12 an12 : Option Addr} {sl12 : Array (Option Value)} {f12 : Addr}
    {oc13 kV13 dc13 pm13 cd13 ct13 : Value} {od13 an13 : Option Addr} {sl13 : Array (Option Value)} {f13 : Addr}
    {oc14 kV14 dc14 pm14 cd14 ct14 : Value} {od14 an14 : Option Addr} {sl14 : Array (Option Value)} {f14 : Addr}
    {oc15 kV15 dc15 pm15 cd15 ct15 : Value} {od15 an15 : Option Addr} {sl15 : Array (Option Value)} {f15 : Addr}
    {oc16 kV16 dc16 pm16 cd16 ct16 : Value} {od16 an16 : Option Addr} {sl16 : Array (Option Value)} {f16 : Addr}
    {oc17 kV17 dc17 pm17 cd17 ct17 : Value} {od17 an17 : Option Addr} {sl17 : Array (Option Value)} {f17 : Addr}
    {oc18 kV18 dc18 pm18 cd18 ct18 : Value} {od18 an18 : Option Addr} {sl18 : Array (Option Value)} {f18 : Addr}
    {oc19 kV19 dc19 pm19 cd19 ct19 : Value} {od19 an19 : Option Addr} {sl19 : Array (Option Value)} {f19 : Addr}
    {oc20 kV20 dc20 pm20 cd20 ct20 : Value} {od20 an20 : Option Addr} {sl20 : Array (Option Value)} {f20 : Addr}
    {oc21 kV21 dc21 pm21 cd21 ct21 : Value} {od21 an21 : Option Addr} {sl21 : Array (Option Value)} {f21 : Addr}
    (a0 : PySem.W.nsIn K mainGlobals "entry" = some (some (.ref f0))) (l0 : K.lookup f0 = some ⟨oc0, od0, .func (PySem.W.fnOf "entry" "entry" (defArgs r_entry.st) (defBody r_entry.st) (defScope r_entry.st) .none kV0 dc0 pm0 an0 cd0 ct0), sl0⟩) (c0 : PySem.W.codeIn K cd0 "entry" = true) (k0 : PySem.W.keepIn K (.ref f0) = true)
    (a1 : PySem.W.nsIn K mainGlobals "coefficients" = some (some (.ref f1))) (l1 : K.lookup f1 = some ⟨oc1, od1, .func (PySem.W.fnOf "coefficients" "coefficients" (defArgs r_coefficients.st) (defBody r_coefficients.st) (defScope r_coefficients.st) .none kV1 dc1 pm1 an1 cd1 ct1), sl1⟩) (c1 : PySem.W.codeIn K cd1 "coefficients" = true) (k1 : PySem.W.keepIn K (.ref f1) = true)
    (a2 : PySem.W.nsIn K mainGlobals "sum_at" = some (some (.ref f2))) (l2 : K.lookup f2 = some ⟨oc2, od2, .func (PySem.W.fnOf "sum_at" "sum_at" (defArgs r_sum_at.st) (defBody r_sum_at.st) (defScope r_sum_at.st) .none kV2 dc2 pm2 an2 cd2 ct2), sl2⟩) (c2 : PySem.W.codeIn K cd2 "sum_at" = true) (k2 : PySem.W.keepIn K (.ref f2) = true)
    (a3 : PySem.W.nsIn K mainGlobals "shortened" = some (some (.ref f3))) (l3 : K.lookup f3 = some ⟨oc3, od3, .func (PySem.W.fnOf "shortened" "shortened" (defArgs r_shortened.st) (defBody r_shortened.st) (defScope r_shortened.st) .none kV3 dc3 pm3 an3 cd3 ct3), sl3⟩) (c3 : PySem.W.codeIn K cd3 "shortened" = true) (k3 : PySem.W.keepIn K (.ref f3) = true)
    (a4 : PySem.W.nsIn K mainGlobals "sum_same" = some (some (.ref f4))) (l4 : K.lookup f4 = some ⟨oc4, od4, .func (PySem.W.fnOf "sum_same" "sum_same" (defArgs r_sum_same.st) (defBody r_sum_same.st) (defScope r_sum_same.st) .none kV4 dc4 pm4 an4 cd4 ct4), sl4⟩) (c4 : PySem.W.codeIn K cd4 "sum_same" = true) (k4 : PySem.W.keepIn K (.ref f4) = true)
    (a5 : PySem.W.nsIn K mainGlobals "parted" = some (some (.ref f5))) (l5 : K.lookup f5 = some ⟨oc5, od5, .func (PySem.W.fnOf "parted" "parted" (defArgs r_parted.st) (defBody r_parted.st) (defScope r_parted.st) .none kV5 dc5 pm5 an5 cd5 ct5), sl5⟩) (c5 : PySem.W.codeIn K cd5 "parted" = true) (k5 : PySem.W.keepIn K (.ref f5) = true)
    (a6 : PySem.W.nsIn K mainGlobals "times_less" = some (some (.ref f6))) (l6 : K.lookup f6 = some ⟨oc6, od6, .func (PySem.W.fnOf "times_less" "times_less" (defArgs r_times_less.st) (defBody r_times_less.st) (defScope r_times_less.st) .none kV6 dc6 pm6 an6 cd6 ct6), sl6⟩) (c6 : PySem.W.codeIn K cd6 "times_less" = true) (k6 : PySem.W.keepIn K (.ref f6) = true)
    (a7 : PySem.W.nsIn K mainGlobals "fooling_sum" = some (some (.ref f7))) (l7 : K.lookup f7 = some ⟨oc7, od7, .func (PySem.W.fnOf "fooling_sum" "fooling_sum" (defArgs r_fooling_sum.st) (defBody r_fooling_sum.st) (defScope r_fooling_sum.st) .none kV7 dc7 pm7 an7 cd7 ct7), sl7⟩) (c7 : PySem.W.codeIn K cd7 "fooling_sum" = true) (k7 : PySem.W.keepIn K (.ref f7) = true)
    (a8 : PySem.W.nsIn K mainGlobals "differences" = some (some (.ref f8))) (l8 : K.lookup f8 = some ⟨oc8, od8, .func (PySem.W.fnOf "differences" "differences" (defArgs r_differences.st) (defBody r_differences.st) (defScope r_differences.st) .none kV8 dc8 pm8 an8 cd8 ct8), sl8⟩) (c8 : PySem.W.codeIn K cd8 "differences" = true) (k8 : PySem.W.keepIn K (.ref f8) = true)
    (a9 : PySem.W.nsIn K mainGlobals "sum_of_answers" = some (some (.ref f9))) (l9 : K.lookup f9 = some ⟨oc9, od9, .func (PySem.W.fnOf "sum_of_answers" "sum_of_answers" (defArgs r_sum_of_answers.st) (defBody r_sum_of_answers.st) (defScope r_sum_of_answers.st) .none kV9 dc9 pm9 an9 cd9 ct9), sl9⟩) (c9 : PySem.W.codeIn K cd9 "sum_of_answers" = true) (k9 : PySem.W.keepIn K (.ref f9) = true)
    (a10 : PySem.W.nsIn K mainGlobals "_law_whole" = some (some (.ref f10))) (l10 : K.lookup f10 = some ⟨oc10, od10, .func (PySem.W.fnOf "_law_whole" "_law_whole" (defArgs r__law_whole.st) (defBody r__law_whole.st) (defScope r__law_whole.st) .none kV10 dc10 pm10 an10 cd10 ct10), sl10⟩) (c10 : PySem.W.codeIn K cd10 "_law_whole" = true) (k10 : PySem.W.keepIn K (.ref f10) = true)
    (a11 : PySem.W.nsIn K mainGlobals "_law_cell" = some (some (.ref f11))) (l11 : K.lookup f11 = some ⟨oc11, od11, .func (PySem.W.fnOf "_law_cell" "_law_cell" (defArgs r__law_cell.st) (defBody r__law_cell.st) (defScope r__law_cell.st) .none kV11 dc11 pm11 an11 cd11 ct11), sl11⟩) (c11 : PySem.W.codeIn K cd11 "_law_cell" = true) (k11 : PySem.W.keepIn K (.ref f11) = true)
    (a12 : PySem.W.nsIn K mainGlobals "_law_digits" = some (some (.ref f12))) (l12 : K.lookup f12 = some ⟨oc12, od12, .func (PySem.W.fnOf "_law_digits" "_law_digits" (defArgs r__law_digits.st) (defBody r__law_digits.st) (defScope r__law_digits.st) .none kV12 dc12 pm12 an12 cd12 ct12), sl12⟩) (c12 : PySem.W.codeIn K cd12 "_law_digits" = true) (k12 : PySem.W.keepIn K (.ref f12) = true)
    (a13 : PySem.W.nsIn K mainGlobals "_law_is" = some (some (.ref f13))) (l13 : K.lookup f13 = some ⟨oc13, od13, .func (PySem.W.fnOf "_law_is" "_law_is" (defArgs r__law_is.st) (defBody r__law_is.st) (defScope r__law_is.st) .none kV13 dc13 pm13 an13 cd13 ct13), sl13⟩) (c13 : PySem.W.codeIn K cd13 "_law_is" = true) (k13 : PySem.W.keepIn K (.ref f13) = true)
    (a14 : PySem.W.nsIn K mainGlobals "_law_sum_at" = some (some (.ref f14))) (l14 : K.lookup f14 = some ⟨oc14, od14, .func (PySem.W.fnOf "_law_sum_at" "_law_sum_at" (defArgs r__law_sum_at.st) (defBody r__law_sum_at.st) (defScope r__law_sum_at.st) .none kV14 dc14 pm14 an14 cd14 ct14), sl14⟩) (c14 : PySem.W.codeIn K cd14 "_law_sum_at" = true) (k14 : PySem.W.keepIn K (.ref f14) = true)
    (a15 : PySem.W.nsIn K mainGlobals "_law_twin" = some (some (.ref f15))) (l15 : K.lookup f15 = some ⟨oc15, od15, .func (PySem.W.fnOf "_law_twin" "_law_twin" (defArgs r__law_twin.st) (defBody r__law_twin.st) (defScope r__law_twin.st) .none kV15 dc15 pm15 an15 cd15 ct15), sl15⟩) (c15 : PySem.W.codeIn K cd15 "_law_twin" = true) (k15 : PySem.W.keepIn K (.ref f15) = true)
    (a16 : PySem.W.nsIn K mainGlobals "_law_whole_sign" = some (some (.ref f16))) (l16 : K.lookup f16 = some ⟨oc16, od16, .func (PySem.W.fnOf "_law_whole_sign" "_law_whole_sign" (defArgs r__law_whole_sign.st) (defBody r__law_whole_sign.st) (defScope r__law_whole_sign.st) .none kV16 dc16 pm16 an16 cd16 ct16), sl16⟩) (c16 : PySem.W.codeIn K cd16 "_law_whole_sign" = true) (k16 : PySem.W.keepIn K (.ref f16) = true)
    (a17 : PySem.W.nsIn K mainGlobals "_law_row_at" = some (some (.ref f17))) (l17 : K.lookup f17 = some ⟨oc17, od17, .func (PySem.W.fnOf "_law_row_at" "_law_row_at" (defArgs r__law_row_at.st) (defBody r__law_row_at.st) (defScope r__law_row_at.st) .none kV17 dc17 pm17 an17 cd17 ct17), sl17⟩) (c17 : PySem.W.codeIn K cd17 "_law_row_at" = true) (k17 : PySem.W.keepIn K (.ref f17) = true)
    (a18 : PySem.W.nsIn K mainGlobals "_law_are_whole" = some (some (.ref f18))) (l18 : K.lookup f18 = some ⟨oc18, od18, .func (PySem.W.fnOf "_law_are_whole" "_law_are_whole" (defArgs r__law_are_whole.st) (defBody r__law_are_whole.st) (defScope r__law_are_whole.st) .none kV18 dc18 pm18 an18 cd18 ct18), sl18⟩) (c18 : PySem.W.codeIn K cd18 "_law_are_whole" = true) (k18 : PySem.W.keepIn K (.ref f18) = true)
    (a19 : PySem.W.nsIn K mainGlobals "_law_answered" = some (some (.ref f19))) (l19 : K.lookup f19 = some ⟨oc19, od19, .func (PySem.W.fnOf "_law_answered" "_law_answered" (defArgs r__law_answered.st) (defBody r__law_answered.st) (defScope r__law_answered.st) .none kV19 dc19 pm19 an19 cd19 ct19), sl19⟩) (c19 : PySem.W.codeIn K cd19 "_law_answered" = true) (k19 : PySem.W.keepIn K (.ref f19) = true)
    (a20 : PySem.W.nsIn K mainGlobals "_law_lengths" = some (some (.ref f20))) (l20 : K.lookup f20 = some ⟨oc20, od20, .func (PySem.W.fnOf "_law_lengths" "_law_lengths" (defArgs r__law_lengths.st) (defBody r__law_lengths.st) (defScope r__law_lengths.st) .none kV20 dc20 pm20 an20 cd20 ct20), sl20⟩) (c20 : PySem.W.codeIn K cd20 "_law_lengths" = true) (k20 : PySem.W.keepIn K (.ref f20) = true)
    (a21 : PySem.W.nsIn K mainGlobals "law" = some (some (.ref f21))) (l21 : K.lookup f21 = some ⟨oc21, od21, .func (PySem.W.fnOf "law" "law" (defArgs r_law.st) (defBody r_law.st) (defScope r_law.st) .none kV21 dc21 pm21 an21 cd21 ct21), sl21⟩) (c21 : PySem.W.codeIn K cd21 "law" = true) (k21 : PySem.W.keepIn K (.ref f21) = true)
    (z0 : PySem.W.nsIn K mainGlobals "len" = some none) (z1 : PySem.W.nsIn K mainGlobals "isinstance" = some none) (z2 : PySem.W.nsIn K mainGlobals "int" = some none) (z3 : PySem.W.nsIn K mainGlobals "range" = some none) (z4 : PySem.W.nsIn K mainGlobals "tuple" = some none) (z5 : PySem.W.nsIn K mainGlobals "list" = some none) (z6 : PySem.W.nsIn K mainGlobals "max" = some none) (z7 : PySem.W.nsIn K mainGlobals "min" = some none) (z8 : PySem.W.nsIn K mainGlobals "reversed" = some none) (z9 : PySem.W.nsIn K mainGlobals "enumerate" = some none) (z10 : PySem.W.nsIn K mainGlobals "zip" = some none) (z11 : PySem.W.nsIn K mainGlobals "bool" = some none) (z12 : PySem.W.nsIn K mainGlobals "str" = some none) :
    ∃ fd : FuncData, (∀ (s : Shared) (v : Value), BindsTo s fd ⟨[v], []⟩ [("script", v)]) ∧ ∀ base : Heap, K.In base → base.Ns mainGlobals mg → FnOk PySem.Challenge.rw_onlylength_k77_sums_whole.prog w K mg base (L2.CX PySem.Challenge.rw_onlylength_k77_sums_whole.prog w) 40 fa fd ["script"] (spOf ⟨K, [], [], []⟩ (semF G0 (prgOf recs bodies) 40 21) 1) := by
  have d0 : Def K mg r_entry := ⟨f0, _, PySem.W.mg_of X G a0, fun_mk (st := r_entry.st) l0 c0 k0, (fun_mk (st := r_entry.st) l0 c0 k0).binds (ps := r_entry.ps) fun _ _ _ _ _ _ us hl => match us, hl with | [_, _], _ => rfl⟩
  have d1 : Def K mg r_coefficients := ⟨f1, _, PySem.W.mg_of X G a1, fun_mk (st := r_coefficients.st) l1 c1 k1, (fun_mk (st := r_coefficients.st) l1 c1 k1).binds (ps := r_coefficients.ps) fun _ _ _ _ _ _ us hl => match us, hl with | [_], _ => rfl⟩
  have d2 : Def K mg r_sum_at := ⟨f2, _, PySem.W.mg_of X G a2, fun_mk (st := r_sum_at.st) l2 c2 k2, (fun_mk (st := r_sum_at.st) l2 c2 k2).binds (ps := r_sum_at.ps) fun _ _ _ _ _ _ us hl => match us, hl with | [_, _], _ => rfl⟩
  have d3 : Def K mg r_shortened := ⟨f3, _, PySem.W.mg_of X G a3, fun_mk (st := r_shortened.st) l3 c3 k3, (fun_mk (st := r_shortened.st) l3 c3 k3).binds (ps := r_shortened.ps) fun _ _ _ _ _ _ us hl => match us, hl with | [_], _ => rfl⟩
  have d4 : Def K mg r_sum_same := ⟨f4, _, PySem.W.mg_of X G a4, fun_mk (st := r_sum_same.st) l4 c4 k4, (fun_mk (st := r_sum_same.st) l4 c4 k4).binds (ps := r_sum_same.ps) fun _ _ _ _ _ _ us hl => match us, hl with | [_, _], _ => rfl⟩
  have d5 : Def K mg r_parted := ⟨f5, _, PySem.W.mg_of X G a5, fun_mk (st := r_parted.st) l5 c5 k5, (fun_mk (st := r_parted.st) l5 c5 k5).binds (ps := r_parted.ps) fun _ _ _ _ _ _ us hl => match us, hl with | [_], _ => rfl⟩
  have d6 : Def K mg r_times_less := ⟨f6, _, PySem.W.mg_of X G a6, fun_mk (st := r_times_less.st) l6 c6 k6, (fun_mk (st := r_times_less.st) l6 c6 k6).binds (ps := r_times_less.ps) fun _ _ _ _ _ _ us hl => match us, hl with | [_, _], _ => rfl⟩
  have d7 : Def K mg r_fooling_sum := ⟨f7, _, PySem.W.mg_of X G a7, fun_mk (st := r_fooling_sum.st) l7 c7 k7, (fun_mk (st := r_fooling_sum.st) l7 c7 k7).binds (ps := r_fooling_sum.ps) fun _ _ _ _ _ _ us hl => match us, hl with | [_], _ => rfl⟩
  have d8 : Def K mg r_differences := ⟨f8, _, PySem.W.mg_of X G a8, fun_mk (st := r_differences.st) l8 c8 k8, (fun_mk (st := r_differences.st) l8 c8 k8).binds (ps := r_differences.ps) fun _ _ _ _ _ _ us hl => match us, hl with | [_], _ => rfl⟩
  have d9 : Def K mg r_sum_of_answers := ⟨f9, _, PySem.W.mg_of X G a9, fun_mk (st := r_sum_of_answers.st) l9 c9 k9, (fun_mk (st := r_sum_of_answers.st) l9 c9 k9).binds (ps := r_sum_of_answers.ps) fun _ _ _ _ _ _ us hl => match us, hl with | [_], _ => rfl⟩
  have d10 : Def K mg r__law_whole := ⟨f10, _, PySem.W.mg_of X G a10, fun_mk (st := r__law_whole.st) l10 c10 k10, (fun_mk (st := r__law_whole.st) l10 c10 k10).binds (ps := r__law_whole.ps) fun _ _ _ _ _ _ us hl => match us, hl with | [_], _ => rfl⟩
  have d11 : Def K mg r__law_cell := ⟨f11, _, PySem.W.mg_of X G a11, fun_mk (st := r__law_cell.st) l11 c11 k11, (fun_mk (st := r__law_cell.st) l11 c11 k11).binds (ps := r__law_cell.ps) fun _ _ _ _ _ _ us hl => match us, hl with | [_, _], _ => rfl⟩
  have d12 : Def K mg r__law_digits := ⟨f12, _, PySem.W.mg_of X G a12, fun_mk (st := r__law_digits.st) l12 c12 k12, (fun_mk (st := r__law_digits.st) l12 c12 k12).binds (ps := r__law_digits.ps) fun _ _ _ _ _ _ us hl => match us, hl with | [_, _], _ => rfl⟩
  have d13 : Def K mg r__law_is := ⟨f13, _, PySem.W.mg_of X G a13, fun_mk (st := r__law_is.st) l13 c13 k13, (fun_mk (st := r__law_is.st) l13 c13 k13).binds (ps := r__law_is.ps) fun _ _ _ _ _ _ us hl => match us, hl with | [_, _], _ => rfl⟩
  have d14 : Def K mg r__law_sum_at := ⟨f14, _, PySem.W.mg_of X G a14, fun_mk (st := r__law_sum_at.st) l14 c14 k14, (fun_mk (st := r__law_sum_at.st) l14 c14 k14).binds (ps := r__law_sum_at.ps) fun _ _ _ _ _ _ us hl => match us, hl with | [_, _], _ => rfl⟩
  have d15 : Def K mg r__law_twin := ⟨f15, _, PySem.W.mg_of X G a15, fun_mk (st := r__law_twin.st) l15 c15 k15, (fun_mk (st := r__law_twin.st) l15 c15 k15).binds (ps := r__law_twin.ps) fun _ _ _ _ _ _ us hl => match us, hl with | [_, _, _], _ => rfl⟩
  have d16 : Def K mg r__law_whole_sign := ⟨f16, _, PySem.W.mg_of X G a16, fun_mk (st := r__law_whole_sign.st) l16 c16 k16, (fun_mk (st := r__law_whole_sign.st) l16 c16 k16).binds (ps := r__law_whole_sign.ps) fun _ _ _ _ _ _ us hl => match us, hl with | [_], _ => rfl⟩
  have d17 : Def K mg r__law_row_at := ⟨f17, _, PySem.W.mg_of X G a17, fun_mk (st := r__law_row_at.st) l17 c17 k17, (fun_mk (st := r__law_row_at.st) l17 c17 k17).binds (ps := r__law_row_at.ps) fun _ _ _ _ _ _ us hl => match us, hl with | [_, _], _ => rfl⟩
  have d18 : Def K mg r__law_are_whole := ⟨f18, _, PySem.W.mg_of X G a18, fun_mk (st := r__law_are_whole.st) l18 c18 k18, (fun_mk (st := r__law_are_whole.st) l18 c18 k18).binds (ps := r__law_are_whole.ps) fun _ _ _ _ _ _ us hl => match us, hl with | [_], _ => rfl⟩
  have d19 : Def K mg r__law_answered := ⟨f19, _, PySem.W.mg_of X G a19, fun_mk (st := r__law_answered.st) l19 c19 k19, (fun_mk (st := r__law_answered.st) l19 c19 k19).binds (ps := r__law_answered.ps) fun _ _ _ _ _ _ us hl => match us, hl with | [_, _], _ => rfl⟩
  have d20 : Def K mg r__law_lengths := ⟨f20, _, PySem.W.mg_of X G a20, fun_mk (st := r__law_lengths.st) l20 c20 k20, (fun_mk (st := r__law_lengths.st) l20 c20 k20).binds (ps := r__law_lengths.ps) fun _ _ _ _ _ _ us hl => match us, hl with | [_], _ => rfl⟩
  have d21 : Def K mg r_law := ⟨f21, _, PySem.W.mg_of X G a21, fun_mk (st := r_law.st) l21 c21 k21, (fun_mk (st := r_law.st) l21 c21 k21).binds (ps := r_law.ps) fun _ _ _ _ _ _ us hl => match us, hl with | [_], _ => rfl⟩
  have e := hfa.symm.trans (PySem.W.mg_of X G a21)
  cases e
  refine ⟨PySem.W.fnOf "law" "law" (defArgs r_law.st) (defBody r_law.st) (defScope r_law.st) .none kV21 dc21 pm21 an21 cd21 ct21, fun s v => .of_eq rfl, fun base _ _ => ?_⟩
  have ds : ∀ r ∈ recs, Def K mg r := by
    intro r hr
    simp only [recs, List.mem_cons, List.not_mem_nil, or_false] at hr
    rcases hr with rfl | rfl | rfl | rfl | rfl | rfl | rfl | rfl | rfl | rfl | rfl | rfl | rfl | rfl | rfl | rfl | rfl | rfl | rfl | rfl | rfl | rfl
    · exact d0
    · exact d1
    · exact d2
    · exact d3
    · exact d4
    · exact d5
    · exact d6
    · exact d7
    · exact d8
    · exact d9
    · exact d10
    · exact d11
    · exact d12
    · exact d13
    · exact d14
    · exact d15
    · exact d16
    · exact d17
    · exact d18
    · exact d19
    · exact d20
    · exact d21
  have bl : ∀ x, blt.contains x = true → mg x = none := by
    intro x hx
    simp only [blt, List.contains_cons, List.contains_nil, Bool.or_false, Bool.or_eq_true, beq_iff_eq] at hx
    rcases hx with rfl | rfl | rfl | rfl | rfl | rfl | rfl | rfl | rfl | rfl | rfl | rfl | rfl
    · exact PySem.W.mg_none_of X G z0
    · exact PySem.W.mg_none_of X G z1
    · exact PySem.W.mg_none_of X G z2
    · exact PySem.W.mg_none_of X G z3
    · exact PySem.W.mg_none_of X G z4
    · exact PySem.W.mg_none_of X G z5
    · exact PySem.W.mg_none_of X G z6
    · exact PySem.W.mg_none_of X G z7
    · exact PySem.W.mg_none_of X G z8
    · exact PySem.W.mg_none_of X G z9
    · exact PySem.W.mg_none_of X G z10
    · exact PySem.W.mg_none_of X G z11
    · exact PySem.W.mg_none_of X G z12
  obtain ⟨fa', fd', h1, h2, h3, h4⟩ := prog_ok (T := ⟨K, [], [], []⟩) (G := G0) (rs := recs) (bs := bodies) (ks := []) (blt := blt) (prog := PySem.Challenge.rw_onlylength_k77_sums_whole.prog) (w := w) (mg := mg) (base := base) kok sc_all comp_all (fun x p h => by cases h) bl ds 40 21 r_law rfl
  have e2 := h1.symm.trans (PySem.W.mg_of X G a21)
  cases e2
  obtain ⟨oc, od, kV, doc, pm, an, cdv, ct, osl, rfl, lk, _⟩ := h2.ex
  have e3 := lk.symm.trans l21
  cases e3
  exact h4
end K77
open PySem PySem.W PyProof.Rows
set_option maxHeartbeats 0 in
theorem PySem.Challenge.cw_onlylength_k77_sums_whole_holds : PySem.Challenge.rw_onlylength_k77_sums_whole.Holds := by
  w_on; o_law; k_head; (case hw => w_witness2)
  k_fill
  refine L2.walk_of (l := PySem.Challenge.rw_onlylength_k77_sums_whole) (n := 63) (k := 40) (x := "script") (CX := fun w => L2.CX PySem.Challenge.rw_onlylength_k77_sums_whole.prog w) (sp := fun w => Fw.spOf ⟨_, [], [], []⟩ (Fw.semF K77.G0 (Fw.prgOf K77.recs K77.bodies) 40 21) 1) rfl (by decide) rfl ⟨rfl, by decide, by decide⟩ (fun w h Y => PySem.W.kIn_of Y) ?F (fun _ H a ns hl ho hS => Fw.law_sp ho hS (K77.law_math ns hl)) (fun _ _ _ _ _ h => Fw.cx_never h)
  case F =>
    intro w mg fa h KX G hmg
    refine' K77.all_mk KX G hmg ?a0 ?l0 ?c0 ?k0 ?a1 ?l1 ?c1 ?k1 ?a2 ?l2 ?c2 ?k2 ?a3 ?l3 ?c3 ?k3 ?a4 ?l4 ?c4 ?k4 ?a5 ?l5 ?c5 ?k5 ?a6 ?l6 ?c6 ?k6 ?a7 ?l7 ?c7 ?k7 ?a8 ?l8 ?c8 ?k8 ?a9 ?l9 ?c9 ?k9 ?a10 ?l10 ?c10 ?k10 ?a11 ?l11 ?c11 ?k11 ?a12 ?l12 ?c12 ?k12 ?a13 ?l13 ?c13 ?k13 ?a14 ?l14 ?c14 ?k14 ?a15 ?l15 ?c15 ?k15 ?a16 ?l16 ?c16 ?k16 ?a17 ?l17 ?c17 ?k17 ?a18 ?l18 ?c18 ?k18 ?a19 ?l19 ?c19 ?k19 ?a20 ?l20 ?c20 ?k20 ?a21 ?l21 ?c21 ?k21 ?z0 ?z1 ?z2 ?z3 ?z4 ?z5 ?z6 ?z7 ?z8 ?z9 ?z10 ?z11 ?z12
    (case a0 => k_is); (case l0 => k_is); (case c0 => k_is); (case k0 => k_is); (case a1 => k_is); (case l1 => k_is); (case c1 => k_is); (case k1 => k_is); (case a2 => k_is); (case l2 => k_is); (case c2 => k_is); (case k2 => k_is); (case a3 => k_is); (case l3 => k_is); (case c3 => k_is); (case k3 => k_is); (case a4 => k_is); (case l4 => k_is); (case c4 => k_is); (case k4 => k_is); (case a5 => k_is); (case l5 => k_is); (case c5 => k_is); (case k5 => k_is); (case a6 => k_is); (case l6 => k_is); (case c6 => k_is); (case k6 => k_is); (case a7 => k_is); (case l7 => k_is); (case c7 => k_is); (case k7 => k_is); (case a8 => k_is); (case l8 => k_is); (case c8 => k_is); (case k8 => k_is); (case a9 => k_is); (case l9 => k_is); (case c9 => k_is); (case k9 => k_is); (case a10 => k_is); (case l10 => k_is); (case c10 => k_is); (case k10 => k_is); (case a11 => k_is); (case l11 => k_is); (case c11 => k_is); (case k11 => k_is); (case a12 => k_is); (case l12 => k_is); (case c12 => k_is); (case k12 => k_is); (case a13 => k_is); (case l13 => k_is); (case c13 => k_is); (case k13 => k_is); (case a14 => k_is); (case l14 => k_is); (case c14 => k_is); (case k14 => k_is); (case a15 => k_is); (case l15 => k_is); (case c15 => k_is); (case k15 => k_is); (case a16 => k_is); (case l16 => k_is); (case c16 => k_is); (case k16 => k_is); (case a17 => k_is); (case l17 => k_is); (case c17 => k_is); (case k17 => k_is); (case a18 => k_is); (case l18 => k_is); (case c18 => k_is); (case k18 => k_is); (case a19 => k_is); (case l19 => k_is); (case c19 => k_is); (case k19 => k_is); (case a20 => k_is); (case l20 => k_is); (case c20 => k_is); (case k20 => k_is); (case a21 => k_is); (case l21 => k_is); (case c21 => k_is); (case k21 => k_is); (case z0 => k_is); (case z1 => k_is); (case z2 => k_is); (case z3 => k_is); (case z4 => k_is); (case z5 => k_is); (case z6 => k_is); (case z7 => k_is); (case z8 => k_is); (case z9 => k_is); (case z10 => k_is); (case z11 => k_is); (case z12 => k_is)
