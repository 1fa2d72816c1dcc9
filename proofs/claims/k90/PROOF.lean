import PyProof.Rows.All
import Wide.All
import OpenK.AllK
import Wide.FinOn
import HandS.ForMost
import HandS.ForExc
import HandS.Flow
import HandS.IsInst
import HandS.Wide
import HandS.TupLe
import HandS.SortInts
import HandS.StrMore
import HandS.TupAny
import HandS.Rev
import HandS.RevTup
import KE.GoesEnum
import PySem.Challenge.RW_onlylength_k90_notes_read_back
import KE.IntTextLaws
set_option Elab.async false
set_option linter.all false
set_option maxRecDepth 100000
set_option maxHeartbeats 1000000
/-! Fw1: values and a heap as a list; how they stand for the hand layer's values and heap. -/
namespace Fw
open PySem PySem.Spec PyProof.Rows L2

/-- a value: texts by their codes, objects by their place in the heap's list -/
inductive PV where
  | non | bl (b : Bool) | int (i : Int) | str (l : List Nat) | loc (n : Nat) | kon (n : Nat) | cls (n : Nat) | ty (n : String)
  deriving DecidableEq

/-- an object -/
inductive PO where
  | lst (xs : List PV)
  | rol (xs : List PV)
  | tup (xs : List PV)
  | ins (c : Nat) (fs : List (Nat × PV))
  | dct (kvs : List (PV × PV))
  | xd (fs : List (Nat × PV))
  deriving DecidableEq

abbrev PH := List PO
abbrev PSt := List (Option PV)

def PO.isRol : PO → Bool
  | .rol _ => true
  | _ => false

/-- what the top of the program has: classes, constants, names of attributes -/
structure Tab where
  K : PySem.W.Frag
  cls : List Addr
  kon : List (Addr × PO)
  att : List Str

def sOf (l : List Nat) : Str := ⟨l.toArray⟩

def RV (T : Tab) (m : List Addr) : PV → V → Prop
  | .non, v => v = .non
  | .bl b, v => v = .bl b
  | .int i, v => v = .int i
  | .str l, v => v = .str (sOf l)
  | .loc n, v => ∃ a, m[n]? = some a ∧ v = .ref a
  | .kon n, v => ∃ a o, T.kon[n]? = some (a, o) ∧ v = .ref a
  | .cls n, v => ∃ a, T.cls[n]? = some a ∧ v = .ref a
  | .ty s, v => v = .ty s

abbrev RVs (T : Tab) (m : List Addr) : List PV → List V → Prop := Paired (RV T m)

theorem get_ext {α : Type} {m m' : List α} {n : Nat} {a : α} (h : m <+: m') (e : m[n]? = some a) : m'[n]? = some a := by
  obtain ⟨r, rfl⟩ := h
  have hl : n < m.length := by
    rcases Nat.lt_or_ge n m.length with z | z
    · exact z
    · rw [List.getElem?_eq_none z] at e; cases e
  rw [List.getElem?_append_left hl]; exact e

theorem RV.ext {T : Tab} {m m' : List Addr} {p : PV} {v : V} (h : m <+: m') (r : RV T m p v) : RV T m' p v := by
  cases p <;> try exact r
  obtain ⟨a, e, rfl⟩ := r
  exact ⟨a, get_ext h e, rfl⟩
theorem RVs.ext {T : Tab} {m m' : List Addr} (h : m <+: m') : ∀ {ps : List PV} {vs : List V}, RVs T m ps vs → RVs T m' ps vs
  | _, _, .nil => .nil
  | _, _, .cons r t => .cons (r.ext h) (RVs.ext h t)
theorem RVs.length {T : Tab} {m : List Addr} {ps : List PV} {vs : List V} (r : RVs T m ps vs) : ps.length = vs.length := Paired.length r
theorem RVs.get {T : Tab} {m : List Addr} : ∀ {ps : List PV} {vs : List V} {i : Nat} {p : PV}, RVs T m ps vs → ps[i]? = some p → ∃ v, vs[i]? = some v ∧ RV T m p v
  | _, _, _, _, .nil, e => by simp at e
  | _, _, 0, _, .cons r _, e => by simp at e; subst e; exact ⟨_, rfl, r⟩
  | _, _, i + 1, p, .cons _ t, e => by
    obtain ⟨v, h1, h2⟩ := RVs.get (i := i) (p := p) t (by simpa using e)
    exact ⟨v, by simpa using h1, h2⟩
theorem RVs.set {T : Tab} {m : List Addr} {p : PV} {v : V} (r : RV T m p v) : ∀ {ps : List PV} {vs : List V} (i : Nat), RVs T m ps vs → RVs T m (ps.set i p) (vs.set i v)
  | _, _, _, .nil => .nil
  | _, _, 0, .cons _ t => .cons r t
  | _, _, i + 1, .cons q t => .cons q (RVs.set r i t)
theorem RVs.append {T : Tab} {m : List Addr} : ∀ {ps qs : List PV} {vs us : List V}, RVs T m ps vs → RVs T m qs us → RVs T m (ps ++ qs) (vs ++ us)
  | _, _, _, _, .nil, s => s
  | _, _, _, _, .cons r t, s => .cons r (RVs.append t s)
theorem RVs.take {T : Tab} {m : List Addr} : ∀ {ps : List PV} {vs : List V} (n : Nat), RVs T m ps vs → RVs T m (ps.take n) (vs.take n)
  | _, _, 0, _ => .nil
  | _, _, _ + 1, .nil => .nil
  | _, _, n + 1, .cons r t => .cons r (RVs.take n t)
theorem RVs.drop {T : Tab} {m : List Addr} : ∀ {ps : List PV} {vs : List V} (n : Nat), RVs T m ps vs → RVs T m (ps.drop n) (vs.drop n)
  | _, _, 0, r => r
  | _, _, _ + 1, .nil => .nil
  | _, _, n + 1, .cons _ t => RVs.drop n t
theorem RVs.reverse {T : Tab} {m : List Addr} : ∀ {ps : List PV} {vs : List V}, RVs T m ps vs → RVs T m ps.reverse vs.reverse
  | _, _, .nil => .nil
  | _, _, .cons r t => by
    rw [List.reverse_cons, List.reverse_cons]
    exact RVs.append (RVs.reverse t) (.cons r .nil)
theorem RVs.dropLast {T : Tab} {m : List Addr} {ps : List PV} {vs : List V} (r : RVs T m ps vs) : RVs T m ps.dropLast vs.dropLast := by
  rw [List.dropLast_eq_take, List.dropLast_eq_take, r.length]
  exact r.take _
theorem RVs.ints {T : Tab} {m : List Addr} : ∀ ns : List Int, RVs T m (ns.map PV.int) (ns.map V.int)
  | [] => .nil
  | _ :: r => .cons rfl (RVs.ints r)
theorem RVs.of_ints {T : Tab} {m : List Addr} : ∀ {ns : List Int} {vs : List V}, RVs T m (ns.map PV.int) vs → vs = ns.map V.int
  | [], _, .nil => rfl
  | _ :: _, _, .cons r t => by
    have r : _ = V.int _ := r
    rw [r, RVs.of_ints t]; rfl
/-- the same value stands for it -/
theorem RV.fn {T : Tab} {m : List Addr} {p : PV} {v w : V} (r : RV T m p v) (q : RV T m p w) : v = w := by
  cases p with
  | loc n =>
    obtain ⟨a, e, rfl⟩ := r; obtain ⟨b, e', rfl⟩ := q
    rw [e] at e'; cases e'; rfl
  | kon n =>
    obtain ⟨a, o, e, rfl⟩ := r; obtain ⟨b, o', e', rfl⟩ := q
    rw [e] at e'; cases e'; rfl
  | cls n =>
    obtain ⟨a, e, rfl⟩ := r; obtain ⟨b, e', rfl⟩ := q
    rw [e] at e'; cases e'; rfl
  | _ => exact (show v = _ from r).trans (show w = _ from q).symm
theorem RVs.fn {T : Tab} {m : List Addr} : ∀ {ps : List PV} {vs us : List V}, RVs T m ps vs → RVs T m ps us → vs = us
  | _, _, _, .nil, .nil => rfl
  | _, _, _, .cons r t, .cons r' t' => by rw [r.fn r', RVs.fn t t']

/-- a key of a dict -/
def keyP : PV → Option Key
  | .int i => some (.inl i)
  | .str l => some (.inr (sOf l))
  | _ => none
def RKV (T : Tab) (m : List Addr) : List (PV × PV) → List (Key × V) → Prop := Paired fun p q => keyP p.1 = some q.1 ∧ RV T m p.2 q.2
def RF (T : Tab) (m : List Addr) : List (Nat × PV) → List (Str × V) → Prop := Paired fun p q => T.att[p.1]? = some q.1 ∧ RV T m p.2 q.2
theorem Paired.imp {α β : Type} {F G : α → β → Prop} (f : ∀ a b, F a b → G a b) : ∀ {xs : List α} {ys : List β}, Paired F xs ys → Paired G xs ys
  | _, _, .nil => .nil
  | _, _, .cons r t => .cons (f _ _ r) (Paired.imp f t)
theorem RKV.ext {T : Tab} {m m' : List Addr} (h : m <+: m') {xs : List (PV × PV)} {ys : List (Key × V)} (r : RKV T m xs ys) : RKV T m' xs ys := Paired.imp (fun _ _ z => ⟨z.1, z.2.ext h⟩) r
theorem RF.ext {T : Tab} {m m' : List Addr} (h : m <+: m') {xs : List (Nat × PV)} {ys : List (Str × V)} (r : RF T m xs ys) : RF T m' xs ys := Paired.imp (fun _ _ z => ⟨z.1, z.2.ext h⟩) r

/-- a list of the written part -/
def KLst (K : PySem.W.Frag) (a : Addr) (xs : List V) : Prop :=
  ∃ (o : Obj) (its : Array Value) (n : Nat), K.lookup a = some o ∧ o.cls = .type "list" ∧ o.dict = none ∧ o.data = .seq its n ∧ its.size ≤ sizeLine ∧ Vals xs its.toList

/-- an object stands at a -/
def OR (T : Tab) (m : List Addr) (H : Hp) (a : Addr) : PO → Prop
  | .lst xs => ∃ vs, H a = some (.lst vs) ∧ RVs T m xs vs
  | .rol xs => ∃ vs, ((∃ o, H a = some (.frz o (.lst vs))) ∨ KLst T.K a vs) ∧ RVs T m xs vs
  | .tup xs => ∃ vs, H a = some (.tup vs) ∧ RVs T m xs vs
  | .ins c fs => ∃ C dx gs, T.cls[c]? = some C ∧ H a = some (.ins C dx gs) ∧ RF T m fs gs
  | .dct kvs => ∃ gs, H a = some (.dK gs) ∧ RKV T m kvs gs
  | .xd fs => ∃ gs, H a = some (.xd gs) ∧ RF T m fs gs
theorem OR.ext {T : Tab} {m m' : List Addr} {H : Hp} {a : Addr} {o : PO} (h : m <+: m') (r : OR T m H a o) : OR T m' H a o := by
  cases o with
  | lst xs => obtain ⟨vs, e, r⟩ := r; exact ⟨vs, e, r.ext h⟩
  | rol xs => obtain ⟨vs, e, r⟩ := r; exact ⟨vs, e, r.ext h⟩
  | tup xs => obtain ⟨vs, e, r⟩ := r; exact ⟨vs, e, r.ext h⟩
  | ins c fs => obtain ⟨C, dx, gs, c, e, r⟩ := r; exact ⟨C, dx, gs, c, e, r.ext h⟩
  | dct kvs => obtain ⟨gs, e, r⟩ := r; exact ⟨gs, e, r.ext h⟩
  | xd fs => obtain ⟨gs, e, r⟩ := r; exact ⟨gs, e, r.ext h⟩
theorem OR.heap {T : Tab} {m : List Addr} {H H' : Hp} {a : Addr} {o : PO} (h : ∀ u, H a = some u → H' a = some u) (r : OR T m H a o) : OR T m H' a o := by
  cases o with
  | lst xs => obtain ⟨vs, e, r⟩ := r; exact ⟨vs, h _ e, r⟩
  | rol xs => obtain ⟨vs, e, r⟩ := r; exact ⟨vs, e.imp (fun ⟨o, z⟩ => ⟨o, h _ z⟩) id, r⟩
  | tup xs => obtain ⟨vs, e, r⟩ := r; exact ⟨vs, h _ e, r⟩
  | ins c fs => obtain ⟨C, dx, gs, c, e, r⟩ := r; exact ⟨C, dx, gs, c, h _ e, r⟩
  | dct kvs => obtain ⟨gs, e, r⟩ := r; exact ⟨gs, h _ e, r⟩
  | xd fs => obtain ⟨gs, e, r⟩ := r; exact ⟨gs, h _ e, r⟩
/-- it is tracked, but a list of the written part -/
theorem OR.some {T : Tab} {m : List Addr} {H : Hp} {a : Addr} {o : PO} (r : OR T m H a o) (ho : o.isRol = false) : H a ≠ none := by
  cases o with
  | lst xs => obtain ⟨vs, e, r⟩ := r; rw [e]; simp
  | rol xs => cases ho
  | tup xs => obtain ⟨vs, e, r⟩ := r; rw [e]; simp
  | ins c fs => obtain ⟨C, dx, gs, c, e, r⟩ := r; rw [e]; simp
  | dct kvs => obtain ⟨gs, e, r⟩ := r; rw [e]; simp
  | xd fs => obtain ⟨gs, e, r⟩ := r; rw [e]; simp

structure HR (T : Tab) (m : List Addr) (h : PH) (H : Hp) : Prop where
  len : m.length = h.length
  sep : ∀ (i j : Nat) (a : Addr) (oi oj : PO), i ≠ j → m[i]? = some a → m[j]? = some a → h[i]? = some oi → h[j]? = some oj → oi.isRol = true ∨ oj.isRol = true
  obj : ∀ (i : Nat) (a : Addr) (o : PO), m[i]? = some a → h[i]? = some o → OR T m H a o

theorem HR.at {T : Tab} {m : List Addr} {h : PH} {H : Hp} {n : Nat} {o : PO} (r : HR T m h H) (e : h[n]? = some o) : ∃ a, m[n]? = some a ∧ OR T m H a o := by
  have hl : n < m.length := by
    rw [r.len]
    rcases Nat.lt_or_ge n h.length with z | z
    · exact z
    · rw [List.getElem?_eq_none z] at e; cases e
  exact ⟨m[n], List.getElem?_eq_getElem hl, r.obj n _ o (List.getElem?_eq_getElem hl) e⟩

theorem get_len {α : Type} {l : List α} {n : Nat} {a : α} (e : l[n]? = some a) : n < l.length := by
  rcases Nat.lt_or_ge n l.length with z | z
  · exact z
  · rw [List.getElem?_eq_none z] at e; cases e
theorem get_snoc {α : Type} {l : List α} {n : Nat} {a b : α} (e : (l ++ [a])[n]? = some b) : (n < l.length ∧ l[n]? = some b) ∨ (n = l.length ∧ b = a) := by
  have hl := get_len e
  rw [List.length_append, List.length_singleton] at hl
  by_cases h : n < l.length
  · rw [List.getElem?_append_left h] at e; exact .inl ⟨h, e⟩
  · have : n = l.length := by omega
    subst this
    rw [List.getElem?_append_right (Nat.le_refl _), Nat.sub_self] at e
    exact .inr ⟨rfl, by simpa using e.symm⟩
theorem ext_snoc {m : List Addr} {p : Addr} : m <+: m ++ [p] := ⟨[p], rfl⟩
/-- a new object -/
theorem HR.new {T : Tab} {m : List Addr} {h : PH} {H : Hp} {p : Addr} {u : HO} {o : PO} (r : HR T m h H) (hp : H p = none) (ho : OR T (m ++ [p]) (upd H p u) p o) (hr : o.isRol = false) : HR T (m ++ [p]) (h ++ [o]) (upd H p u) := by
  have old : ∀ (i : Nat) (oi : PO), m[i]? = some p → h[i]? = some oi → oi.isRol = true := fun i oi e1 e2 => by
    have q := r.obj i p oi e1 e2
    cases z : oi.isRol with
    | true => rfl
    | false => exact absurd hp (q.some z)
  refine ⟨by rw [List.length_append, List.length_append, r.len]; rfl, ?_, ?_⟩
  · intro i j a oi oj ij e1 e2 e3 e4
    rcases get_snoc e1 with ⟨l1, e1⟩ | ⟨l1, x1⟩ <;> rcases get_snoc e2 with ⟨l2, e2⟩ | ⟨l2, x2⟩
    · rcases get_snoc e3 with ⟨_, e3⟩ | ⟨l3, _⟩
      · rcases get_snoc e4 with ⟨_, e4⟩ | ⟨l4, _⟩
        · exact r.sep i j a oi oj ij e1 e2 e3 e4
        · rw [l4, r.len] at l2; exact absurd l2 (Nat.lt_irrefl _)
      · rw [l3, r.len] at l1; exact absurd l1 (Nat.lt_irrefl _)
    · rcases get_snoc e3 with ⟨_, e3⟩ | ⟨l3, _⟩
      · rw [x2] at e1; exact .inl (old i oi e1 e3)
      · rw [l3, r.len] at l1; exact absurd l1 (Nat.lt_irrefl _)
    · rcases get_snoc e4 with ⟨_, e4⟩ | ⟨l4, _⟩
      · rw [x1] at e2; exact .inr (old j oj e2 e4)
      · rw [l4, r.len] at l2; exact absurd l2 (Nat.lt_irrefl _)
    · exact absurd (l1.trans l2.symm) ij
  · intro i a oi e1 e2
    rcases get_snoc e1 with ⟨l1, e1⟩ | ⟨l1, x1⟩
    · rcases get_snoc e2 with ⟨_, e2⟩ | ⟨l3, _⟩
      · exact ((r.obj i a oi e1 e2).ext ext_snoc).heap fun v q => by rw [upd_ne (ne_of_none q hp)]; exact q
      · rw [l3, r.len] at l1; exact absurd l1 (Nat.lt_irrefl _)
    · rcases get_snoc e2 with ⟨l2, e2⟩ | ⟨l3, x2⟩
      · rw [l1, r.len] at l2; exact absurd l2 (Nat.lt_irrefl _)
      · rw [x1, x2]; exact ho
theorem get_set {α : Type} {l : List α} {n i : Nat} {a b : α} (e : (l.set n a)[i]? = some b) : (i = n ∧ b = a) ∨ (i ≠ n ∧ l[i]? = some b) := by
  by_cases h : i = n
  · subst h
    have hl := get_len e
    rw [List.length_set] at hl
    rw [List.getElem?_set_self hl] at e
    exact .inl ⟨rfl, by simpa using e.symm⟩
  · rw [List.getElem?_set_ne (fun z => h z.symm)] at e
    exact .inr ⟨h, e⟩
/-- what an object at a place that is no `rol` tells of another place with the same address -/
theorem HR.put {T : Tab} {m : List Addr} {h : PH} {H : Hp} {n : Nat} {a : Addr} {u w : HO} {o o' : PO} (r : HR T m h H) (e1 : m[n]? = some a) (e2 : h[n]? = some o) (hr : o.isRol = false) (hr' : o'.isRol = false)
    (ha : H a = some w) (hm : ∀ ob v, w ≠ .frz ob v) (ho : OR T m (upd H a u) a o') : HR T m (h.set n o') (upd H a u) := by
  refine ⟨by rw [List.length_set]; exact r.len, ?_, ?_⟩
  · intro i j b oi oj ij f1 f2 f3 f4
    rcases get_set f3 with ⟨x, y⟩ | ⟨x, g3⟩ <;> rcases get_set f4 with ⟨x', y'⟩ | ⟨x', g4⟩
    · exact absurd (x.trans x'.symm) ij
    · subst x
      rw [f1] at e1; cases e1
      rcases r.sep i j _ o oj ij f1 f2 e2 g4 with z | z
      · rw [hr] at z; cases z
      · exact .inr z
    · subst x'
      rw [f2] at e1; cases e1
      rcases r.sep i j _ oi o ij f1 f2 g3 e2 with z | z
      · exact .inl z
      · rw [hr] at z; cases z
    · exact r.sep i j b oi oj ij f1 f2 g3 g4
  · intro i b oi f1 f2
    rcases get_set f2 with ⟨x, y⟩ | ⟨x, f2⟩
    · subst x y
      rw [f1] at e1; cases e1
      exact ho
    · have q := r.obj i b oi f1 f2
      by_cases hb : b = a
      · subst hb
        rcases r.sep i n b oi o x f1 e1 f2 e2 with z | z
        · cases oi with
          | rol xs =>
            obtain ⟨vs, k, rv⟩ := q
            rcases k with ⟨ob, k⟩ | k
            · rw [ha] at k; cases k; exact absurd rfl (hm _ _)
            · exact ⟨vs, .inr k, rv⟩
          | _ => cases z
        · rw [hr] at z; cases z
      · cases oi with
        | rol xs =>
          obtain ⟨vs, k, rv⟩ := q
          exact ⟨vs, k.imp (fun ⟨ob, z⟩ => ⟨ob, by rw [upd_ne hb]; exact z⟩) id, rv⟩
        | _ => exact q.heap fun v z => by rw [upd_ne hb]; exact z
/-- slots -/
def SR (T : Tab) (m : List Addr) : PSt → L2.St → Prop := Paired fun p v => match p, v with
  | some p, some v => RV T m p v
  | none, _ => True
  | _, none => False
theorem SR.ext {T : Tab} {m m' : List Addr} (h : m <+: m') {ps : PSt} {σ : L2.St} (r : SR T m ps σ) : SR T m' ps σ := Paired.imp (fun a b z => by
  cases a with
  | none => trivial
  | some p => cases b with
    | none => exact z
    | some v => exact RV.ext h z) r
theorem SR.length {T : Tab} {m : List Addr} {ps : PSt} {σ : L2.St} (r : SR T m ps σ) : ps.length = σ.length := Paired.length r
theorem SR.get {T : Tab} {m : List Addr} : ∀ {ps : PSt} {σ : L2.St} {i : Nat} {p : PV}, SR T m ps σ → ps[i]? = some (some p) → ∃ v, σ[i]? = some (some v) ∧ RV T m p v
  | _, _, _, _, .nil, e => by simp at e
  | _, _, 0, p, .cons (b := b) r _, e => by
    simp at e; subst e
    cases b with
    | none => exact r.elim
    | some v => exact ⟨v, rfl, r⟩
  | _, _, i + 1, p, .cons _ t, e => by
    obtain ⟨v, h1, h2⟩ := SR.get (i := i) (p := p) t (by simpa using e)
    exact ⟨v, by simpa using h1, h2⟩
theorem SR.set {T : Tab} {m : List Addr} {p : PV} {v : V} (r : RV T m p v) : ∀ {ps : PSt} {σ : L2.St} (i : Nat), SR T m ps σ → SR T m (ps.set i (some p)) (σ.set i (some v))
  | _, _, _, .nil => .nil
  | _, _, 0, .cons _ t => .cons r t
  | _, _, i + 1, .cons q t => .cons q (SR.set r i t)
theorem SR.clr {T : Tab} {m : List Addr} : ∀ {ps : PSt} {σ : L2.St} (i : Nat) (o : Option V), SR T m ps σ → SR T m (ps.set i none) (σ.set i o)
  | _, _, _, _, .nil => .nil
  | _, _, 0, _, .cons _ t => .cons trivial t
  | _, _, i + 1, o, .cons q t => .cons q (SR.clr i o t)
theorem SR.start {T : Tab} {m : List Addr} : ∀ {ps : List PV} {vs : List V} (k : Nat), RVs T m ps vs → SR T m (ps.map some ++ List.replicate k none) (vs.map some ++ List.replicate k none)
  | _, _, 0, .nil => .nil
  | _, _, k + 1, .nil => .cons trivial (SR.start (ps := []) (vs := []) k .nil)
  | _, _, k, .cons r t => .cons r (SR.start k t)
end Fw
set_option Elab.async false
set_option linter.all false
set_option maxRecDepth 100000
set_option maxHeartbeats 1000000
/-! Fw2: a small language with slots, and what must hold ahead of a piece of it. -/
namespace Fw
open PySem

/-- built-in functions, types and methods -/
inductive Prm where
  | len | int | str | tuple | list | max | min | sum | maxl | sorted | isi
  | append | pop | popAt | indexL | reverse | join | indexS | split | find2 | replace | bitlen | getD | lrev
  deriving DecidableEq

mutual
inductive IE where
  | var (i : Nat)
  | cst (v : PV)
  | bin (op : Operator) (a b : IE)
  | neg (a : IE)
  | cmp (op : CmpOp) (a b : IE)
  | chn (op op' : CmpOp) (a b c : IE)
  | and (a b : IE)
  | or (a b : IE)
  | not (a : IE)
  | call (f : Nat) (as : List IE)
  | make (c : Nat) (as : List IE)
  | meth (m : Nat) (a : IE) (as : List IE)
  | prm (p : Prm) (as : List IE)
  | mtd (p : Prm) (a : IE) (as : List IE)
  | idx (a i : IE)
  | slc (a : IE) (lo hi : Option IE)
  | fld (a : IE) (f : Nat)
  | lst (as : List IE)
  | tup (as : List IE)
  | dct (kvs : List IE)
  | comp (el : IE) (g : IG) (it : II) (t : List IT) (own : List Nat)
inductive IT where
  | tru (a : IE)
  | and (a b : IT)
  | or (a b : IT)
  | not (a : IT)
inductive II where
  | seq (a : IE)
  | rng1 (a : IE)
  | rng2 (a b : IE)
  | rng3 (a b c : IE)
  | enum (a : IE)
  | zip (a b : IE)
  | rev (a : IE)
inductive IG where
  | name (i : Nat)
  | names (is : List Nat)
  | sub (o i : IE)
  | fld (o : IE) (f : Nat)
end
inductive IS where
  | asg (g : IG) (e : IE)
  | par (i j : Nat) (a b : IE)
  | aug (i : Nat) (op : Operator) (e : IE)
  | augS (o i : IE) (op : Operator) (e : IE)
  | augF (o : IE) (f : Nat) (op : Operator) (e : IE)
  | exp (e : IE)
  | ret (e : IE)
  | ite (t : IT) (a b : List IS)
  | whl (t : IT) (b : List IS)
  | for_ (g : IG) (it : II) (b : List IS)
  | brk | cont | skip
  | raise (c : Nat) (as : List IE)
  | try_ (b : List IS) (cs : List Nat) (v : Option Nat) (h : List IS)

/-- an exception: its class, the place of its own dict -/
structure PX where
  c : Nat
  d : Option Nat
  deriving DecidableEq

/-- what the program has: its constants, a class's methods, its __init__, isinstance between classes -/
structure Pg where
  kt : List PO
  meth : Nat → Nat → Option Nat
  ini : Nat → Option Nat
  sub : Nat → Nat → Bool

abbrev CSem := Nat → List PV → PH → (PV → PH → Prop) → (PX → PH → Prop) → Prop

/-! ### values -/
def PO.seq? : PO → Option (List PV)
  | .lst xs => some xs
  | .rol xs => some xs
  | .tup xs => some xs
  | _ => none
def deref (G : Pg) (h : PH) : PV → Option PO
  | .loc n => h[n]?
  | .kon n => G.kt[n]?
  | _ => none
def lstOf (G : Pg) (h : PH) (v : PV) : Option (List PV) := match deref G h v with
  | some (.lst xs) => some xs
  | some (.rol xs) => some xs
  | _ => none
def tupOf (G : Pg) (h : PH) (v : PV) : Option (List PV) := match deref G h v with
  | some (.tup xs) => some xs
  | _ => none
def seqOf (G : Pg) (h : PH) (v : PV) : Option (List PV) := match deref G h v with
  | some (.lst xs) => some xs
  | some (.rol xs) => some xs
  | some (.tup xs) => some xs
  | _ => none
/-- the data that stands at a value -/
def dataOf (G : Pg) (h : PH) : Nat → PV → Option PyData
  | _, .non => some .none
  | _, .bl b => some (.bool b)
  | _, .int i => some (.int i)
  | _, .str l => some (.str (sOf l))
  | k + 1, v => match deref G h v with
    | some (.lst xs) => (xs.mapM (dataOf G h k)).map .list
    | some (.rol xs) => (xs.mapM (dataOf G h k)).map .list
    | some (.tup xs) => (xs.mapM (dataOf G h k)).map .tuple
    | _ => none
  | _, _ => none
def scalP : PV → Bool
  | .non | .bl _ | .int _ | .str _ => true
  | _ => false
/-- equality of things without objects -/
def eqS : PV → PV → Bool
  | .non, .non => true
  | .bl a, .bl b => a == b
  | .bl a, .int b => (if a then 1 else 0) == b
  | .int a, .bl b => a == (if b then 1 else 0)
  | .int a, .int b => decide (a = b)
  | .str a, .str b => decide (a = b)
  | _, _ => false
def eqP (G : Pg) (h : PH) (x y : PV) : Option Bool :=
  if scalP x && scalP y then some (eqS x y) else
    match dataOf G h 60 x, dataOf G h 60 y with
    | some d, some e => if SeqAt.shaped d && SeqAt.shaped e then some (PyData.eqv d e) else none
    | _, _ => none
def truP (G : Pg) (h : PH) : PV → Option Bool
  | .non => some false
  | .bl b => some b
  | .int i => some (decide (i ≠ 0))
  | .str l => if l.length ≤ sizeLine then some (!l.isEmpty) else none
  | .loc n => match h[n]? with
    | some (.lst xs) => some (!xs.isEmpty)
    | some (.rol xs) => some (!xs.isEmpty)
    | some (.tup xs) => some (!xs.isEmpty)
    | some (.dct kvs) => some (!kvs.isEmpty)
    | _ => none
  | .kon n => match G.kt[n]? with
    | some (.tup xs) => some (!xs.isEmpty)
    | _ => none
  | _ => none
def ixP {α : Type} (xs : List α) (i : Int) : Option α := L2.atI xs i
def cutP {α : Type} (xs : List α) (lo hi : Option Int) : List α := (xs.drop (HT.sIx xs.length 0 lo)).take (HT.sIx xs.length xs.length hi - HT.sIx xs.length 0 lo)

/-- a text within a text; one of one sign -/
def inS (a b : List Nat) : Bool := match a with
  | [c] => decide (c ∈ b)
  | _ => !(Builtin.Str.occurrences (sOf b) (sOf a) 0 b.length 1).isEmpty

abbrev R2' := Option (PV × PH)
def binV (G : Pg) (op : Operator) (x y : PV) (h : PH) : R2' := match op, x, y with
  | .Add, .int a, .int b => some (.int (a + b), h)
  | .Add, .str a, .str b => if a.length + b.length ≤ sizeLine then some (.str (a ++ b), h) else none
  | .Add, .loc a, .loc b => match h[a]?, h[b]? with
    | some (.lst xs), some (.lst ys) => if xs.length + ys.length ≤ sizeLine then some (.loc h.length, h ++ [.lst (xs ++ ys)]) else none
    | some (.tup xs), some (.tup ys) => if xs ≠ [] ∧ ys ≠ [] ∧ xs.length + ys.length ≤ sizeLine then some (.loc h.length, h ++ [.tup (xs ++ ys)]) else none
    | _, _ => none
  | .Sub, .int a, .int b => some (.int (a - b), h)
  | .Mult, .int a, .int b => if a.natAbs.log2 + b.natAbs.log2 < 1000000 then some (.int (a * b), h) else none
  | .Mult, .loc a, .int k => match h[a]? with
    | some (.lst xs) => if -(2 ^ 63) ≤ k ∧ k < 2 ^ 63 ∧ xs.length * k.toNat ≤ sizeLine then some (.loc h.length, h ++ [.lst (List.replicate k.toNat xs).flatten]) else none
    | _ => none
  | .Mult, .str l, .int k => if 0 ≤ k ∧ k < 2 ^ 62 ∧ l.length * k.toNat ≤ 16777216 then some (.str (List.replicate k.toNat l).flatten, h) else none
  | .FloorDiv, .int a, .int b => if b ≠ 0 ∧ b.natAbs.log2 < 9000 then some (.int (a.fdiv b), h) else none
  | .Mod, .int a, .int b => if b ≠ 0 then some (.int (a.fmod b), h) else none
  | .Pow, .int a, .int b => if 0 ≤ b ∧ b ≤ 1000000 ∧ a.natAbs < 2 ^ 64 then some (.int (a ^ b.toNat), h) else none
  | .LShift, .int a, .int b => if 0 ≤ b ∧ b ≤ 1000000 ∧ a.natAbs < 2 ^ 64 then some (.int (a * 2 ^ b.toNat), h) else none
  | .RShift, .int a, .int b => if 0 ≤ b then some (.int (a / 2 ^ b.toNat), h) else none
  | .BitAnd, .int a, .int b => some (.int (Builtin.bitAnd a b), h)
  | _, _, _ => none
def flatP : PV → Bool
  | .non | .bl _ | .int _ | .str _ => true
  | _ => false
def cmpV (G : Pg) (op : CmpOp) (x y : PV) (h : PH) : Option Bool := match op, x, y with
  | .Eq, x, y => eqP G h x y
  | .NotEq, x, y => (eqP G h x y).map (!·)
  | .Lt, .int a, .int b => some (decide (a < b))
  | .LtE, .int a, .int b => some (decide (a ≤ b))
  | .Gt, .int a, .int b => some (decide (b < a))
  | .GtE, .int a, .int b => some (decide (b ≤ a))
  | .Is, x, .non => some (decide (x = .non))
  | .IsNot, x, .non => some (!decide (x = .non))
  | .Is, .bl a, .bl b => some (decide (a = b))
  | .IsNot, .bl a, .bl b => some (!decide (a = b))
  | .In, .str a, .str b => some (inS a b)
  | .NotIn, .str a, .str b => some (!inS a b)
  | .In, x, y => match seqOf G h y with
    | some xs => if flatP x && xs.all flatP then some (xs.any fun z => eqS z x) else none
    | none => none
  | .NotIn, x, y => match seqOf G h y with
    | some xs => if flatP x && xs.all flatP then some (!(xs.any fun z => eqS z x)) else none
    | none => none
  | _, _, _ => none
def strI (i : Int) : List Nat := (toString i).toList.map Char.toNat
/-- the type's name of a value -/
def tyP (G : Pg) (h : PH) (x : PV) : Option String := match x with
  | .non => some "NoneType"
  | .bl _ => some "bool"
  | .int _ => some "int"
  | .str _ => some "str"
  | v => match deref G h v with
    | some (.lst _) => some "list"
    | some (.rol _) => some "list"
    | some (.tup _) => some "tuple"
    | some (.dct _) => match v with
      | .loc _ => some "dict"
      | _ => none
    | _ => none
def isiP (G : Pg) (h : PH) (x : PV) (t : String) : Option Bool := (tyP G h x).bind fun a => L2.kitB a t
def intsOf : List PV → Option (List Int)
  | [] => some []
  | .int i :: r => (intsOf r).map (i :: ·)
  | _ :: _ => none
def maxP : List Int → Option Int
  | [] => none
  | a :: r => match maxP r with
    | none => some a
    | some b => some (max a b)
def strsOf : List PV → Option (List (List Nat))
  | [] => some []
  | .str l :: r => (strsOf r).map (l :: ·)
  | _ :: _ => none
def joinL (a : List Nat) : List (List Nat) → List Nat
  | [] => []
  | [x] => x
  | x :: r => x ++ a ++ joinL a r
def lenV (G : Pg) (vs : List PV) (h : PH) : R2' := match vs with
  | [.str l] => if l.length ≤ sizeLine then some (.int l.length, h) else none
  | [v] => (seqOf G h v).map fun xs => (.int xs.length, h)
  | _ => none
def intV (vs : List PV) (h : PH) : R2' := match vs with
  | [.int i] => some (.int i, h)
  | [.bl b] => some (.int (if b then 1 else 0), h)
  | [.str l] => if l.length ≤ 640 then (PySem.intText? (sOf l)).map fun n => (.int n, h) else none
  | _ => none
def strV (vs : List PV) (h : PH) : R2' := match vs with
  | [.int i] => if i.natAbs.log2 < 1920 then some (.str (strI i), h) else none
  | _ => none
def tupleV (G : Pg) (vs : List PV) (h : PH) : R2' := match vs with
  | [v] => match lstOf G h v with
    | some xs => some (.loc h.length, h ++ [.tup xs])
    | none => (tupOf G h v).map fun _ => (v, h)
  | _ => none
def listV (G : Pg) (vs : List PV) (h : PH) : R2' := match vs with
  | [v] => (seqOf G h v).map fun xs => (.loc h.length, h ++ [.lst xs])
  | _ => none
def maxV (vs : List PV) (h : PH) : R2' := match vs with
  | [.int a, .int b] => some (.int (max a b), h)
  | [.int a, .int b, .int c] => some (.int (max (max a b) c), h)
  | [.int a, .int b, .int c, .int d] => some (.int (max (max (max a b) c) d), h)
  | _ => none
def minV (vs : List PV) (h : PH) : R2' := match vs with
  | [.int a, .int b] => some (.int (min a b), h)
  | _ => none
def sumV (G : Pg) (vs : List PV) (h : PH) : R2' := match vs with
  | [v] => ((lstOf G h v).bind intsOf).map fun ns => (.int ns.sum, h)
  | _ => none
def maxlV (G : Pg) (vs : List PV) (h : PH) : R2' := match vs with
  | [v] => (((lstOf G h v).bind intsOf).bind maxP).map fun i => (.int i, h)
  | _ => none
/-- one of these types -/
def isiAny (G : Pg) (h : PH) (x : PV) : List PV → Option Bool
  | [] => some false
  | .ty t :: r => match isiP G h x t with
    | some true => some true
    | some false => isiAny G h x r
    | none => none
  | _ :: _ => none
def isiV (G : Pg) (vs : List PV) (h : PH) : R2' := match vs with
  | [x, .ty t] => (isiP G h x t).map fun b => (.bl b, h)
  | [x, .loc n] => match h[n]? with
    | some (.tup ts) => if ts.all (fun t => match t with | .ty _ => true | _ => false) && (tyP G h x).isSome then (isiAny G h x ts).map fun b => (.bl b, h) else none
    | _ => none
  | _ => none
def appendV (vs : List PV) (h : PH) : R2' := match vs with
  | [.loc n, y] => match h[n]? with
    | some (.lst xs) => if xs.length < sizeLine then some (.non, h.set n (.lst (xs ++ [y]))) else none
    | _ => none
  | _ => none
def popV (vs : List PV) (h : PH) : R2' := match vs with
  | [.loc n] => match h[n]? with
    | some (.lst xs) => xs[xs.length - 1]?.map fun y => (y, h.set n (.lst xs.dropLast))
    | _ => none
  | _ => none
def reverseV (vs : List PV) (h : PH) : R2' := match vs with
  | [.loc n] => match h[n]? with
    | some (.lst xs) => some (.non, h.set n (.lst xs.reverse))
    | _ => none
  | _ => none
def joinV (G : Pg) (vs : List PV) (h : PH) : R2' := match vs with
  | [.str a, v] => match (seqOf G h v).bind strsOf with
    | some ys => if (ys.map (·.length)).sum + ys.length * a.length ≤ 16777216 then some (.str (joinL a ys), h) else none
    | none => none
  | _ => none
def bitlenV (vs : List PV) (h : PH) : R2' := match vs with
  | [.int i] => some (.int (Builtin.Int.intBits i : Nat), h)
  | _ => none
def indexV (G : Pg) (vs : List PV) (h : PH) : R2' := match vs with
  | [.str a, .str b] => match Builtin.Str.occurrences (sOf a) (sOf b) 0 a.length 1 with
    | i :: _ => some (.int (i : Nat), h)
    | [] => none
  | [v, y] => match lstOf G h v with
    | some xs => if flatP y && xs.all flatP then (xs.findIdx? fun z => eqS z y).map fun j => (.int (j : Nat), h) else none
    | none => none
  | _ => none
def findV (vs : List PV) (h : PH) : R2' := match vs with
  | [.str a, .str b, .int i] => some (.int (Txt.find3 (sOf a) (sOf b) i), h)
  | _ => none
def lrevV (G : Pg) (vs : List PV) (h : PH) : R2' := match vs with
  | [v] => (lstOf G h v).map fun xs => (.loc h.length, h ++ [.lst xs.reverse])
  | _ => none
def prmV (G : Pg) (p : Prm) (vs : List PV) (h : PH) : R2' := match p with
  | .len => lenV G vs h
  | .int => intV vs h
  | .str => strV vs h
  | .tuple => tupleV G vs h
  | .list => listV G vs h
  | .max => maxV vs h
  | .min => minV vs h
  | .sum => sumV G vs h
  | .maxl => maxlV G vs h
  | .isi => isiV G vs h
  | .append => appendV vs h
  | .pop => popV vs h
  | .reverse => reverseV vs h
  | .join => joinV G vs h
  | .bitlen => bitlenV vs h
  | .indexL => indexV G vs h
  | .find2 => findV vs h
  | .lrev => lrevV G vs h
  | _ => none

/-- what has such a method -/
def mtyP (G : Pg) (p : Prm) (x : PV) (h : PH) : Bool := match p with
  | .append | .pop | .popAt | .reverse => (lstOf G h x).isSome
  | .indexL => match x with
    | .str _ => true
    | v => (lstOf G h v).isSome
  | .join | .split | .find2 | .replace => match x with
    | .str _ => true
    | _ => false
  | .bitlen => match x with
    | .int _ => true
    | _ => false
  | _ => false
/-! ### what must hold ahead -/
inductive Item where
  | val (v : PV)
  | tup (vs : List PV)
def Item.v (h : PH) : Item → PV
  | .val v => v
  | .tup _ => .loc h.length
def Item.h (h : PH) : Item → PH
  | .val _ => h
  | .tup vs => h ++ [.tup vs]
structure Walk where
  chk : PH → Prop
  its : List Item
structure PEnds where
  nx : PSt → PH → Prop
  rt : PV → PH → Prop
  bk : PSt → PH → Prop := fun _ _ => False
  ct : PSt → PH → Prop := fun _ _ => False
def setAll (σ : PSt) : List Nat → List PV → PSt
  | i :: is, x :: xs => setAll (σ.set i (some x)) is xs
  | _, _ => σ
def wipeP (σ : PSt) : List Nat → PSt
  | [] => σ
  | v :: vs => (wipeP σ vs).set v none
/-- lo, lo + c, .. : n of them -/
def rngL (lo c : Int) (n : Nat) : List Item := (List.range n).map fun i => .val (.int (lo + (i : Nat) * c))
def wpFor (tg : PV → PSt → PH → (PSt → PH → Prop) → Prop) (body : PEnds → PSt → PH → Prop) (D : PEnds) (chk : PH → Prop) : List Item → PSt → PH → Prop
  | [], σ, h => chk h ∧ D.nx σ h
  | x :: r, σ, h => chk h ∧ tg (x.v h) σ (x.h h) fun σ2 h2 => body { nx := wpFor tg body D chk r, ct := wpFor tg body D chk r, bk := D.nx, rt := D.rt } σ2 h2
def wpLc (tg : PV → PSt → PH → (PSt → PH → Prop) → Prop) (tst : PSt → PH → (Bool → PH → Prop) → Prop) (el : PSt → PH → (PV → PH → Prop) → Prop) (σ0 : PSt) (d : Nat) (Q : PV → PH → Prop) (chk : PH → Prop) : List Item → PH → Prop
  | [], h => chk h ∧ Q (.loc d) h
  | x :: r, h => chk h ∧ tg (x.v h) σ0 (x.h h) fun σ2 h2 => tst σ2 h2 fun b h3 =>
      if b = true then el σ2 h3 fun y h4 => ∃ acc, h4[d]? = some (.lst acc) ∧ acc.length < sizeLine ∧ wpLc tg tst el σ0 d Q chk r (h4.set d (.lst (acc ++ [y]))) else wpLc tg tst el σ0 d Q chk r h3
def rngOf : List PV → Option (Int × Int × Nat)
  | [.int j] => if -(2 ^ 62) ≤ j ∧ j < 2 ^ 62 then some (0, 1, j.toNat) else none
  | [.int i, .int j] => if -(2 ^ 62) ≤ i ∧ i < 2 ^ 62 ∧ -(2 ^ 62) ≤ j ∧ j < 2 ^ 62 then some (i, 1, (j - i).toNat) else none
  | [.int i, .int j, .int c] => if c ≠ 0 ∧ c.natAbs < 1073741824 ∧ Builtin.Range.small i j c = true ∧ 0 ≤ Builtin.Range.rangeSize i j c then some (i, c, (Builtin.Range.rangeSize i j c).toNat) else none
  | _ => none
def enumL (xs : List PV) : List Item := xs.zipIdx.map fun p => .tup [.int (p.2 : Nat), p.1]
def zipL (xs ys : List PV) : List Item := (xs.zip ys).map fun p => .tup [p.1, p.2]
def putFP (f : Nat) (v : PV) : List (Nat × PV) → List (Nat × PV)
  | [] => [(f, v)]
  | (g, w) :: r => if g = f then (f, v) :: r else (g, w) :: putFP f v r
/-- o[i] = v -/
def setP (o i v : PV) (h : PH) : Option PH := match o, i with
  | .loc n, .int k => match h[n]? with
    | some (.lst xs) => (L2.ixN xs.length k).map fun j => h.set n (.lst (xs.set j v))
    | _ => none
  | _, _ => none
def fldP (G : Pg) (h : PH) (v : PV) (f : Nat) : Option PV := match v with
  | .loc n => match h[n]? with
    | some (.ins _ fs) => fs.lookup f
    | _ => none
  | _ => none
def setF (v : PV) (f : Nat) (y : PV) (h : PH) : Option PH := match v with
  | .loc n => match h[n]? with
    | some (.ins c fs) => if fs.length < 1000 then some (h.set n (.ins c (putFP f y fs))) else none
    | _ => none
  | _ => none
def idxP (G : Pg) (h : PH) (x i : PV) : Option PV := match i with
  | .int k => match x with
    | .str l => if l.length ≤ sizeLine then (L2.atI l k).map fun c => .str [c] else none
    | v => match seqOf G h v with
      | some xs => L2.atI xs k
      | none => none
  | _ => none
/-- of a list alone -/
def idxL (G : Pg) (h : PH) (x i : PV) : Option PV := match i with
  | .int k => match lstOf G h x with
    | some xs => L2.atI xs k
    | none => none
  | _ => none
def partP : Option PV → Option (Option Int)
  | none => some none
  | some (.int i) => some (some i)
  | _ => none
def slcV (G : Pg) (x : PV) (a b : Option Int) (h : PH) : R2' := match x with
  | .str l => if l.length ≤ sizeLine then some (.str (cutP l a b), h) else none
  | v => match lstOf G h v with
    | some xs => some (.loc h.length, h ++ [.lst (cutP xs a b)])
    | none => match tupOf G h v with
      | some xs => if HT.sIx xs.length 0 a = 0 ∧ HT.sIx xs.length xs.length b = xs.length then some (v, h) else some (.loc h.length, h ++ [.tup (cutP xs a b)])
      | none => none

section
variable (G : Pg) (cl cm : CSem)
mutual
def wpE (E : PX → PH → Prop) : IE → PSt → PH → (PV → PH → Prop) → Prop
  | .var i, σ, h, Q => ∃ v, σ[i]? = some (some v) ∧ Q v h
  | .cst v, _, h, Q => Q v h
  | .bin op a b, σ, h, Q => wpE E a σ h fun x h1 => wpE E b σ h1 fun y h2 => ∃ r, binV G op x y h2 = some r ∧ Q r.1 r.2
  | .neg a, σ, h, Q => wpE E a σ h fun x h1 => ∃ i, x = .int i ∧ Q (.int (-i)) h1
  | .cmp op a b, σ, h, Q => wpE E a σ h fun x h1 => wpE E b σ h1 fun y h2 => ∃ r, cmpV G op x y h2 = some r ∧ Q (.bl r) h2
  | .chn op op' a b c, σ, h, Q => wpE E a σ h fun x h1 => wpE E b σ h1 fun y h2 => ∃ r, cmpV G op x y h2 = some r ∧
      if r = true then wpE E c σ h2 fun z h3 => ∃ r', cmpV G op' y z h3 = some r' ∧ Q (.bl r') h3 else Q (.bl false) h2
  | .and a b, σ, h, Q => wpE E a σ h fun x h1 => ∃ c, truP G h1 x = some c ∧ if c = true then wpE E b σ h1 Q else Q x h1
  | .or a b, σ, h, Q => wpE E a σ h fun x h1 => ∃ c, truP G h1 x = some c ∧ if c = true then Q x h1 else wpE E b σ h1 Q
  | .not a, σ, h, Q => wpE E a σ h fun x h1 => ∃ c, truP G h1 x = some c ∧ Q (.bl (!c)) h1
  | .call f as, σ, h, Q => wpEs E as σ h fun vs h1 => cl f vs h1 Q E
  | .make c as, σ, h, Q => wpEs E as σ h fun vs h1 => ∃ f, G.ini c = some f ∧ cm f (.loc h1.length :: vs) (h1 ++ [.ins c []]) (fun v h2 => v = .non ∧ Q (.loc h1.length) h2) E
  | .meth m a as, σ, h, Q => wpE E a σ h fun x h1 => ∃ n c fs f, x = .loc n ∧ h1[n]? = some (.ins c fs) ∧ fs.lookup m = none ∧ G.meth c m = some f ∧ wpEs E as σ h1 fun vs h2 => cl f (x :: vs) h2 Q E
  | .prm p as, σ, h, Q => wpEs E as σ h fun vs h1 => ∃ r, prmV G p vs h1 = some r ∧ Q r.1 r.2
  | .mtd p a as, σ, h, Q => wpE E a σ h fun x h1 => mtyP G p x h1 = true ∧ wpEs E as σ h1 fun vs h2 => ∃ r, prmV G p (x :: vs) h2 = some r ∧ Q r.1 r.2
  | .idx a i, σ, h, Q => wpE E a σ h fun x h1 => wpE E i σ h1 fun y h2 => ∃ v, idxP G h2 x y = some v ∧ Q v h2
  | .slc a lo hi, σ, h, Q => wpE E a σ h fun x h1 => wpO E lo σ h1 fun l h2 => ∃ lo', partP l = some lo' ∧ wpO E hi σ h2 fun u h3 => ∃ hi', partP u = some hi' ∧ ∃ r, slcV G x lo' hi' h3 = some r ∧ Q r.1 r.2
  | .fld a f, σ, h, Q => wpE E a σ h fun x h1 => ∃ v, fldP G h1 x f = some v ∧ Q v h1
  | .lst as, σ, h, Q => wpEs E as σ h fun vs h1 => vs.length ≤ sizeLine ∧ Q (.loc h1.length) (h1 ++ [.lst vs])
  | .tup as, σ, h, Q => wpEs E as σ h fun vs h1 => vs.length ≤ sizeLine ∧ Q (.loc h1.length) (h1 ++ [.tup vs])
  | .dct as, σ, h, Q => False
  | .comp el g it t own, σ, h, Q => wpI E it σ h fun W h1 =>
      wpLc (wpG (fun _ _ => False) g) (wpTs (fun _ _ => False) t) (wpE (fun _ _ => False) el) (wipeP σ own) h1.length Q W.chk W.its (h1 ++ [.lst []])
def wpEs (E : PX → PH → Prop) : List IE → PSt → PH → (List PV → PH → Prop) → Prop
  | [], _, h, Q => Q [] h
  | a :: r, σ, h, Q => wpE E a σ h fun x h1 => wpEs E r σ h1 fun xs h2 => Q (x :: xs) h2
def wpO (E : PX → PH → Prop) : Option IE → PSt → PH → (Option PV → PH → Prop) → Prop
  | none, _, h, Q => Q none h
  | some a, σ, h, Q => wpE E a σ h fun x h1 => Q (some x) h1
def wpT (E : PX → PH → Prop) : IT → PSt → PH → (Bool → PH → Prop) → Prop
  | .tru a, σ, h, Q => wpE E a σ h fun x h1 => ∃ c, truP G h1 x = some c ∧ Q c h1
  | .and a b, σ, h, Q => wpT E a σ h fun c h1 => if c = true then wpT E b σ h1 Q else Q false h1
  | .or a b, σ, h, Q => wpT E a σ h fun c h1 => if c = true then Q true h1 else wpT E b σ h1 Q
  | .not a, σ, h, Q => wpT E a σ h fun c h1 => Q (!c) h1
def wpTs (E : PX → PH → Prop) : List IT → PSt → PH → (Bool → PH → Prop) → Prop
  | [], _, h, Q => Q true h
  | t :: _, σ, h, Q => wpT E t σ h Q
def wpI (E : PX → PH → Prop) : II → PSt → PH → (Walk → PH → Prop) → Prop
  | .seq a, σ, h, R => wpE E a σ h fun x h1 => match x with
    | .str l => R ⟨fun _ => True, l.map fun c => .val (.str [c])⟩ h1
    | v => ∃ o xs, deref G h1 v = some o ∧ o.seq? = some xs ∧ R ⟨fun h' => deref G h' v = some o, xs.map .val⟩ h1
  | .rng1 a, σ, h, R => wpE E a σ h fun x h1 => ∃ r, rngOf [x] = some r ∧ R ⟨fun _ => True, rngL r.1 r.2.1 r.2.2⟩ h1
  | .rng2 a b, σ, h, R => wpE E a σ h fun x h1 => wpE E b σ h1 fun y h2 => ∃ r, rngOf [x, y] = some r ∧ R ⟨fun _ => True, rngL r.1 r.2.1 r.2.2⟩ h2
  | .rng3 a b c, σ, h, R => wpE E a σ h fun x h1 => wpE E b σ h1 fun y h2 => wpE E c σ h2 fun z h3 => ∃ r, rngOf [x, y, z] = some r ∧ R ⟨fun _ => True, rngL r.1 r.2.1 r.2.2⟩ h3
  | .enum a, σ, h, R => wpE E a σ h fun x h1 => match x with
    | .str l => R ⟨fun _ => True, enumL (l.map fun c => .str [c])⟩ h1
    | v => ∃ o xs, deref G h1 v = some o ∧ o.seq? = some xs ∧ R ⟨fun h' => deref G h' v = some o, enumL xs⟩ h1
  | .zip a b, σ, h, R => wpE E a σ h fun v h1 => wpE E b σ h1 fun u h2 => ∃ xs ys, lstOf G h2 v = some xs ∧ lstOf G h2 u = some ys ∧
      R ⟨fun h' => lstOf G h' v = some xs ∧ lstOf G h' u = some ys, zipL xs ys⟩ h2
  | .rev a, σ, h, R => wpE E a σ h fun v h1 => ∃ xs, lstOf G h1 v = some xs ∧ R ⟨fun h' => lstOf G h' v = some xs, xs.reverse.map .val⟩ h1
def wpG (E : PX → PH → Prop) : IG → PV → PSt → PH → (PSt → PH → Prop) → Prop
  | .name i, v, σ, h, Q => Q (σ.set i (some v)) h
  | .names is, v, σ, h, Q => ∃ xs, seqOf G h v = some xs ∧ xs.length = is.length ∧ Q (setAll σ is xs) h
  | .sub o i, v, σ, h, Q => wpE E o σ h fun x h1 => wpE E i σ h1 fun y h2 => ∃ h3, setP x y v h2 = some h3 ∧ Q σ h3
  | .fld o f, v, σ, h, Q => wpE E o σ h fun x h1 => ∃ h2, setF x f v h1 = some h2 ∧ Q σ h2
end
def iopV (op : Operator) (x y : PV) (h : PH) : R2' := match op, x, y with
  | .Add, .int a, .int b => some (.int (a + b), h)
  | .Add, .str a, .str b => if a.length + b.length ≤ sizeLine then some (.str (a ++ b), h) else none
  | .Sub, .int a, .int b => some (.int (a - b), h)
  | .Mult, .int a, .int b => if a.natAbs.log2 + b.natAbs.log2 < 1000000 then some (.int (a * b), h) else none
  | _, _, _ => none
mutual
def wpSt (E : PX → PSt → PH → Prop) : IS → PEnds → PSt → PH → Prop
  | .asg g e, D, σ, h => wpE G cl cm (fun x => E x σ) e σ h fun v h1 => wpG G cl cm (fun x => E x σ) g v σ h1 D.nx
  | .par i j a b, D, σ, h => wpE G cl cm (fun x => E x σ) a σ h fun v h1 => wpE G cl cm (fun x => E x σ) b σ h1 fun w h2 => D.nx ((σ.set i (some v)).set j (some w)) h2
  | .aug i op e, D, σ, h => ∃ x, σ[i]? = some (some x) ∧ wpE G cl cm (fun x => E x σ) e σ h fun y h1 => ∃ r, iopV op x y h1 = some r ∧ D.nx (σ.set i (some r.1)) r.2
  | .augS o i op e, D, σ, h => wpE G cl cm (fun x => E x σ) o σ h fun x h1 => wpE G cl cm (fun x => E x σ) i σ h1 fun k h2 => ∃ v, idxL G h2 x k = some v ∧
      wpE G cl cm (fun x => E x σ) e σ h2 fun y h3 => ∃ r, iopV op v y h3 = some r ∧ ∃ h4, setP x k r.1 r.2 = some h4 ∧ D.nx σ h4
  | .augF o f op e, D, σ, h => wpE G cl cm (fun x => E x σ) o σ h fun x h1 => ∃ v, fldP G h1 x f = some v ∧
      wpE G cl cm (fun x => E x σ) e σ h1 fun y h2 => ∃ r, iopV op v y h2 = some r ∧ ∃ h3, setF x f r.1 r.2 = some h3 ∧ D.nx σ h3
  | .exp e, D, σ, h => wpE G cl cm (fun x => E x σ) e σ h fun _ h1 => D.nx σ h1
  | .ret e, D, σ, h => wpE G cl cm (fun x => E x σ) e σ h D.rt
  | .ite t a b, D, σ, h => wpT G cl cm (fun x => E x σ) t σ h fun c h1 => if c = true then wpSs E a D σ h1 else wpSs E b D σ h1
  | .whl t b, D, σ, h => ∃ W : Nat → PSt → PH → Prop, (∃ m, W m σ h) ∧ ∀ m σ h, W m σ h → wpT G cl cm (fun x => E x σ) t σ h fun c h1 =>
      if c = true then wpSs E b { D with nx := fun σ' h' => ∃ m', m' < m ∧ W m' σ' h', ct := fun σ' h' => ∃ m', m' < m ∧ W m' σ' h', bk := D.nx } σ h1 else D.nx σ h1
  | .for_ g it b, D, σ, h => wpI G cl cm (fun x => E x σ) it σ h fun W h1 => wpFor (fun v σ h Q => wpG G cl cm (fun x => E x σ) g v σ h Q) (fun D σ h => wpSs E b D σ h) D W.chk W.its σ h1
  | .brk, D, σ, h => D.bk σ h
  | .cont, D, σ, h => D.ct σ h
  | .skip, D, σ, h => D.nx σ h
  | .raise _ _, _, _, _ => False
  | .try_ _ _ _ _, _, _, _ => False
def wpSs (E : PX → PSt → PH → Prop) : List IS → PEnds → PSt → PH → Prop
  | [], D, σ, h => D.nx σ h
  | s :: r, D, σ, h => wpSt E s { D with nx := wpSs E r D } σ h
end
end
/-- a def: how many parameters, how many slots, its body -/
structure Fn where
  np : Nat
  ns : Nat
  body : List IS
/-- what a call is: of a def's body where calls are cl -/
def semB (G : Pg) (P : Nat → Option Fn) (cl cm : CSem) : CSem := fun f vs h Q E => ∃ F, P f = some F ∧ vs.length = F.np ∧
  wpSs G cl cm (fun x _ => E x) F.body { nx := fun _ h' => Q .non h', rt := Q } (vs.map some ++ List.replicate (F.ns - F.np) none) h
/-- k levels deep, and one level less -/
def sem2 (G : Pg) (P : Nat → Option Fn) : Nat → CSem × CSem
  | 0 => (fun _ _ _ _ _ => False, fun _ _ _ _ _ => False)
  | k + 1 => (semB G P (sem2 G P k).1 (sem2 G P k).2, (sem2 G P k).1)
def semF (G : Pg) (P : Nat → Option Fn) (k : Nat) : CSem := (sem2 G P k).1
def semP (G : Pg) (P : Nat → Option Fn) (k : Nat) : CSem := (sem2 G P k).2
end Fw
set_option Elab.async false
set_option linter.all false
set_option maxRecDepth 100000
set_option maxHeartbeats 1000000
/-! Fw3: the operations keep what Fw2 says of them. -/
namespace Fw
open PySem PySem.Spec PyProof.Rows L2

/-- the constants of the top stand as the table tells -/
def KTup (K : PySem.W.Frag) (a : Addr) (xs : List V) : Prop :=
  ∃ (o : Obj) (its : Array Value) (n : Nat), K.lookup a = some o ∧ o.cls = .type "tuple" ∧ o.data = .seq its n ∧ its.size ≤ sizeLine ∧ Vals xs its.toList
structure KOk (T : Tab) (G : Pg) : Prop where
  kt : G.kt = T.kon.map (·.2)
  tup : ∀ (n : Nat) (a : Addr) (o : PO), T.kon[n]? = some (a, o) → (∃ xs vs, o = .tup xs ∧ KTup T.K a vs ∧ RVs T [] xs vs) ∨ ∃ kvs, o = .dct kvs

/-- what is wanted of a value and the heap behind it, told by Q over the small heap -/
def KQ (T : Tab) (m : List Addr) (Qf : PV → PH → Prop) (Q : VK) : Prop :=
  ∀ (m' : List Addr) (h' : PH) (p : PV) (v : V) (H' : Hp), m <+: m' → HR T m' h' H' → RV T m' p v → Qf p h' → Q v H'
def KR (T : Tab) (m : List Addr) (r : PV × PH) (Q : VK) : Prop :=
  ∀ (m' : List Addr) (v : V) (H' : Hp), m <+: m' → HR T m' r.2 H' → RV T m' r.1 v → Q v H'
theorem pre_refl {α : Type} {l : List α} : l <+: l := ⟨[], List.append_nil l⟩
theorem pre_trans {α : Type} {a b c : List α} (h : a <+: b) (h' : b <+: c) : a <+: c := List.IsPrefix.trans h h'
section
variable {T : Tab} {G : Pg} {m : List Addr} {h : PH} {H : Hp} {Q : VK}
theorem KR.now {p : PV} {v : V} (k : KR T m (p, h) Q) (r : HR T m h H) (rv : RV T m p v) : Q v H := k m v H pre_refl r rv
/-- a new object -/
theorem KR.new {o : PO} {u : HO} {l : Addr} (k : KR T m (.loc h.length, h ++ [o]) Q) (r : HR T m h H) (hl : H l = none) (ho : OR T (m ++ [l]) (upd H l u) l o) (hr : o.isRol = false) : Q (.ref l) (upd H l u) :=
  k (m ++ [l]) (.ref l) (upd H l u) ext_snoc (r.new hl ho hr) ⟨l, by rw [← r.len, List.getElem?_append_right (Nat.le_refl _), Nat.sub_self]; rfl, rfl⟩
theorem KR.newL {xs : List PV} {vs : List V} {l : Addr} (k : KR T m (.loc h.length, h ++ [.lst xs]) Q) (r : HR T m h H) (rv : RVs T m xs vs) (hl : H l = none) : Q (.ref l) (upd H l (.lst vs)) :=
  k.new r hl ⟨vs, upd_same, rv.ext ext_snoc⟩ rfl
theorem KR.newT {xs : List PV} {vs : List V} {l : Addr} (k : KR T m (.loc h.length, h ++ [.tup xs]) Q) (r : HR T m h H) (rv : RVs T m xs vs) (hl : H l = none) : Q (.ref l) (upd H l (.tup vs)) :=
  k.new r hl ⟨vs, upd_same, rv.ext ext_snoc⟩ rfl
/-- a list is changed -/
theorem HR.putL {n : Nat} {a : Addr} {xs xs' : List PV} {vs vs' : List V} (r : HR T m h H) (e1 : m[n]? = some a) (e2 : h[n]? = some (.lst xs)) (ha : H a = some (.lst vs)) (rv : RVs T m xs' vs') : HR T m (h.set n (.lst xs')) (upd H a (.lst vs')) :=
  r.put e1 e2 rfl rfl ha (fun _ _ z => by cases z) ⟨vs', upd_same, rv⟩
/-- which list stands at a place -/
theorem HR.lst {n : Nat} {xs : List PV} (r : HR T m h H) (e : h[n]? = some (.lst xs)) : ∃ a vs, m[n]? = some a ∧ H a = some (.lst vs) ∧ RVs T m xs vs := by
  obtain ⟨a, e1, vs, e2, rv⟩ := r.at e
  exact ⟨a, vs, e1, e2, rv⟩
theorem HR.tup {n : Nat} {xs : List PV} (r : HR T m h H) (e : h[n]? = some (.tup xs)) : ∃ a vs, m[n]? = some a ∧ H a = some (.tup vs) ∧ RVs T m xs vs := by
  obtain ⟨a, e1, vs, e2, rv⟩ := r.at e
  exact ⟨a, vs, e1, e2, rv⟩
theorem kon_get (ok : KOk T G) {n : Nat} {o : PO} (e : G.kt[n]? = some o) : ∃ a, T.kon[n]? = some (a, o) := by
  rw [ok.kt, List.getElem?_map] at e
  cases q : T.kon[n]? with
  | none => rw [q] at e; cases e
  | some p =>
    rw [q] at e
    obtain ⟨a, o'⟩ := p
    cases e
    exact ⟨a, rfl⟩
theorem RVs.nil_ext {xs : List PV} {vs : List V} (r : RVs T [] xs vs) : RVs T m xs vs := r.ext ⟨m, rfl⟩
theorem lstOf_ok (ok : KOk T G) (r : HR T m h H) {p : PV} {v : V} {xs : List PV} (rv : RV T m p v) (e : lstOf G h p = some xs) : ∃ a vs, v = .ref a ∧ SqL T.K H a vs ∧ RVs T m xs vs := by
  unfold lstOf at e
  cases p with
  | loc n =>
    obtain ⟨a, e1, rfl⟩ := rv
    simp only [deref] at e
    split at e
    · rename_i ys hy
      cases e
      have q := r.obj n a _ e1 hy
      obtain ⟨vs, e2, r2⟩ := q
      exact ⟨a, vs, rfl, .of e2, r2⟩
    · rename_i ys hy
      cases e
      have q := r.obj n a _ e1 hy
      obtain ⟨vs, e2, r2⟩ := q
      refine ⟨a, vs, rfl, ?_, r2⟩
      rcases e2 with ⟨o, e2⟩ | k
      · exact .inl (.inr ⟨o, e2⟩)
      · exact .inr k
    · cases e
  | kon n =>
    simp only [deref] at e
    split at e
    · rename_i ys hy
      obtain ⟨a, e1⟩ := kon_get ok hy
      rcases ok.tup _ _ _ e1 with ⟨_, _, z, _⟩ | ⟨_, z⟩ <;> cases z
    · rename_i ys hy
      obtain ⟨a, e1⟩ := kon_get ok hy
      rcases ok.tup _ _ _ e1 with ⟨_, _, z, _⟩ | ⟨_, z⟩ <;> cases z
    · cases e
  | _ => simp [deref] at e
theorem tupOf_ok (ok : KOk T G) (r : HR T m h H) {p : PV} {v : V} {xs : List PV} (rv : RV T m p v) (e : tupOf G h p = some xs) : ∃ a vs, v = .ref a ∧ SqT T.K H a vs ∧ RVs T m xs vs := by
  unfold tupOf at e
  cases p with
  | loc n =>
    obtain ⟨a, e1, rfl⟩ := rv
    simp only [deref] at e
    split at e
    · rename_i ys hy
      cases e
      obtain ⟨vs, e2, r2⟩ := r.obj n a _ e1 hy
      exact ⟨a, vs, rfl, .of e2, r2⟩
    · cases e
  | kon n =>
    obtain ⟨a, o, e1, rfl⟩ := rv
    simp only [deref] at e
    split at e
    · rename_i ys hy
      cases e
      obtain ⟨a', e2⟩ := kon_get ok hy
      rw [e1] at e2; cases e2
      rcases ok.tup _ _ _ e1 with ⟨xs', vs, z, k, rr⟩ | ⟨_, z⟩
      · cases z
        exact ⟨a, vs, rfl, .inr k, rr.nil_ext⟩
      · cases z
    · cases e
  | _ => simp [deref] at e
theorem seqOf_ok (ok : KOk T G) (r : HR T m h H) {p : PV} {v : V} {xs : List PV} (rv : RV T m p v) (e : seqOf G h p = some xs) : ∃ a vs, v = .ref a ∧ (SqL T.K H a vs ∨ SqT T.K H a vs) ∧ RVs T m xs vs := by
  have e' : lstOf G h p = some xs ∨ tupOf G h p = some xs := by
    unfold seqOf at e
    unfold lstOf tupOf
    split at e <;> rename_i q <;> simp_all
  rcases e' with e' | e'
  · obtain ⟨a, vs, x, y, z⟩ := lstOf_ok ok r rv e'
    exact ⟨a, vs, x, .inl y, z⟩
  · obtain ⟨a, vs, x, y, z⟩ := tupOf_ok ok r rv e'
    exact ⟨a, vs, x, .inr y, z⟩
end
theorem rvs_rep {T : Tab} {m : List Addr} {xs : List PV} {vs : List V} (r : RVs T m xs vs) : ∀ n : Nat, RVs T m (List.replicate n xs).flatten (List.replicate n vs).flatten
  | 0 => .nil
  | n + 1 => by
    rw [List.replicate_succ, List.replicate_succ, List.flatten_cons, List.flatten_cons]
    exact r.append (rvs_rep r n)
/-- a reading of two values by a function over the small heap -/
def rOf (T : Tab) (f : PV → PV → PH → R2') : R2 := fun x y H Q => ∃ m h p q r, HR T m h H ∧ RV T m p x ∧ RV T m q y ∧ f p q h = some r ∧ KR T m r Q
/-- one rule after another -/
theorem opr_of {X : Cx} {f : Value → Value → Sem Value} {r : R2} (k : ∀ x y H Q, r x y H Q → ∃ r' : R2, OpR X f r' ∧ r' x y H Q) : OpR X f r := fun pins s σ H x y v u Q I rx ry h => by
  obtain ⟨r', o, h'⟩ := k x y H Q h
  exact o pins s σ H x y v u Q I rx ry h'
theorem sOf_app (a b : List Nat) : sOf a ++ sOf b = sOf (a ++ b) := by
  show Str.append _ _ = _
  unfold Str.append sOf
  simp
theorem sOf_len (a : List Nat) : (sOf a).length = a.length := by
  unfold sOf Str.length; simp
theorem sOf_inj {a b : List Nat} (h : sOf a = sOf b) : a = b := by
  unfold sOf at h
  simpa using h
section
variable {X : Cx} {T : Tab} {G : Pg}
theorem foldl_cat (a : List Nat) : ∀ (n : Nat) (z : List Nat), (List.replicate n a.toArray).foldl (· ++ ·) z.toArray = (z ++ (List.replicate n a).flatten).toArray
  | 0, z => by simp
  | n + 1, z => by
    rw [List.replicate_succ, List.foldl_cons, List.replicate_succ, List.flatten_cons]
    have e : z.toArray ++ a.toArray = (z ++ a).toArray := by simp
    rw [e, foldl_cat a n (z ++ a), List.append_assoc]
theorem repS_eq (l : List Nat) (n : Nat) : (⟨(List.replicate n (sOf l).cps).foldl (· ++ ·) #[]⟩ : Str) = sOf (List.replicate n l).flatten := by
  have := foldl_cat l n []
  unfold sOf
  rw [List.nil_append] at this
  exact congrArg Str.mk this
theorem op_repS : OpR X (binaryOp .Mult) (fun x y H Q => ∃ (a : Str) (i : Int), x = .str a ∧ y = .int i ∧ 0 ≤ i ∧ i < 2 ^ 62 ∧ a.length * i.toNat ≤ 16777216 ∧ Q (.str ⟨(List.replicate i.toNat a.cps).foldl (· ++ ·) #[]⟩) H) := by
  intro pins s σ H x y v u Q I rx ry h
  obtain ⟨a, i, rfl, rfl, h0, h1, hz, q⟩ := h
  obtain ⟨t, rfl⟩ := rx
  obtain ⟨t2, rfl⟩ := ry
  refine PySem.P.mul_str (by rw [decide_eq_false (by omega), decide_eq_false (by omega)]; rfl) (fun hn _ => ?_) (fun _ _ => by unfold Builtin.Str.tooLong; rw [sizeLine_eq]; exact decide_eq_false (by omega)) ?_
  · have hi : ((i.toNat : Nat) : Int) = i := Int.toNat_of_nonneg h0
    have h3 : ((a.length * i.toNat : Nat) : Int) ≤ ((16777216 : Nat) : Int) := Int.ofNat_le.mpr hz
    rw [Int.natCast_mul, hi] at h3
    have h4 : (a.length : Int) * i ≤ 16777216 := h3
    have := Int.le_ediv_of_mul_le (a := (a.length : Int)) (b := 2 ^ 63 - 1) (c := i) (by omega) (by omega)
    omega
  · by_cases h2 : i < 1
    · rw [if_pos h2]
      have e : i.toNat = 0 := by omega
      rw [e] at q
      exact ⟨by decide, ⟨.str Str.empty, H, I.tok _, ⟨_, rfl⟩, q⟩⟩
    · rw [if_neg h2]
      by_cases h3 : (i == 1 || a.length == 0) = true
      · rw [if_pos h3]
        rw [Bool.or_eq_true, beq_iff_eq, beq_iff_eq] at h3
        have e : (⟨(List.replicate i.toNat a.cps).foldl (· ++ ·) #[]⟩ : Str) = a := by
          rcases h3 with h3 | h3
          · subst h3
            show (⟨#[] ++ a.cps⟩ : Str) = a
            rw [Array.empty_append]
          · have ea : a.cps = #[] := Array.size_eq_zero_iff.mp h3
            have := foldl_cat [] i.toNat []
            rw [show ([] : List Nat).toArray = a.cps from ea.symm] at this
            have e2 : (List.replicate i.toNat ([] : List Nat)).flatten = [] := by simp
            rw [ea] at this ⊢
            rw [this, e2]
            exact congrArg Str.mk ea.symm
        rw [e] at q
        exact ⟨.str a, H, I, ⟨t, rfl⟩, q⟩
      · rw [if_neg h3]
        refine ⟨?_, ⟨.str _, H, I.tok _, ⟨_, rfl⟩, q⟩⟩
        have e := foldl_cat a.cps.toList i.toNat []
        have e2 : a.cps.toList.toArray = a.cps := rfl
        rw [e2] at e
        show ((List.replicate i.toNat a.cps).foldl (· ++ ·) #[]).size ≤ sizeLine
        rw [e, sizeLine_eq]
        have el : a.cps.toList.length = a.length := by rw [Array.length_toList]; rfl
        simp only [List.nil_append, List.size_toArray, List.length_flatten, List.map_replicate, List.sum_replicate_nat, el]
        rw [Nat.mul_comm]; omega
theorem op_bin (hK : X.K = T.K) (ok : KOk T G) {op : Operator} : OpR X (binaryOp op) (rOf T (binV G op)) := by
  refine opr_of fun x y H Q hh => ?_
  obtain ⟨m, h, p, q, r, hr, rx, ry, e, k⟩ := hh
  unfold binV at e
  split at e
  · -- Add int int
    cases e
    exact ⟨_, op_add, _, _, rx, ry, k.now hr rfl⟩
  · split at e
    · cases e
      rename_i a b hz
      refine ⟨_, op_add_str, _, _, rx, ry, by rw [sOf_len, sOf_len]; exact hz, ?_⟩
      rw [sOf_app]
      exact k.now hr rfl
    · cases e
  · split at e
    · split at e
      · cases e
        rename_i xs ys ex ey hz
        obtain ⟨a', vs, m1, h1, r1⟩ := hr.lst ex
        obtain ⟨b', us, m2, h2, r2⟩ := hr.lst ey
        obtain ⟨a2, m3, rfl⟩ := rx
        obtain ⟨b2, m4, rfl⟩ := ry
        rw [m1] at m3; cases m3
        rw [m2] at m4; cases m4
        exact ⟨_, op_cat, _, _, _, _, rfl, rfl, h1, h2, by rw [← r1.length, ← r2.length]; exact hz, fun l hl => k.newL hr (r1.append r2) hl⟩
      · cases e
    · split at e
      · cases e
        rename_i xs ys ex ey hz
        obtain ⟨a', vs, m1, h1, r1⟩ := hr.tup ex
        obtain ⟨b', us, m2, h2, r2⟩ := hr.tup ey
        obtain ⟨a2, m3, rfl⟩ := rx
        obtain ⟨b2, m4, rfl⟩ := ry
        rw [m1] at m3; cases m3
        rw [m2] at m4; cases m4
        have n1 : vs ≠ [] := fun z => by subst z; cases r1; exact hz.1 rfl
        have n2 : us ≠ [] := fun z => by subst z; cases r2; exact hz.2.1 rfl
        exact ⟨_, op_catT, _, _, _, _, rfl, rfl, .of h1, .of h2, n1, by rw [← r1.length, ← r2.length]; exact hz.2.2, fun z => absurd z n2, fun _ l hl => k.newT hr (r1.append r2) hl⟩
      · cases e
    · cases e
  · cases e
    exact ⟨_, op_sub, _, _, rx, ry, k.now hr rfl⟩
  · split at e
    · cases e
      rename_i hz
      exact ⟨_, op_mulW, _, _, rx, ry, hz, k.now hr rfl⟩
    · cases e
  · split at e
    · split at e
      · cases e
        rename_i xs ex hz
        obtain ⟨a', vs, m1, h1, r1⟩ := hr.lst ex
        obtain ⟨a2, m3, rfl⟩ := rx
        rw [m1] at m3; cases m3
        refine ⟨_, op_rep, _, _, _, rfl, ry, h1, hz.1, hz.2.1, by rw [← r1.length]; exact hz.2.2, fun l hl => k.newL hr ?_ hl⟩
        exact rvs_rep r1 _
      · cases e
    · cases e
  · split at e
    · cases e
      rename_i l i hz
      refine ⟨_, op_repS, _, _, rx, ry, hz.1, hz.2.1, by rw [sOf_len]; exact hz.2.2, ?_⟩
      rw [repS_eq]
      exact k.now hr rfl
    · cases e
  · split at e
    · cases e
      rename_i hz
      refine ⟨_, (opI fun _ _ _ _ _ _ _ (hc : _ ≠ 0 ∧ _) q => floordiv_int hc.1 q (.inl (PyProof.noPylong_of_log2 hc.2)) : OpR X (binaryOp .FloorDiv) (rI (fun _ j => j ≠ 0 ∧ j.natAbs.log2 < 9000) fun i j => .int (i.fdiv j))), _, _, rx, ry, hz, k.now hr rfl⟩
    · cases e
  · split at e
    · cases e
      rename_i hz
      exact ⟨_, op_modN, _, _, rx, ry, hz, k.now hr rfl⟩
    · cases e
  · split at e
    · cases e
      rename_i hz
      exact ⟨_, op_pow, _, _, rx, ry, hz, k.now hr rfl⟩
    · cases e
  · split at e
    · cases e
      rename_i hz
      exact ⟨_, op_shl, _, _, rx, ry, hz, k.now hr rfl⟩
    · cases e
  · split at e
    · cases e
      rename_i hz
      exact ⟨_, op_shr, _, _, rx, ry, hz, k.now hr rfl⟩
    · cases e
  · cases e
    exact ⟨_, op_and, _, _, rx, ry, k.now hr rfl⟩
  · cases e
theorem op_iop (hK : X.K = T.K) (ok : KOk T G) {op : Operator} : OpR X (inplaceOp op) (rOf T (iopV op)) := by
  refine opr_of fun x y H Q hh => ?_
  obtain ⟨m, h, p, q, r, hr, rx, ry, e, k⟩ := hh
  unfold iopV at e
  split at e
  · cases e
    exact ⟨_, iop_add, _, _, rx, ry, k.now hr rfl⟩
  · split at e
    · cases e
      rename_i a b hz
      refine ⟨_, iop_add_str, _, _, rx, ry, by rw [sOf_len, sOf_len]; exact hz, ?_⟩
      rw [sOf_app]
      exact k.now hr rfl
    · cases e
  · cases e
    exact ⟨_, iop_sub, _, _, rx, ry, k.now hr rfl⟩
  · split at e
    · cases e
      rename_i hz
      exact ⟨_, (opI fun i j _ _ _ _ _ (hc : CMulW i j) q => imul_int q hc.ok : OpR X (inplaceOp .Mult) (rI CMulW fun i j => .int (i * j))), _, _, rx, ry, hz, k.now hr rfl⟩
    · cases e
  · cases e
/-! ### comparisons -/
theorem sOf_list (l : List Nat) : (sOf l).cps.toList = l := by unfold sOf; simp
theorem sOf_dec (a b : List Nat) : decide (sOf a = sOf b) = decide (a = b) := by
  by_cases e : a = b
  · subst e; simp
  · rw [decide_eq_false e, decide_eq_false fun z => e (sOf_inj z)]
def rCmp (T : Tab) (f : PV → PV → PH → Option Bool) : R2 := fun x y H Q => ∃ m h p q b, HR T m h H ∧ RV T m p x ∧ RV T m q y ∧ f p q h = some b ∧ Q (.bl b) H
theorem data_all {T : Tab} {m : List Addr} {H : Hp} {f : PV → Option PyData} (hf : ∀ p d v, RV T m p v → f p = some d → Dp T.K H v d) : ∀ {xs : List PV} {vs : List V} {ds : List PyData}, RVs T m xs vs → xs.mapM f = some ds → DpAll T.K H vs ds
  | [], _, ds, .nil, e => by
    simp at e; subst e; exact .nil
  | x :: xs, _, ds, .cons r t, e => by
    rw [List.mapM_cons] at e
    cases q : f x with
    | none => rw [q] at e; cases e
    | some d =>
      rw [q] at e
      cases q2 : xs.mapM f with
      | none => rw [q2] at e; cases e
      | some es =>
        rw [q2] at e
        cases e
        exact .cons (hf _ _ _ r q) (data_all hf t q2)
theorem data_ok {m : List Addr} {h : PH} {H : Hp} (ok : KOk T G) (hr : HR T m h H) : ∀ (k : Nat) (p : PV) (d : PyData) (v : V), RV T m p v → dataOf G h k p = some d → Dp T.K H v d := by
  intro k
  have base : ∀ (k : Nat) (p : PV) (d : PyData) (v : V), scalP p = true → RV T m p v → dataOf G h k p = some d → Dp T.K H v d := fun k p d v hs r e => by
    cases p with
    | non =>
      have r : v = .non := r
      subst r; unfold dataOf at e; cases e; exact .non
    | bl b =>
      have r : v = .bl b := r
      subst r; unfold dataOf at e; cases e; exact .bl b
    | int i =>
      have r : v = .int i := r
      subst r; unfold dataOf at e; cases e; exact .int i
    | str l =>
      have r : v = .str (sOf l) := r
      subst r; unfold dataOf at e; cases e; exact .str _
    | _ => cases hs
  induction k with
  | zero =>
    intro p d v r e
    cases hs : scalP p with
    | true => exact base 0 p d v hs r e
    | false => cases p <;> first | (cases hs; done) | (unfold dataOf at e; cases e)
  | succ k ih =>
    intro p d v r e
    cases hs : scalP p with
    | true => exact base _ p d v hs r e
    | false =>
      have e' : (match deref G h p with
        | some (.lst xs) => (xs.mapM (dataOf G h k)).map PyData.list
        | some (.rol xs) => (xs.mapM (dataOf G h k)).map PyData.list
        | some (.tup xs) => (xs.mapM (dataOf G h k)).map PyData.tuple
        | _ => none) = some d := by
        cases p <;> first | (cases hs; done) | exact e
      have eL : ∀ xs, lstOf G h p = some xs → (xs.mapM (dataOf G h k)).map PyData.list = some d → Dp T.K H v d := fun xs q z => by
        obtain ⟨a, vs, rfl, hS, rs⟩ := lstOf_ok ok hr r q
        cases q2 : xs.mapM (dataOf G h k) with
        | none => rw [q2] at z; cases z
        | some es =>
          rw [q2] at z; cases z
          exact .lst hS (data_all (fun p d v r e => ih p d v r e) rs q2)
      have eT : ∀ xs, tupOf G h p = some xs → (xs.mapM (dataOf G h k)).map PyData.tuple = some d → Dp T.K H v d := fun xs q z => by
        obtain ⟨a, vs, rfl, hS, rs⟩ := tupOf_ok ok hr r q
        cases q2 : xs.mapM (dataOf G h k) with
        | none => rw [q2] at z; cases z
        | some es =>
          rw [q2] at z; cases z
          exact .tup hS (data_all (fun p d v r e => ih p d v r e) rs q2)
      split at e'
      · rename_i xs q; exact eL xs (by unfold lstOf; rw [q]) e'
      · rename_i xs q; exact eL xs (by unfold lstOf; rw [q]) e'
      · rename_i xs q; exact eT xs (by unfold tupOf; rw [q]) e'
      · cases e'
theorem eqP_ok {m : List Addr} {h : PH} {H : Hp} {p q : PV} {x y : V} {b : Bool} (ok : KOk T G) (hr : HR T m h H) (rx : RV T m p x) (ry : RV T m q y) (e : eqP G h p q = some b) :
    (scal x y = true ∧ b = decide (x = y)) ∨ (∃ d e, Dp T.K H x d ∧ Dp T.K H y e ∧ SeqAt.shaped d = true ∧ SeqAt.shaped e = true ∧ b = PyData.eqv d e) := by
  unfold eqP at e
  split at e
  · rename_i hs
    rw [Bool.and_eq_true] at hs
    cases e
    obtain ⟨h1, h2⟩ := hs
    cases p <;> first | (cases h1; done) | skip
    all_goals cases q <;> first | (cases h2; done) | skip
    all_goals (have rx : x = _ := rx; have ry : y = _ := ry; subst rx; subst ry)
    case bl.int b i => exact .inr ⟨_, _, .bl b, .int i, rfl, rfl, rfl⟩
    case int.bl i b => exact .inr ⟨_, _, .int i, .bl b, rfl, rfl, rfl⟩
    case str.str a b =>
      refine .inl ⟨rfl, ?_⟩
      show decide (a = b) = decide (V.str (sOf a) = V.str (sOf b))
      rw [← sOf_dec]
      congr 1
      simp
    case int.int a b =>
      refine .inl ⟨rfl, ?_⟩
      show decide (a = b) = decide (V.int a = V.int b)
      congr 1
      simp
    case bl.bl a b =>
      refine .inl ⟨rfl, ?_⟩
      cases a <;> cases b <;> rfl
    case non.non => exact .inl ⟨rfl, by simp [eqS]⟩
    all_goals exact .inl ⟨rfl, by simp [eqS]⟩
  · split at e
    · rename_i d e' q1 q2
      split at e
      · rename_i hz
        rw [Bool.and_eq_true] at hz
        cases e
        exact .inr ⟨d, e', data_ok ok hr _ _ _ _ rx q1, data_ok ok hr _ _ _ _ ry q2, hz.1, hz.2, rfl⟩
      · cases e
    · cases e
theorem flat_rv {m : List Addr} {p : PV} {v : V} (r : RV T m p v) : flatP p = true → flatV v = true := by
  intro f
  cases p with
  | non => have r : v = .non := r; subst r; rfl
  | bl b => have r : v = .bl b := r; subst r; rfl
  | int i => have r : v = .int i := r; subst r; rfl
  | str l => have r : v = .str (sOf l) := r; subst r; rfl
  | _ => cases f
theorem flats_rv {m : List Addr} : ∀ {ps : List PV} {vs : List V}, RVs T m ps vs → ps.all flatP = true → vs.all flatV = true
  | _, _, .nil, _ => rfl
  | _, _, .cons r t, f => by
    rw [List.all_cons, Bool.and_eq_true] at f ⊢
    exact ⟨flat_rv r f.1, flats_rv t f.2⟩
theorem eqS_rv {m : List Addr} {p q : PV} {v u : V} (r : RV T m p v) (r' : RV T m q u) (f : flatP p = true) (f' : flatP q = true) : eqV v u = eqS p q := by
  cases p <;> first | (cases f; done) | skip
  all_goals cases q <;> first | (cases f'; done) | skip
  all_goals (have r : v = _ := r; have r' : u = _ := r'; subst r; subst r')
  all_goals first
    | rfl
    | (simp [eqV, eqS]; done)
    | (rename_i a b
       show (sOf a == sOf b) = decide (a = b)
       rw [← sOf_dec]; first | rfl | (exact beq_eq_decide _ _))
theorem anyS_rv {m : List Addr} {p : PV} {v : V} (r : RV T m p v) (f : flatP p = true) : ∀ {ps : List PV} {vs : List V}, RVs T m ps vs → ps.all flatP = true → inV v vs = ps.any fun z => eqS z p
  | _, _, .nil, _ => rfl
  | _, _, .cons r' t, g => by
    rw [List.all_cons, Bool.and_eq_true] at g
    show (eqV _ v || _) = _
    rw [List.any_cons, eqS_rv r' r g.1 f]
    have := anyS_rv r f t g.2
    unfold inV at this
    rw [this]
theorem isN_rv {m : List Addr} {p : PV} {v : V} (r : RV T m p v) : decide (v = .non) = decide (p = .non) := by
  cases p with
  | non => have r : v = .non := r; subst r; simp
  | bl b => have r : v = .bl b := r; subst r; simp
  | int i => have r : v = .int i := r; subst r; simp
  | str l => have r : v = .str (sOf l) := r; subst r; simp
  | loc n => obtain ⟨a, _, rfl⟩ := r; simp
  | kon n => obtain ⟨a, _, _, rfl⟩ := r; simp
  | cls n => obtain ⟨a, _, rfl⟩ := r; simp
  | ty s => have r : v = .ty s := r; subst r; simp
theorem op_cmp (hK : X.K = T.K) (ok : KOk T G) (hu : X.A.units + 64 < cLine) {op : CmpOp} : OpR X (compareOp op) (rCmp T (cmpV G op)) := by
  refine opr_of fun x y H Q hh => ?_
  obtain ⟨m, h, p, q, b, hr, rx, ry, e, k⟩ := hh
  unfold cmpV at e
  split at e
  · rcases eqP_ok ok hr rx ry e with ⟨h1, rfl⟩ | ⟨d, e', h1, h2, h3, h4, rfl⟩
    · exact ⟨_, op_eq, h1, k⟩
    · exact ⟨_, op_eqD hu, d, e', by rw [hK]; exact h1, by rw [hK]; exact h2, h3, h4, k⟩
  · cases q1 : eqP G h p q with
    | none => rw [q1] at e; cases e
    | some b' =>
      rw [q1] at e; cases e
      rcases eqP_ok ok hr rx ry q1 with ⟨h1, rfl⟩ | ⟨d, e', h1, h2, h3, h4, rfl⟩
      · exact ⟨_, op_ne, h1, k⟩
      · exact ⟨_, op_neD hu, d, e', by rw [hK]; exact h1, by rw [hK]; exact h2, h3, h4, k⟩
  · cases e; exact ⟨_, op_lt, _, _, rx, ry, k⟩
  · cases e; exact ⟨_, op_le, _, _, rx, ry, k⟩
  · cases e; exact ⟨_, op_gt, _, _, rx, ry, k⟩
  · cases e; exact ⟨_, op_ge, _, _, rx, ry, k⟩
  · cases e
    refine ⟨_, op_isN, ry, ?_⟩
    rw [isN_rv rx]; exact k
  · cases e
    refine ⟨_, op_notN, ry, ?_⟩
    rw [isN_rv rx]; exact k
  · cases e; exact ⟨_, op_is_bl, _, _, rx, ry, k⟩
  · cases e; exact ⟨_, op_isnot_bl, _, _, rx, ry, k⟩
  · cases e
    rename_i a b
    unfold inS at k
    split at k
    · rename_i c
      refine ⟨_, op_in_sign, c, sOf b, rx, ry, ?_⟩
      rw [sOf_list]; exact k
    · refine ⟨_, op_in_str, _, _, rx, ry, ?_⟩
      rw [sOf_len]; exact k
  · cases e
    rename_i a b
    unfold inS at k
    split at k
    · rename_i c
      refine ⟨_, op_notIn_sign, c, sOf b, rx, ry, ?_⟩
      rw [sOf_list]; exact k
    · refine ⟨_, op_notin_str, _, _, rx, ry, ?_⟩
      rw [sOf_len]; exact k
  · split at e
    · rename_i xs q1
      split at e
      · rename_i hz
        rw [Bool.and_eq_true] at hz
        cases e
        obtain ⟨a, vs, rfl, hS, rs⟩ := seqOf_ok ok hr ry q1
        refine ⟨_, op_in_seq, a, vs, rfl, by rw [hK]; exact hS, flat_rv rx hz.1, flats_rv rs hz.2, ?_⟩
        rw [if_neg Bool.false_ne_true, anyS_rv rx hz.1 rs hz.2]
        exact k
      · cases e
    · cases e
  · split at e
    · rename_i xs q1
      split at e
      · rename_i hz
        rw [Bool.and_eq_true] at hz
        cases e
        obtain ⟨a, vs, rfl, hS, rs⟩ := seqOf_ok ok hr ry q1
        refine ⟨_, op_notIn_seq, a, vs, rfl, by rw [hK]; exact hS, flat_rv rx hz.1, flats_rv rs hz.2, ?_⟩
        rw [if_pos rfl, anyS_rv rx hz.1 rs hz.2]
        exact k
      · cases e
    · cases e
  · cases e
end
end Fw
set_option Elab.async false
set_option linter.all false
set_option maxRecDepth 100000
set_option maxHeartbeats 1000000
/-! Fw4: built-in functions and methods, places, slices. -/
namespace Fw
open PySem PySem.Spec PyProof.Rows L2

def rPrm (T : Tab) (f : List PV → PH → R2') : List V → Hp → VK → Prop := fun xs H Q => ∃ m h ps r, HR T m h H ∧ RVs T m ps xs ∧ f ps h = some r ∧ KR T m r Q
theorem callr_of {X : Cx} {f : Value} {r : List V → Hp → VK → Prop} (k : ∀ xs H Q, r xs H Q → ∃ r' : List V → Hp → VK → Prop, CallR X f r' ∧ r' xs H Q) : CallR X f r := fun pins s σ H xs us Q I rx h => by
  obtain ⟨r', o, h'⟩ := k xs H Q h
  exact o pins s σ H xs us Q I rx h'
section
variable {X : Cx} {T : Tab} {G : Pg}
theorem rvs1 {m : List Addr} {p : PV} {xs : List V} (r : RVs T m [p] xs) : ∃ v, xs = [v] ∧ RV T m p v := by
  cases r with
  | cons r t => cases t; exact ⟨_, rfl, r⟩
theorem rvs2 {m : List Addr} {p q : PV} {xs : List V} (r : RVs T m [p, q] xs) : ∃ v u, xs = [v, u] ∧ RV T m p v ∧ RV T m q u := by
  cases r with
  | cons r t =>
    obtain ⟨u, rfl, r'⟩ := rvs1 t
    exact ⟨_, u, rfl, r, r'⟩
theorem ints_rv {m : List Addr} : ∀ {ps : List PV} {ns : List Int} {xs : List V}, intsOf ps = some ns → RVs T m ps xs → xs = ns.map V.int
  | [], ns, _, e, .nil => by cases e; rfl
  | p :: ps, ns, _, e, .cons r t => by
    cases p with
    | int i =>
      have e : (intsOf ps).map (i :: ·) = some ns := e
      cases q : intsOf ps with
      | none => rw [q] at e; cases e
      | some ns' =>
        rw [q] at e; cases e
        rw [ints_rv q t]
        have r : _ = V.int i := r
        rw [r]; rfl
    | _ => cases e
theorem len_ok (hK : X.K = T.K) (ok : KOk T G) : CallR X (.builtin "len") (rPrm T (lenV G)) := by
  refine callr_of fun xs H Q hh => ?_
  obtain ⟨m, h, ps, r, hr, rs, e, k⟩ := hh
  unfold lenV at e
  split at e
  · split at e
    · cases e
      rename_i l hz
      obtain ⟨v, rfl, rv⟩ := rvs1 rs
      have rv : v = .str (sOf l) := rv
      subst rv
      exact ⟨_, call_len, _, l.length, rfl, ⟨by rw [sOf_len]; exact hz, by rw [sOf_len]⟩, k.now hr rfl⟩
    · cases e
  · rename_i p _ 
    cases q : seqOf G h p with
    | none => rw [q] at e; cases e
    | some ys =>
      rw [q] at e; cases e
      obtain ⟨v, rfl, rv⟩ := rvs1 rs
      obtain ⟨a, vs, rfl, hS, rs'⟩ := seqOf_ok ok hr rv q
      refine ⟨_, call_len_seq, a, vs, rfl, by rw [hK]; exact hS, ?_⟩
      rw [← rs'.length]
      exact k.now hr rfl
  · cases e
theorem int_ok : CallR X (.type "int") (rPrm T intV) := by
  refine callr_of fun xs H Q hh => ?_
  obtain ⟨m, h, ps, r, hr, rs, e, k⟩ := hh
  unfold intV at e
  split at e
  · cases e
    obtain ⟨v, rfl, rv⟩ := rvs1 rs
    have rv : v = _ := rv
    subst rv
    exact ⟨_, call_int1, .inl ⟨_, rfl, k.now hr rfl⟩⟩
  · cases e
    obtain ⟨v, rfl, rv⟩ := rvs1 rs
    have rv : v = _ := rv
    subst rv
    exact ⟨_, call_int1, .inr ⟨_, rfl, k.now hr rfl⟩⟩
  · split at e
    · rename_i l hz
      cases q : PySem.intText? (sOf l) with
      | none => rw [q] at e; cases e
      | some n =>
        rw [q] at e; cases e
        obtain ⟨v, rfl, rv⟩ := rvs1 rs
        have rv : v = _ := rv
        subst rv
        exact ⟨_, call_int_str, _, _, rfl, q, by rw [sOf_len]; exact hz, k.now hr rfl⟩
    · cases e
  · cases e
theorem strI_ok (i : Int) : sOf (strI i) = Str.ofString (toString i) := by
  unfold sOf strI
  rw [Str.ofString_eq_toList]
theorem str_ok : CallR X (.type "str") (rPrm T strV) := by
  refine callr_of fun xs H Q hh => ?_
  obtain ⟨m, h, ps, r, hr, rs, e, k⟩ := hh
  unfold strV at e
  split at e
  · split at e
    · cases e
      rename_i i hz
      obtain ⟨v, rfl, rv⟩ := rvs1 rs
      have rv : v = _ := rv
      subst rv
      refine ⟨_, call_str_int, _, rfl, hz, ?_⟩
      rw [← strI_ok]
      exact k.now hr rfl
    · cases e
  · cases e
theorem tuple_ok (hK : X.K = T.K) (ok : KOk T G) : CallR X (.type "tuple") (rPrm T (tupleV G)) := by
  refine callr_of fun xs H Q hh => ?_
  obtain ⟨m, h, ps, r, hr, rs, e, k⟩ := hh
  unfold tupleV at e
  split at e
  · obtain ⟨v, rfl, rv⟩ := rvs1 rs
    split at e
    · rename_i p ys q
      cases e
      obtain ⟨a, vs, rfl, hS, rs'⟩ := lstOf_ok ok hr rv q
      exact ⟨_, call_tuple_of, a, vs, rfl, .inl ⟨by rw [hK]; exact hS, fun l hl => k.newT hr rs' hl⟩⟩
    · rename_i p _ _
      cases q : tupOf G h p with
      | none => rw [q] at e; cases e
      | some ys =>
        rw [q] at e; cases e
        obtain ⟨a, vs, rfl, hS, rs'⟩ := tupOf_ok ok hr rv q
        exact ⟨_, call_tuple_of, a, vs, rfl, .inr ⟨by rw [hK]; exact hS, k.now hr rv⟩⟩
  · cases e
theorem list_ok (hK : X.K = T.K) (ok : KOk T G) : CallR X (.type "list") (rPrm T (listV G)) := by
  refine callr_of fun xs H Q hh => ?_
  obtain ⟨m, h, ps, r, hr, rs, e, k⟩ := hh
  unfold listV at e
  split at e
  · obtain ⟨v, rfl, rv⟩ := rvs1 rs
    rename_i p
    cases q : seqOf G h p with
    | none => rw [q] at e; cases e
    | some ys =>
      rw [q] at e; cases e
      obtain ⟨a, vs, rfl, hS, rs'⟩ := seqOf_ok ok hr rv q
      exact ⟨_, call_list_of, a, vs, rfl, by rw [hK]; exact hS, fun l hl => k.newL hr rs' hl⟩
  · cases e
theorem min_ok (hc : X.calm = true) : CallR X (.builtin "min") (rPrm T minV) := by
  refine callr_of fun xs H Q hh => ?_
  obtain ⟨m, h, ps, r, hr, rs, e, k⟩ := hh
  unfold minV at e
  split at e
  · cases e
    obtain ⟨v, u, rfl, rv, ru⟩ := rvs2 rs
    have rv : v = _ := rv
    have ru : u = _ := ru
    subst rv; subst ru
    refine ⟨_, call_min2 hc, _, _, rfl, ?_⟩
    refine k.now hr ?_
    rename_i a b
    show V.int (if b < a then b else a) = V.int (min a b)
    congr 1
    rw [Int.min_def]
    split <;> split <;> omega
  · cases e
theorem tyx_ok (ok : KOk T G) {m : List Addr} {h : PH} {H : Hp} {p : PV} {v : V} {a : String} (hr : HR T m h H) (rv : RV T m p v) (q2 : tyP G h p = some a) : TyX T.K H v (.type a) := by
  unfold tyP at q2
  split at q2
  · cases q2; have rv : v = _ := rv; subst rv; exact .base .non
  · cases q2; have rv : v = _ := rv; subst rv; exact .base (.bl _)
  · cases q2; have rv : v = _ := rv; subst rv; exact .base (.int _)
  · cases q2; have rv : v = _ := rv; subst rv; exact .base (.str _)
  · split at q2
    · rename_i ys hy
      cases q2
      cases p <;> simp [deref] at hy
      · obtain ⟨a, e1, rfl⟩ := rv
        obtain ⟨vs, e2, _⟩ := hr.obj _ _ _ e1 hy
        exact .base (.lst e2)
      · obtain ⟨a, e1⟩ := kon_get ok hy
        rcases ok.tup _ _ _ e1 with ⟨_, _, z, _⟩ | ⟨_, z⟩ <;> cases z
    · rename_i ys hy
      cases q2
      cases p <;> simp [deref] at hy
      · obtain ⟨a, e1, rfl⟩ := rv
        obtain ⟨vs, e2, _⟩ := hr.obj _ _ _ e1 hy
        rcases e2 with ⟨o, e2⟩ | ⟨o, its, n, e2, e3, _⟩
        · exact .base (.frz e2)
        · exact .kList e2 e3
      · obtain ⟨a, e1⟩ := kon_get ok hy
        rcases ok.tup _ _ _ e1 with ⟨_, _, z, _⟩ | ⟨_, z⟩ <;> cases z
    · rename_i ys hy
      cases q2
      cases p <;> simp [deref] at hy
      · obtain ⟨a, e1, rfl⟩ := rv
        obtain ⟨vs, e2, _⟩ := hr.obj _ _ _ e1 hy
        exact .base (.tup e2)
      · obtain ⟨a, o, e1, rfl⟩ := rv
        obtain ⟨a', e1'⟩ := kon_get ok hy
        rw [e1] at e1'; cases e1'
        rcases ok.tup _ _ _ e1 with ⟨_, _, z, ⟨o, its, n, e2, e3, _⟩, _⟩ | ⟨_, z⟩
        · exact .kTuple e2 e3
        · cases z
    · rename_i ys hy
      split at q2
      · cases q2
        obtain ⟨a, e1, rfl⟩ := rv
        simp only [deref] at hy
        obtain ⟨vs, e2, _⟩ := hr.obj _ _ _ e1 hy
        exact .base (.dK e2)
      · cases q2
    · cases q2
theorem any_ok (ok : KOk T G) {m : List Addr} {h : PH} {p : PV} {a : String} (q2 : tyP G h p = some a) : ∀ {ts : List PV} {cs : List V} {b : Bool}, ts.all (fun t => match t with | .ty _ => true | _ => false) = true → isiAny G h p ts = some b → RVs T m ts cs → ∃ us, Paired ClsV cs us ∧ PySem.W.kitAny T.K (.type a) us = some b
  | [], _, b, _, e, .nil => by cases e; exact ⟨[], .nil, rfl⟩
  | t :: ts, _, b, hA, e, .cons r rs => by
    rw [List.all_cons, Bool.and_eq_true] at hA
    cases t with
    | ty t =>
      have r : _ = V.ty t := r
      subst r
      unfold isiAny at e
      have kt : isiP G h p t = kitB a t := by unfold isiP; rw [q2]; rfl
      split at e
      · rename_i q
        cases e
        rw [kt] at q
        have ex : ∀ {ts : List PV} {cs : List V}, ts.all (fun t => match t with | .ty _ => true | _ => false) = true → RVs T m ts cs → ∃ us, Paired ClsV cs us := by
          intro ts
          induction ts with
          | nil => intro cs _ rs; cases rs; exact ⟨[], .nil⟩
          | cons t ts ih =>
            intro cs hA rs
            cases rs with
            | cons r rs =>
              rw [List.all_cons, Bool.and_eq_true] at hA
              obtain ⟨us, k⟩ := ih hA.2 rs
              cases t with
              | ty t => have r : _ = V.ty t := r; subst r; exact ⟨_, .cons (.ty t) k⟩
              | _ => exact absurd hA.1 (by simp)
        obtain ⟨us, k⟩ := ex hA.2 rs
        refine ⟨.type t :: us, .cons (.ty t) k, ?_⟩
        unfold PySem.W.kitAny
        rw [kit_ty q]
      · rename_i q
        rw [kt] at q
        obtain ⟨us, k1, k2⟩ := any_ok ok q2 hA.2 e rs
        refine ⟨.type t :: us, .cons (.ty t) k1, ?_⟩
        unfold PySem.W.kitAny
        rw [kit_ty q]; exact k2
      · cases e
    | _ => exact absurd hA.1 (by simp)
theorem isi_ok (hK : X.K = T.K) (ok : KOk T G) : CallR X (.builtin "isinstance") (rPrm T (isiV G)) := by
  refine callr_of fun xs H Q hh => ?_
  obtain ⟨m, h, ps, r, hr, rs, e, k⟩ := hh
  unfold isiV at e
  split at e
  · rename_i p t
    obtain ⟨v, u, rfl, rv, ru⟩ := rvs2 rs
    have ru : u = _ := ru
    subst ru
    cases q : isiP G h p t with
    | none => rw [q] at e; cases e
    | some b =>
      rw [q] at e; cases e
      unfold isiP at q
      cases q2 : tyP G h p with
      | none => rw [q2] at q; cases q
      | some a =>
        rw [q2] at q
        have q : kitB a t = some b := q
        refine ⟨_, call_isi, v, .ty t, .type a, .type t, b, rfl, .ty t, ?_, kit_ty q, k.now hr rfl⟩
        rw [hK]
        exact tyx_ok ok hr rv q2
  · rename_i p n
    obtain ⟨v, u, rfl, rv, ru⟩ := rvs2 rs
    split at e
    · rename_i ts ht
      split at e
      · rename_i hA
        rw [Bool.and_eq_true] at hA
        obtain ⟨a, q2⟩ := Option.isSome_iff_exists.mp hA.2
        cases q : isiAny G h p ts with
        | none => rw [q] at e; cases e
        | some b =>
          rw [q] at e; cases e
          obtain ⟨a', cs, m1, h1, r1⟩ := hr.tup ht
          obtain ⟨a2, m2, rfl⟩ := ru
          rw [m1] at m2; cases m2
          obtain ⟨us, k1, k2⟩ := any_ok ok q2 hA.1 q r1
          refine ⟨_, call_isiT, v, a', cs, .type a, us, b, rfl, h1, k1, ?_, ?_, k.now hr rfl⟩
          · rw [hK]; exact tyx_ok ok hr rv q2
          · rw [hK]; exact k2
      · cases e
    · cases e
  · cases e
/-! ### the greatest of four -/
end
section
open Sem (wp)
variable {prog : Program} {w : World} {A : Around} {E : Value → Shared → Prop} {s : Shared}
theorem argsMax4 (a b c d : Value) : argsOk "max" ⟨[a, b, c, d], []⟩ := by
  unfold argsOk
  kernel_rfl
theorem no4 {a b c : Nat} (h1 : a = b + 1) (h2 : b = c + 1) (h : a = b ∨ a = c) : False := by omega
theorem no5 {a b c : Nat} (h1 : a = b + 1) (h2 : c < b) (h : c = a) : False := by omega
theorem no6 {a b c d : Nat} (h1 : a = b + 1) (h2 : b = c + 1) (h3 : d < c) (h : d = a) : False := by omega
abbrev tup4 (a b c d : Value) : Obj := { cls := .type "tuple", data := .seq #[a, b, c, d] }
theorem max_four {a b c d : Int} {ta tb tc td : Tok} {Q : Value → Shared → Prop} (hh : A.handled = none)
    (hQ : ∀ h' tk t', (∀ x o, s.heap.get? x = some o → h'.get? x = some o) → Q (.int (max (max (max a b) c) d) t') { s with heap := h', toks := tk }) :
    wpAny (model prog w) A (call (.builtin "max") [.int a ta, .int b tb, .int c tc, .int d td]) Q E s := by
  have nm : (toString "max" ++ toString ".loop" : String) = "max.loop" := by decide
  let its : Array (Int × Tok) := #[(a, ta), (b, tb), (c, tc), (d, td)]
  have hT : (s.heap.push (tup4 (.int a ta) (.int b tb) (.int c tc) (.int d td))).IsTuple s.heap.objs.size (intItems its) :=
    ⟨_, Heap.get?_push_size _ rfl, rfl, 0, by simp [its, intItems]⟩
  have sz : (s.heap.push (tup4 (.int a ta) (.int b tb) (.int c tc) (.int d td))).objs.size = s.heap.objs.size + 1 := Heap.size_push ..
  refine call_function_tree F.kind_max F.plain_max F.entry_max (argsMax4 _ _ _ _) ?_
  show wpAny _ A.in1 (Builtin.Builtins.bindParams "max" _ 0 ⟨[], []⟩ >>= _) _ _ s
  refine wpAny_bind (wpAny_of_eq (show Builtin.Builtins.bindParams "max" _ 0 _ = pure [none, none] from rfl) ?_)
  show wpAny _ A.in1 (newTuple [.int a ta, .int b tb, .int c tc, .int d td] >>= _) _ _ s
  refine wpAny_bind (wpAny_newObj_type ?_)
  refine wpAny_bind (wpAny_pyIter_tuple (items := intItems its) hT ?_)
  refine wpAny_bind (wpAny_newObj_type ?_)
  rw [nm]
  have W := Walks.tuple (prog := prog) (w := w) (A := A.in1) hh (s.heap.push (tup4 (.int a ta) (.int b tb) (.int c tc) (.int d td))).objs.size s.heap.objs.size (by rw [sz]; exact Nat.ne_of_lt (Nat.lt_succ_self _)) (intItems its)
  refine wpAny_pure ⟨plainId_quiet F.plain_max_loop _, ?_⟩
  refine codeAny_max_loop_first W _ (CmpOf.ints_gt (numAt its) (fun _ _ => intItems_at)) _ ?_ (by simp [its, intItems]) ?_ (Heap.get?_push_size _ rfl) fun v h' tk hP hk => ?_
  · intro hm
    have e1 := Heap.size_push (s.heap.push (tup4 (.int a ta) (.int b tb) (.int c tc) (.int d td))) { cls := .type "tuple_iterator", data := .fields #[.ref s.heap.objs.size, .int 0 0] }
    simp only [List.mem_cons, List.not_mem_nil, or_false] at hm
    exact no4 e1 sz hm
  · refine ⟨⟨_, Heap.get?_push_of_some _ (Heap.get?_push_size _ rfl), rfl, rfl⟩, ?_⟩
    exact (hT.push _).push _
  · have keep : ∀ x o, s.heap.get? x = some o → h'.get? x = some o := fun x o e => by
      have lx := Heap.lt_size e
      refine hk x o (fun hm => ?_) (fun hm => ?_) (Heap.get?_push_of_some _ (Heap.get?_push_of_some _ (Heap.get?_push_of_some _ e)))
      · simp only [List.mem_cons, List.not_mem_nil, or_false] at hm
        exact no5 sz lx hm
      · have e1 := Heap.size_push (s.heap.push (tup4 (.int a ta) (.int b tb) (.int c tc) (.int d td))) { cls := .type "tuple_iterator", data := .fields #[.ref s.heap.objs.size, .int 0 0] }
        exact no6 e1 sz lx hm
    have best := hP
    have key : ∃ t', v = .int (max (max (max a b) c) d) t' := by
      have sz2 : (intItems its).size - 1 = 3 := by simp [its, intItems]
      rw [sz2] at best
      by_cases h1 : b > a <;> by_cases h2 : c > a <;> by_cases h3 : c > b <;> by_cases h4 : d > a <;> by_cases h5 : d > b <;> by_cases h6 : d > c <;>
        simp [argBest, numAt, its, h1, h2, h3, h4, h5, h6, intItems] at best <;> (subst best; refine ⟨_, congrArg (fun i => Value.int i _) ?_⟩; omega)
    obtain ⟨t', rfl⟩ := key
    exact hQ h' tk t' keep
end
section
variable {X : Cx} {T : Tab} {G : Pg}
theorem max_ok (hc : X.calm = true) : CallR X (.builtin "max") (rPrm T maxV) := by
  intro pins s σ H xs us Q I rx hh
  obtain ⟨m, h, ps, r, hr, rs, e, k⟩ := hh
  unfold maxV at e
  split at e
  · cases e
    rename_i a b
    obtain ⟨v, u, rfl, rv, ru⟩ := rvs2 rs
    have rv : v = _ := rv
    have ru : u = _ := ru
    subst rv; subst ru
    refine call_max2 hc pins s σ H _ us Q I rx ⟨_, _, rfl, k.now hr ?_⟩
    show V.int (if b > a then b else a) = V.int (max a b)
    congr 1
    rw [Int.max_def]
    split <;> split <;> omega
  · cases e
    rename_i a b c
    have ex := ints_rv (ns := [a, b, c]) rfl rs
    subst ex
    cases rx with | cons r1 t => cases t with | cons r2 t => cases t with | cons r3 t => cases t with | nil =>
    obtain ⟨t1, rfl⟩ := r1
    obtain ⟨t2, rfl⟩ := r2
    obtain ⟨t3, rfl⟩ := r3
    refine max_three_ints (I.ok.hd hc) fun h' tk kp => ⟨.int (max (max a b) c), H, I.kept kp, ?_, k.now hr rfl⟩
    rw [Int.max_def, Int.max_def]
    by_cases h1 : b > a <;> by_cases h2 : c > b <;> by_cases h3 : c > a <;> simp only [h1, h2, h3, if_true, if_false] <;> refine ⟨_, congrArg (fun i => Value.int i _) ?_⟩ <;> (repeat' split) <;> omega
  · cases e
    rename_i a b c d
    have ex := ints_rv (ns := [a, b, c, d]) rfl rs
    subst ex
    cases rx with | cons r1 t => cases t with | cons r2 t => cases t with | cons r3 t => cases t with | cons r4 t => cases t with | nil =>
    obtain ⟨t1, rfl⟩ := r1
    obtain ⟨t2, rfl⟩ := r2
    obtain ⟨t3, rfl⟩ := r3
    obtain ⟨t4, rfl⟩ := r4
    exact max_four (I.ok.hd hc) fun h' tk t' kp => ⟨.int _, H, I.kept kp, ⟨t', rfl⟩, k.now hr rfl⟩
  · cases e
theorem sum_ok (hc : X.calm = true) (hK : X.K = T.K) (ok : KOk T G) : CallR X (.builtin "sum") (rPrm T (sumV G)) := by
  refine callr_of fun xs H Q hh => ?_
  obtain ⟨m, h, ps, r, hr, rs, e, k⟩ := hh
  unfold sumV at e
  split at e
  · rename_i p
    obtain ⟨v, rfl, rv⟩ := rvs1 rs
    cases q : lstOf G h p with
    | none => rw [q] at e; cases e
    | some ys =>
      rw [q] at e
      cases q2 : intsOf ys with
      | none => rw [Option.bind_some, q2] at e; cases e
      | some ns =>
        rw [Option.bind_some, q2] at e; cases e
        obtain ⟨a, vs, rfl, hS, rs'⟩ := lstOf_ok ok hr rv q
        have ev := ints_rv q2 rs'
        subst ev
        exact ⟨_, cr_sum hc, a, ns, rfl, by rw [hK]; exact hS, k.now hr rfl⟩
  · cases e
theorem maxP_of : ∀ {ns : List Int} {i m : Int}, maxP ns = some i → m ∈ ns → (∀ y, y ∈ ns → y ≤ m) → m = i
  | [], _, _, e, _, _ => by cases e
  | a :: r, i, m, e, hm, hl => by
    unfold maxP at e
    split at e
    · rename_i q
      cases e
      cases r with
      | nil => simpa using hm
      | cons b r' => unfold maxP at q; split at q <;> cases q
    · rename_i b q
      cases e
      have hb : b ∈ r ∧ ∀ y, y ∈ r → y ≤ b := by
        clear hm hl
        have all : ∀ (r : List Int) (b : Int), maxP r = some b → b ∈ r ∧ ∀ y, y ∈ r → y ≤ b := by
          intro r
          induction r with
          | nil => intro b q; cases q
          | cons c r ih =>
            intro b q
            unfold maxP at q
            split at q
            · rename_i q2
              cases q
              cases r with
              | nil => exact ⟨List.mem_cons_self, fun y hy => by simp at hy; omega⟩
              | cons d r' => unfold maxP at q2; split at q2 <;> cases q2
            · rename_i d q2
              cases q
              obtain ⟨i1, i2⟩ := ih d q2
              constructor
              · by_cases hcd : c ≤ d
                · rw [Int.max_eq_right hcd]; exact List.mem_cons_of_mem _ i1
                · rw [Int.max_eq_left (by omega)]; exact List.mem_cons_self
              · intro y hy
                rcases List.mem_cons.mp hy with rfl | hy
                · exact Int.le_max_left _ _
                · exact Int.le_trans (i2 y hy) (Int.le_max_right _ _)
        exact all r b q
      have h1 := hl a List.mem_cons_self
      have h2 := hl b (List.mem_cons_of_mem _ hb.1)
      rcases List.mem_cons.mp hm with rfl | hm
      · rw [Int.max_eq_left h2]
      · have h3 := hb.2 m hm
        have h4 : m = b := by omega
        subst h4
        rw [Int.max_eq_right h1]
theorem maxl_ok (hc : X.calm = true) (hK : X.K = T.K) (ok : KOk T G) : CallR X (.builtin "max") (rPrm T (maxlV G)) := by
  refine callr_of fun xs H Q hh => ?_
  obtain ⟨m, h, ps, r, hr, rs, e, k⟩ := hh
  unfold maxlV at e
  split at e
  · rename_i p
    obtain ⟨v, rfl, rv⟩ := rvs1 rs
    cases q : lstOf G h p with
    | none => rw [q] at e; cases e
    | some ys =>
      rw [q] at e
      cases q2 : intsOf ys with
      | none => rw [Option.bind_some, q2] at e; cases e
      | some ns =>
        rw [Option.bind_some, q2] at e
        cases q3 : maxP ns with
        | none => rw [Option.bind_some, q3] at e; cases e
        | some i =>
          rw [Option.bind_some, q3] at e; cases e
          obtain ⟨a, vs, rfl, hS, rs'⟩ := lstOf_ok ok hr rv q
          have ev := ints_rv q2 rs'
          subst ev
          refine ⟨_, cr_max hc, a, ns, rfl, by rw [hK]; exact hS, ?_, fun j hj hl => ?_⟩
          · cases ns with
            | nil => cases q3
            | cons _ _ => exact Nat.succ_pos _
          · rw [maxP_of q3 hj hl]
            exact k.now hr rfl
  · cases e

/-! ### methods -/
/-- what a method of a built-in type needs -/
structure Mth (X : Cx) (name : Str) (Ty id : String) (r : V → List V → Hp → VK → Prop) : Prop where
  pa : PlainAttrs Ty
  slot : Slot Ty name id
  ty : typeOf (.builtin id) = pure (.type "method_descriptor")
  mt : MtR X id r
def tMth (X : Cx) (name : Str) (to : TE) (t : TA) : TE := fun σ H Q => to σ H fun x H1 => ∃ Ty id r, Mth X name Ty id r ∧ tyV X.K Ty x H1 ∧ t σ H1 fun xs H2 => r x xs H2 Q
theorem pe_mth {o e : Expr} {es : List Expr} {to : TE} {t : TA} {name : Str} {apos cpos : Pos} (ho : PE X o to) (ha : PA X (e :: es) t)
    (hbase : attributeBase o name X.env (eval o X.env) = eval o X.env)
    (hfew : ((backTo cpos (starEach (e :: es) X.env)).all (fun x => !x.1) && (backToKw cpos (keywordEach [] X.env)).all (fun x => x.1.isSome) && decide ((e :: es).length + ([] : List Keyword).length + (if ([] : List Keyword).isEmpty then 0 else 1) < 30)) = true)
    (hline : (apos.endLine == cpos.line) = true) (hs : starEach (e :: es) X.env = (false, eval e X.env) :: starEach es X.env) (hplain : (backTo cpos (starEach es X.env)).any (·.1) = false) :
    PE X (.Call (.Attribute o name apos) (e :: es) [] cpos) (tMth X name to t) := by
  refine ⟨fun pins s σ H Q I h => ?_⟩
  refine wpAny_Call_method_late hbase hfew hline rfl (thn (ho.run pins s σ H _ I h) fun v s1 ⟨x, H1, I1, r1, Ty, id, r, M, ty, q1⟩ => ?_)
  obtain ⟨h1, h2⟩ := tyV_is I1 r1 ty
  refine ⟨Ty, id, M.pa, M.slot, M.ty, h1, h2, ?_⟩
  have hA := ha.run cpos pins s1 σ H1 _ I1 q1
  rw [hs] at hA ⊢
  have z : (((false, eval e X.env) :: starEach es X.env).map fun (star, t) => (star, if star then do let v ← t; standAt cpos; pure v else t)).any (·.1) = false := by
    show (false || (backTo cpos (starEach es X.env)).any (·.1)) = false
    rw [hplain]; rfl
  refine Calls.callWith_builtin z (Calls.evalArgs_plain ?_)
  exact thn hA fun us s2 ⟨vs, H2, I2, r2, q2⟩ => M.mt pins s2 σ H2 x vs v us Q I2 r1 r2 q2
theorem pe_mth0 {o : Expr} {to : TE} {name : Str} {apos cpos : Pos} (ho : PE X o to) (hbase : attributeBase o name X.env (eval o X.env) = eval o X.env) (hline : (apos.endLine == cpos.line) = true) :
    PE X (.Call (.Attribute o name apos) [] [] cpos) (tMth X name to tNil) := by
  refine ⟨fun pins s σ H Q I h => ?_⟩
  refine wpAny_Call_method0_late hbase hline (thn (ho.run pins s σ H _ I h) fun v s1 ⟨x, H1, I1, r1, Ty, id, r, M, ty, q1⟩ => ?_)
  obtain ⟨h1, h2⟩ := tyV_is I1 r1 ty
  have z := M.mt pins s1 σ H1 x [] v [] Q I1 r1 .nil q1
  exact ⟨Ty, id, M.pa, M.slot, M.ty, h1, h2, Calls.callWith_builtin rfl (PySem.evalArgs_none z)⟩
def rMt (T : Tab) (f : List PV → PH → R2') : V → List V → Hp → VK → Prop := fun x xs H Q => ∃ m h p ps r, HR T m h H ∧ RV T m p x ∧ RVs T m ps xs ∧ f (p :: ps) h = some r ∧ KR T m r Q
theorem mtr_of {id : String} {r : V → List V → Hp → VK → Prop} (k : ∀ x xs H Q, r x xs H Q → ∃ r' : V → List V → Hp → VK → Prop, MtR X id r' ∧ r' x xs H Q) : MtR X id r := fun pins s σ H x xs v us Q I rx rs h => by
  obtain ⟨r', o, h'⟩ := k x xs H Q h
  exact o pins s σ H x xs v us Q I rx rs h'
theorem append_ok : MtR X "list.append" (rMt T appendV) := by
  refine mtr_of fun x xs H Q hh => ?_
  obtain ⟨m, h, p, ps, r, hr, rx, rs, e, k⟩ := hh
  unfold appendV at e
  split at e
  · rename_i n y hp
    obtain ⟨rfl, rfl⟩ := List.cons.inj hp
    split at e
    · split at e
      · cases e
        rename_i ys hy hz
        obtain ⟨u, rfl, ru⟩ := rvs1 rs
        obtain ⟨a, vs, m1, h1, r1⟩ := hr.lst hy
        obtain ⟨a', m2, rfl⟩ := rx
        rw [m1] at m2; cases m2
        refine ⟨_, mt_append, a, vs, u, rfl, rfl, h1, by rw [← r1.length]; exact hz, ?_⟩
        exact k _ _ _ pre_refl (hr.putL m1 hy h1 (r1.append (.cons ru .nil))) rfl
      · cases e
    · cases e
  · cases e
theorem find_ok : MtR X "str.find" (rMt T findV) := by
  refine mtr_of fun x xs H Q hh => ?_
  obtain ⟨m, h, p, ps, r, hr, rx, rs, e, k⟩ := hh
  unfold findV at e
  split at e
  · rename_i a b i hp
    obtain ⟨rfl, rfl⟩ := List.cons.inj hp
    cases e
    obtain ⟨u, w, rfl, ru, rw'⟩ := rvs2 rs
    have rx : x = _ := rx
    have ru : u = _ := ru
    have rw' : w = _ := rw'
    subst rx; subst ru; subst rw'
    exact ⟨_, mt_find3, _, _, _, rfl, rfl, k.now hr rfl⟩
  · cases e
theorem strs_rv {m : List Addr} : ∀ {ps : List PV} {ys : List (List Nat)} {xs : List V}, strsOf ps = some ys → RVs T m ps xs → xs = (ys.map sOf).map V.str
  | [], _, _, e, .nil => by cases e; rfl
  | p :: ps, ys, _, e, .cons r t => by
    cases p with
    | str l =>
      have e : (strsOf ps).map (l :: ·) = some ys := e
      cases q : strsOf ps with
      | none => rw [q] at e; cases e
      | some ys' =>
        rw [q] at e; cases e
        rw [strs_rv q t]
        have r : _ = V.str (sOf l) := r
        rw [r]; rfl
    | _ => cases e
theorem joinM (a : List Nat) : ∀ ys : List (List Nat), TL.joinL a ys = joinL a ys
  | [] => rfl
  | [_] => rfl
  | x :: z :: r => by
    show x ++ (a ++ TL.joinL a (z :: r)) = x ++ a ++ joinL a (z :: r)
    rw [joinM a (z :: r), List.append_assoc]
theorem joinN_eq (a : List Nat) (ys : List (List Nat)) : Txt.join (sOf a) (ys.map sOf) = sOf (joinL a ys) := by
  rw [TL.join_eq]
  refine TL.ext_tl ?_
  rw [TL.tl_join, List.map_map]
  have e : TL.tl ∘ sOf = id := rfl
  rw [e, List.map_id]
  exact joinM a ys
theorem join_ok (hK : X.K = T.K) (ok : KOk T G) : MtR X "str.join" (rMt T (joinV G)) := by
  refine mtr_of fun x xs H Q hh => ?_
  obtain ⟨m, h, p, ps, r, hr, rx, rs, e, k⟩ := hh
  unfold joinV at e
  split at e
  · rename_i a v hp
    obtain ⟨rfl, rfl⟩ := List.cons.inj hp
    split at e
    · rename_i ys hy
      split at e
      · rename_i hz
        cases e
        obtain ⟨u, rfl, ru⟩ := rvs1 rs
        have rx : x = _ := rx
        subst rx
        cases q : seqOf G h v with
        | none => rw [q] at hy; cases hy
        | some zs =>
          rw [q] at hy
          have hy : strsOf zs = some ys := hy
          obtain ⟨l, vs, rfl, hS, rs'⟩ := seqOf_ok ok hr ru q
          have e1 := strs_rv hy rs'
          subst e1
          refine ⟨_, mt_join, _, l, ys.map sOf, rfl, rfl, by rw [hK]; exact hS, ?_, ?_⟩
          · rw [List.length_map, List.map_map, sOf_len]
            have e2 : (fun x : Str => x.length) ∘ sOf = fun l : List Nat => l.length := funext fun l => sOf_len l
            rw [e2]; exact hz
          · rw [joinN_eq]
            exact k.now hr rfl
      · cases e
    · cases e
  · cases e
theorem pop_ok : MtR X "list.pop" (rMt T popV) := by
  refine mtr_of fun x xs H Q hh => ?_
  obtain ⟨m, h, p, ps, r, hr, rx, rs, e, k⟩ := hh
  unfold popV at e
  split at e
  · rename_i n hp
    obtain ⟨rfl, rfl⟩ := List.cons.inj hp
    split at e
    · rename_i ys hy
      cases q : ys[ys.length - 1]? with
      | none => rw [q] at e; cases e
      | some y =>
        rw [q] at e; cases e
        cases rs
        obtain ⟨a, vs, m1, h1, r1⟩ := hr.lst hy
        obtain ⟨a', m2, rfl⟩ := rx
        rw [m1] at m2; cases m2
        obtain ⟨u, e1, ru⟩ := r1.get q
        rw [r1.length] at e1
        refine ⟨_, mt_pop, a, vs, u, rfl, rfl, h1, e1, ?_⟩
        exact k _ _ _ pre_refl (hr.putL m1 hy h1 r1.dropLast) ru
    · cases e
  · cases e
theorem reverse_ok : MtR X "list.reverse" (rMt T reverseV) := by
  refine mtr_of fun x xs H Q hh => ?_
  obtain ⟨m, h, p, ps, r, hr, rx, rs, e, k⟩ := hh
  unfold reverseV at e
  split at e
  · rename_i n hp
    obtain ⟨rfl, rfl⟩ := List.cons.inj hp
    split at e
    · rename_i ys hy
      cases e
      cases rs
      obtain ⟨a, vs, m1, h1, r1⟩ := hr.lst hy
      obtain ⟨a', m2, rfl⟩ := rx
      rw [m1] at m2; cases m2
      refine ⟨_, mt_reverse, a, vs, rfl, rfl, h1, ?_⟩
      exact k _ _ _ pre_refl (hr.putL m1 hy h1 r1.reverse) rfl
    · cases e
  · cases e
end
end Fw
set_option Elab.async false
set_option linter.all false
set_option maxRecDepth 100000
set_option maxHeartbeats 1000000
/-! Fw5: expressions, one construct after the other. -/
namespace Fw
open PySem PySem.Spec PyProof.Rows L2

/-- an exception, by its class and its own dict -/
def RX (T : Tab) (m : List Addr) (x : PX) (cls : Value) (d : Option Addr) : Prop :=
  (∃ C, T.cls[x.c]? = some C ∧ cls = .ref C) ∧ (match x.d, d with
    | none, none => True
    | some n, some a => m[n]? = some a
    | _, _ => False)
theorem RX.ext {T : Tab} {m m' : List Addr} {x : PX} {cls : Value} {d : Option Addr} (h : m <+: m') (r : RX T m x cls d) : RX T m' x cls d := by
  refine ⟨r.1, ?_⟩
  have q := r.2
  cases hx : x.d <;> cases d <;> simp only [hx] at q ⊢
  exact get_ext h q
abbrev FE := (PX → PH → Prop) → PSt → PH → (PV → PH → Prop) → Prop
abbrev FT := (PX → PH → Prop) → PSt → PH → (Bool → PH → Prop) → Prop
abbrev FA := (PX → PH → Prop) → PSt → PH → (List PV → PH → Prop) → Prop
abbrev FS := (PX → PSt → PH → Prop) → PEnds → PSt → PH → Prop
section
variable (T : Tab) (X : Cx)
def TkE (m : List Addr) (σ : L2.St) (Ef : PX → PH → Prop) : Prop := Takes X fun cls d σ' H' => σ' = σ ∧ ∃ m' h' x, m <+: m' ∧ HR T m' h' H' ∧ RX T m' x cls d ∧ Ef x h'
def TkS (m : List Addr) (Ef : PX → PSt → PH → Prop) : Prop := Takes X fun cls d σ' H' => ∃ m' ps' h' x, m <+: m' ∧ SR T m' ps' σ' ∧ HR T m' h' H' ∧ RX T m' x cls d ∧ Ef x ps' h'
def KT (m : List Addr) (Qf : Bool → PH → Prop) (Q : Bool → Hp → Prop) : Prop := ∀ (m' : List Addr) (h' : PH) (b : Bool) (H' : Hp), m <+: m' → HR T m' h' H' → Qf b h' → Q b H'
def KA (m : List Addr) (Qf : List PV → PH → Prop) (Q : List V → Hp → Prop) : Prop := ∀ (m' : List Addr) (h' : PH) (ps : List PV) (vs : List V) (H' : Hp), m <+: m' → HR T m' h' H' → RVs T m' ps vs → Qf ps h' → Q vs H'
def tE (f : FE) : TE := fun σ H Q => ∃ m ps h Qf Ef, SR T m ps σ ∧ HR T m h H ∧ KQ T m Qf Q ∧ TkE T X m σ Ef ∧ f Ef ps h Qf
def tT (f : FT) : TT := fun σ H Q => ∃ m ps h Qf Ef, SR T m ps σ ∧ HR T m h H ∧ KT T m Qf Q ∧ TkE T X m σ Ef ∧ f Ef ps h Qf
def tA (f : FA) : TA := fun σ H Q => ∃ m ps h Qf Ef, SR T m ps σ ∧ HR T m h H ∧ KA T m Qf Q ∧ TkE T X m σ Ef ∧ f Ef ps h Qf
end
section
variable {T : Tab} {X : Cx} {m m' : List Addr} {σ : L2.St}
theorem TkE.ext {Ef : PX → PH → Prop} (h : m <+: m') (t : TkE T X m σ Ef) : TkE T X m' σ Ef := Takes.imp t fun _ _ _ _ ⟨a, m2, h2, x, b, c, d, e⟩ => ⟨a, m2, h2, x, pre_trans h b, c, d, e⟩
theorem TkS.ext {Ef : PX → PSt → PH → Prop} (h : m <+: m') (t : TkS T X m Ef) : TkS T X m' Ef := Takes.imp t fun _ _ _ _ ⟨m2, p2, h2, x, b, c, d, e, g⟩ => ⟨m2, p2, h2, x, pre_trans h b, c, d, e, g⟩
theorem TkS.at {Ef : PX → PSt → PH → Prop} {ps : PSt} (t : TkS T X m Ef) (r : SR T m ps σ) : TkE T X m σ (fun x h => Ef x ps h) := Takes.imp t fun _ _ _ _ ⟨a, m2, h2, x, b, c, d, e⟩ => by
  subst a
  exact ⟨m2, ps, h2, x, b, r.ext b, c, d, e⟩
theorem TkE.none : TkE T X m σ (fun _ _ => False) := Takes.imp takes0 fun _ _ _ _ ⟨_, _, _, _, _, _, _, e⟩ => e
theorem KQ.ext {Qf : PV → PH → Prop} {Q : VK} (h : m <+: m') (k : KQ T m Qf Q) : KQ T m' Qf Q := fun m2 h2 p v H2 a b c d => k m2 h2 p v H2 (pre_trans h a) b c d
theorem KT.ext {Qf : Bool → PH → Prop} {Q : Bool → Hp → Prop} (h : m <+: m') (k : KT T m Qf Q) : KT T m' Qf Q := fun m2 h2 p H2 a b c => k m2 h2 p H2 (pre_trans h a) b c
theorem KA.ext {Qf : List PV → PH → Prop} {Q : List V → Hp → Prop} (h : m <+: m') (k : KA T m Qf Q) : KA T m' Qf Q := fun m2 h2 p v H2 a b c d => k m2 h2 p v H2 (pre_trans h a) b c d
theorem KQ.at {Qf : PV → PH → Prop} {Q : VK} {r : PV × PH} (k : KQ T m Qf Q) (q : Qf r.1 r.2) : KR T m r Q := fun m2 v H2 a b c => k m2 r.2 r.1 v H2 a b c q
end
/-- another reading -/
theorem pe_imp {X : Cx} {e : Expr} {t u : TE} (h : PE X e t) (k : ∀ σ H Q, u σ H Q → t σ H Q) : PE X e u := ⟨fun pins s σ H Q I q => h.run pins s σ H Q I (k σ H Q q)⟩
theorem pt_imp {X : Cx} {e : Expr} {t u : TT} (h : PT X e t) (k : ∀ σ H Q, u σ H Q → t σ H Q) : PT X e u := ⟨fun pins s σ H Q I q => h.run pins s σ H Q I (k σ H Q q)⟩
theorem pw_imp {X : Cx} {e : Expr} {t u : TT} (h : PW X e t) (k : ∀ σ H Q, u σ H Q → t σ H Q) : PW X e u := ⟨fun wh pins s σ H Q I q => h.run wh pins s σ H Q I (k σ H Q q)⟩
theorem pa_imp {X : Cx} {es : List Expr} {t u : TA} (h : PA X es t) (k : ∀ σ H Q, u σ H Q → t σ H Q) : PA X es u := ⟨fun pos pins s σ H Q I q => h.run pos pins s σ H Q I (k σ H Q q)⟩
/-- whatever reading is chosen at the place -/
theorem pe_any {X : Cx} {e : Expr} {u : TE} (k : ∀ σ H Q, u σ H Q → ∃ t : TE, PE X e t ∧ t σ H Q) : PE X e u := ⟨fun pins s σ H Q I q => by
  obtain ⟨t, h, z⟩ := k σ H Q q
  exact h.run pins s σ H Q I z⟩

/-- what a def promises -/
def spOf (T : Tab) (f : List PV → PH → (PV → PH → Prop) → (PX → PH → Prop) → Prop) (n : Nat) : Sp := fun vs H Q E => vs.length = n ∧ ∃ m ps h Qf Ef, RVs T m ps vs ∧ HR T m h H ∧ KQ T m Qf Q ∧
  (∀ m' h' x cls d H', m <+: m' → HR T m' h' H' → RX T m' x cls d → Ef x h' → E cls d H') ∧ f ps h Qf Ef

abbrev wE (G : Pg) (cl cm : CSem) (ie : IE) : FE := fun E => wpE G cl cm E ie
abbrev wT (G : Pg) (cl cm : CSem) (it : IT) : FT := fun E => wpT G cl cm E it
abbrev wA (G : Pg) (cl cm : CSem) (es : List IE) : FA := fun E => wpEs G cl cm E es
section
variable {X : Cx} {T : Tab} {G : Pg} {cl cm : CSem} {a b c : Expr} {pos : Pos}
theorem sE_var {i : Nat} {x : Str} (hN : X.N[i]? = some x) (hv : Vis X.env.scope x) (hd : (x == ("__debug__" : Str)) = false) (hcd : (x == ("__classdict__" : Str)) = false) : PE X (.Name x pos) (tE T X (wE G cl cm (.var i))) := by
  refine pe_imp (pe_var hN hv hd hcd) fun σ H Q hh => ?_
  obtain ⟨m, ps, h, Qf, Ef, hs, hr, k, tk, v, e, q⟩ := hh
  obtain ⟨u, e1, rv⟩ := hs.get e
  exact ⟨u, e1, k m h v u H pre_refl hr rv q⟩
theorem sE_cst {e : Expr} {p : PV} {v : V} (he : PE X e (tC v)) (r : ∀ m, RV T m p v) : PE X e (tE T X (wE G cl cm (.cst p))) := by
  refine pe_imp he fun σ H Q hh => ?_
  obtain ⟨m, ps, h, Qf, Ef, hs, hr, k, tk, q⟩ := hh
  exact k m h p v H pre_refl hr (r m) q
/-- one after the other -/
theorem two {fa fb : IE} {σ : L2.St} {H : Hp} {m : List Addr} {ps : PSt} {h : PH} {Ef : PX → PH → Prop} {R : PV → PV → PH → Prop} {S : V → V → Hp → Prop} (hs : SR T m ps σ) (hr : HR T m h H) (tk : TkE T X m σ Ef)
    (q : wpE G cl cm Ef fa ps h fun x h1 => wpE G cl cm Ef fb ps h1 fun y h2 => R x y h2)
    (k : ∀ m' h' p q x y H', m <+: m' → HR T m' h' H' → RV T m' p x → RV T m' q y → R p q h' → S x y H') :
    tE T X (wE G cl cm fa) σ H fun x H1 => tE T X (wE G cl cm fb) σ H1 fun y H2 => S x y H2 := by
  refine ⟨m, ps, h, _, Ef, hs, hr, fun m1 h1 p x H1 a1 r1 rx q1 => ?_, tk, q⟩
  exact ⟨m1, ps, h1, _, Ef, hs.ext a1, r1, fun m2 h2 p2 y H2 a2 r2 ry q2 => k m2 h2 p p2 x y H2 (pre_trans a1 a2) r2 (rx.ext a2) ry q2, tk.ext a1, q1⟩
theorem sE_bin (hK : X.K = T.K) (ok : KOk T G) {op : Operator} {fa fb : IE} (ha : PE X a (tE T X (wE G cl cm fa))) (hb : PE X b (tE T X (wE G cl cm fb))) : PE X (.BinOp a op b pos) (tE T X (wE G cl cm (.bin op fa fb))) := by
  refine pe_imp (pe_op (op_bin hK ok) ha hb) fun σ H Q hh => ?_
  obtain ⟨m, ps, h, Qf, Ef, hs, hr, k, tk, q⟩ := hh
  refine two hs hr tk q fun m' h' p q' x y H' ex r rx ry ⟨r', e, q2⟩ => ?_
  exact ⟨m', h', p, q', r', r, rx, ry, e, (k.ext ex).at q2⟩
theorem sE_cmp (hK : X.K = T.K) (ok : KOk T G) (hu : X.A.units + 64 < cLine) {op : CmpOp} {fa fb : IE} (ha : PE X a (tE T X (wE G cl cm fa))) (hb : PE X b (tE T X (wE G cl cm fb))) (hm : behindInMarks op b = false) : PE X (.Compare a [op] [b] pos) (tE T X (wE G cl cm (.cmp op fa fb))) := by
  refine pe_imp (pe_cmpR (op_cmp hK ok hu) ha hb hm) fun σ H Q hh => ?_
  obtain ⟨m, ps, h, Qf, Ef, hs, hr, k, tk, q⟩ := hh
  refine two hs hr tk q fun m' h' p q' x y H' ex r rx ry ⟨b', e, q2⟩ => ?_
  exact ⟨m', h', p, q', b', r, rx, ry, e, k m' h' (.bl b') _ H' ex r rfl q2⟩
theorem sT_cmp (hK : X.K = T.K) (ok : KOk T G) (hu : X.A.units + 64 < cLine) {op : CmpOp} {fa fb : IE} (ha : PE X a (tE T X (wE G cl cm fa))) (hb : PE X b (tE T X (wE G cl cm fb))) (hm : behindInMarks op b = false) :
    PT X (.Compare a [op] [b] pos) (tT T X (wT G cl cm (.tru (.cmp op fa fb)))) := by
  refine pt_imp (pt_cmpR (op_cmp hK ok hu) ha hb hm) fun σ H Q hh => ?_
  obtain ⟨m, ps, h, Qf, Ef, hs, hr, k, tk, q⟩ := hh
  have q' : wpE G cl cm Ef fa ps h fun x h1 => wpE G cl cm Ef fb ps h1 fun y h2 => ∃ r, cmpV G op x y h2 = some r ∧ ∃ c, truP G h2 (.bl r) = some c ∧ Qf c h2 := q
  refine two hs hr tk q' fun m' h' p q' x y H' ex r rx ry ⟨b', e, c, e2, q2⟩ => ?_
  have e2 : some b' = some c := e2
  cases e2
  exact ⟨m', h', p, q', b', r, rx, ry, e, b', rfl, k m' h' _ H' ex r q2⟩
theorem sE_chn (hK : X.K = T.K) (ok : KOk T G) (hu : X.A.units + 64 < cLine) {op op' : CmpOp} {fa fb fc : IE} (ha : PE X a (tE T X (wE G cl cm fa))) (hb : PE X b (tE T X (wE G cl cm fb))) (hc : PE X c (tE T X (wE G cl cm fc))) (hm : lastMarks [op, op'] [b, c] = false) :
    PE X (.Compare a [op, op'] [b, c] pos) (tE T X (wE G cl cm (.chn op op' fa fb fc))) := by
  refine pe_imp (pe_chain (op_cmp hK ok hu) (op_cmp hK ok hu) ha hb hc hm) fun σ H Q hh => ?_
  obtain ⟨m, ps, h, Qf, Ef, hs, hr, k, tk, q⟩ := hh
  refine two hs hr tk q fun m' h' p q' x y H' ex r rx ry ⟨b', e, q2⟩ => ?_
  refine ⟨m', h', p, q', b', r, rx, ry, e, b', rfl, ?_⟩
  cases b' with
  | false => exact k m' h' (.bl false) _ H' ex r rfl q2
  | true =>
    refine ⟨m', ps, h', _, Ef, hs.ext ex, r, fun m2 h2 p2 z H2 a2 r2 rz q3 => ?_, tk.ext ex, q2⟩
    obtain ⟨b2, e2, q3⟩ := q3
    exact ⟨m2, h2, q', p2, b2, r2, ry.ext a2, rz, e2, k m2 h2 (.bl b2) _ H2 (pre_trans ex a2) r2 rfl q3⟩
theorem sE_neg {fa : IE} (ha : PE X a (tE T X (wE G cl cm fa))) : PE X (.UnaryOp .USub a pos) (tE T X (wE G cl cm (.neg fa))) := by
  refine pe_imp (pe_un un_neg ha) fun σ H Q hh => ?_
  obtain ⟨m, ps, h, Qf, Ef, hs, hr, k, tk, q⟩ := hh
  refine ⟨m, ps, h, _, Ef, hs, hr, fun m1 h1 p x H1 a1 r1 rx q1 => ?_, tk, q⟩
  obtain ⟨i, rfl, q1⟩ := q1
  exact ⟨i, rx, k m1 h1 (.int (-i)) _ H1 a1 r1 rfl q1⟩
theorem tru_rv (ok : KOk T G) {m : List Addr} {h : PH} {H : Hp} (hr : HR T m h H) {p : PV} {v : V} {c : Bool} (rv : RV T m p v) (e : truP G h p = some c) : TruV T.K v H c := by
  unfold truP at e
  split at e
  · cases e; have rv : v = _ := rv; subst rv; rfl
  · cases e; have rv : v = _ := rv; subst rv; rfl
  · cases e; have rv : v = _ := rv; subst rv
    rename_i i
    show decide (i ≠ 0) = (i != 0)
    by_cases h0 : i = 0 <;> simp [h0]
  · split at e
    · cases e; have rv : v = _ := rv; subst rv
      rename_i l hz
      refine ⟨by rw [sOf_len]; exact hz, ?_⟩
      rw [sOf_len]
      cases l with
      | nil => rfl
      | cons x r =>
        show true = (((r.length + 1 : Nat) : Int) != 0)
        have : ((r.length + 1 : Nat) : Int) ≠ 0 := by omega
        exact (bne_iff_ne.mpr this).symm
    · cases e
  · rename_i n
    obtain ⟨a, m1, rfl⟩ := rv
    have em : ∀ {xs : List PV} {vs : List V}, RVs T m xs vs → (!xs.isEmpty) = !vs.isEmpty := fun r => by cases r <;> rfl
    split at e
    · rename_i xs hx
      cases e
      obtain ⟨vs, e2, r2⟩ := hr.obj _ _ _ m1 hx
      exact .inl ⟨vs, .of e2, em r2⟩
    · rename_i xs hx
      cases e
      obtain ⟨vs, e2, r2⟩ := hr.obj _ _ _ m1 hx
      refine .inl ⟨vs, ?_, em r2⟩
      rcases e2 with ⟨o, e2⟩ | e2
      · exact .inl (.inr ⟨o, e2⟩)
      · exact .inr e2
    · rename_i xs hx
      cases e
      obtain ⟨vs, e2, r2⟩ := hr.obj _ _ _ m1 hx
      exact .inr (.inl ⟨vs, .of e2, em r2⟩)
    · rename_i xs hx
      cases e
      obtain ⟨vs, e2, r2⟩ := hr.obj _ _ _ m1 hx
      refine .inr (.inr ⟨vs, e2, ?_⟩)
      cases r2 <;> rfl
    · cases e
  · rename_i n
    obtain ⟨a, o, m1, rfl⟩ := rv
    split at e
    · rename_i xs hx
      cases e
      obtain ⟨a', e2⟩ := kon_get ok hx
      rw [m1] at e2; cases e2
      rcases ok.tup _ _ _ m1 with ⟨xs', vs, z, kk, rr⟩ | ⟨_, z⟩
      · cases z
        refine .inr (.inl ⟨vs, .inr kk, ?_⟩)
        cases rr <;> rfl
      · cases z
    · cases e
  · cases e
theorem sE_not (hK : X.K = T.K) (ok : KOk T G) {fa : IE} (ha : PE X a (tE T X (wE G cl cm fa))) : PE X (.UnaryOp .Not a pos) (tE T X (wE G cl cm (.not fa))) := by
  refine pe_imp (pe_notT ha) fun σ H Q hh => ?_
  obtain ⟨m, ps, h, Qf, Ef, hs, hr, k, tk, q⟩ := hh
  refine ⟨m, ps, h, _, Ef, hs, hr, fun m1 h1 p x H1 a1 r1 rx q1 => ?_, tk, q⟩
  obtain ⟨c, e, q1⟩ := q1
  exact ⟨c, by rw [hK]; exact tru_rv ok r1 rx e, k m1 h1 (.bl (!c)) _ H1 a1 r1 rfl q1⟩
theorem sE_and (hK : X.K = T.K) (ok : KOk T G) {rest : List Expr} {fa fb : IE} (ha : PE X a (tE T X (wE G cl cm fa))) (hb : PE X (.BoolOp .And (b :: rest) pos) (tE T X (wE G cl cm fb))) : PE X (.BoolOp .And (a :: b :: rest) pos) (tE T X (wE G cl cm (.and fa fb))) := by
  refine pe_imp (pe_andT ha hb) fun σ H Q hh => ?_
  obtain ⟨m, ps, h, Qf, Ef, hs, hr, k, tk, q⟩ := hh
  refine ⟨m, ps, h, _, Ef, hs, hr, fun m1 h1 p x H1 a1 r1 rx q1 => ?_, tk, q⟩
  obtain ⟨c, e, q1⟩ := q1
  refine ⟨c, by rw [hK]; exact tru_rv ok r1 rx e, ?_⟩
  cases c with
  | true => exact ⟨m1, ps, h1, Qf, Ef, hs.ext a1, r1, k.ext a1, tk.ext a1, q1⟩
  | false => exact k m1 h1 _ _ H1 a1 r1 rx q1
theorem sE_or (hK : X.K = T.K) (ok : KOk T G) {rest : List Expr} {fa fb : IE} (ha : PE X a (tE T X (wE G cl cm fa))) (hb : PE X (.BoolOp .Or (b :: rest) pos) (tE T X (wE G cl cm fb))) : PE X (.BoolOp .Or (a :: b :: rest) pos) (tE T X (wE G cl cm (.or fa fb))) := by
  refine pe_imp (pe_orT ha hb) fun σ H Q hh => ?_
  obtain ⟨m, ps, h, Qf, Ef, hs, hr, k, tk, q⟩ := hh
  refine ⟨m, ps, h, _, Ef, hs, hr, fun m1 h1 p x H1 a1 r1 rx q1 => ?_, tk, q⟩
  obtain ⟨c, e, q1⟩ := q1
  refine ⟨c, by rw [hK]; exact tru_rv ok r1 rx e, ?_⟩
  cases c with
  | true => exact k m1 h1 _ _ H1 a1 r1 rx q1
  | false => exact ⟨m1, ps, h1, Qf, Ef, hs.ext a1, r1, k.ext a1, tk.ext a1, q1⟩
/-! tests -/
theorem sT_tru (hK : X.K = T.K) (ok : KOk T G) {fa : IE} (ha : PE X a (tE T X (wE G cl cm fa))) (he : ∀ whole, isTrue a X.env whole = (do let v ← whole; standAt a.pos; holding [v] (truthy v))) : PT X a (tT T X (wT G cl cm (.tru fa))) := by
  refine pt_imp (pt_truth ha he) fun σ H Q hh => ?_
  obtain ⟨m, ps, h, Qf, Ef, hs, hr, k, tk, q⟩ := hh
  refine ⟨m, ps, h, _, Ef, hs, hr, fun m1 h1 p x H1 a1 r1 rx q1 => ?_, tk, q⟩
  obtain ⟨c, e, q1⟩ := q1
  exact ⟨c, by rw [hK]; exact tru_rv ok r1 rx e, k m1 h1 _ H1 a1 r1 q1⟩
theorem sT_chn (hK : X.K = T.K) (ok : KOk T G) (hu : X.A.units + 64 < cLine) {op op' : CmpOp} {fa fb fc : IE} (ha : PE X a (tE T X (wE G cl cm fa))) (hb : PE X b (tE T X (wE G cl cm fb))) (hc : PE X c (tE T X (wE G cl cm fc))) (hm : lastMarks [op, op'] [b, c] = false) :
    PT X (.Compare a [op, op'] [b, c] pos) (tT T X (wT G cl cm (.tru (.chn op op' fa fb fc)))) := by
  refine pt_imp (pt_chain (op_cmp hK ok hu) (op_cmp hK ok hu) ha hb hc hm) fun σ H Q hh => ?_
  obtain ⟨m, ps, h, Qf, Ef, hs, hr, k, tk, q⟩ := hh
  refine two hs hr tk q fun m' h' p q' x y H' ex r rx ry ⟨b', e, q2⟩ => ?_
  refine ⟨m', h', p, q', b', r, rx, ry, e, b', rfl, ?_⟩
  cases b' with
  | false =>
    obtain ⟨c, e2, q2⟩ := q2
    cases e2
    exact ⟨false, rfl, k m' h' _ H' ex r q2⟩
  | true =>
    refine ⟨m', ps, h', _, Ef, hs.ext ex, r, fun m2 h2 p2 z H2 a2 r2 rz q3 => ?_, tk.ext ex, q2⟩
    obtain ⟨b2, e2, c, e3, q3⟩ := q3
    cases e3
    exact ⟨m2, h2, q', p2, b2, r2, ry.ext a2, rz, e2, b2, rfl, k m2 h2 _ H2 (pre_trans ex a2) r2 q3⟩
theorem sT_not {fa : IT} (ha : PT X a (tT T X (wT G cl cm fa))) : PT X (.UnaryOp .Not a pos) (tT T X (wT G cl cm (.not fa))) := by
  refine pt_imp (pt_not ha) fun σ H Q hh => ?_
  obtain ⟨m, ps, h, Qf, Ef, hs, hr, k, tk, q⟩ := hh
  exact ⟨m, ps, h, _, Ef, hs, hr, fun m1 h1 c H1 a1 r1 q1 => k m1 h1 _ H1 a1 r1 q1, tk, q⟩
theorem sT_and {rest : List Expr} {fa fb : IT} (ha : PT X a (tT T X (wT G cl cm fa))) (hb : PW X (.BoolOp .And (b :: rest) pos) (tT T X (wT G cl cm fb))) : PW X (.BoolOp .And (a :: b :: rest) pos) (tT T X (wT G cl cm (.and fa fb))) := by
  refine pw_imp (pw_and ha hb) fun σ H Q hh => ?_
  obtain ⟨m, ps, h, Qf, Ef, hs, hr, k, tk, q⟩ := hh
  refine ⟨m, ps, h, _, Ef, hs, hr, fun m1 h1 c H1 a1 r1 q1 => ?_, tk, q⟩
  cases c with
  | true => exact ⟨m1, ps, h1, Qf, Ef, hs.ext a1, r1, k.ext a1, tk.ext a1, q1⟩
  | false => exact k m1 h1 _ H1 a1 r1 q1
theorem sT_or {rest : List Expr} {fa fb : IT} (ha : PT X a (tT T X (wT G cl cm fa))) (hb : PW X (.BoolOp .Or (b :: rest) pos) (tT T X (wT G cl cm fb))) : PW X (.BoolOp .Or (a :: b :: rest) pos) (tT T X (wT G cl cm (.or fa fb))) := by
  refine pw_imp (pw_or ha hb) fun σ H Q hh => ?_
  obtain ⟨m, ps, h, Qf, Ef, hs, hr, k, tk, q⟩ := hh
  refine ⟨m, ps, h, _, Ef, hs, hr, fun m1 h1 c H1 a1 r1 q1 => ?_, tk, q⟩
  cases c with
  | true => exact k m1 h1 _ H1 a1 r1 q1
  | false => exact ⟨m1, ps, h1, Qf, Ef, hs.ext a1, r1, k.ext a1, tk.ext a1, q1⟩
/-! arguments -/
theorem sA_nil : PA X [] (tA T X (wA G cl cm [])) := by
  refine pa_imp pa_nil fun σ H Q hh => ?_
  obtain ⟨m, ps, h, Qf, Ef, hs, hr, k, tk, q⟩ := hh
  exact k m h [] [] H pre_refl hr .nil q
theorem sA_cons {es : List Expr} {fa : IE} {fs : List IE} (ha : PE X a (tE T X (wE G cl cm fa))) (hr : PA X es (tA T X (wA G cl cm fs))) (hst : starEach (a :: es) X.env = (false, eval a X.env) :: starEach es X.env) : PA X (a :: es) (tA T X (wA G cl cm (fa :: fs))) := by
  refine pa_imp (pa_cons ha hr hst) fun σ H Q hh => ?_
  obtain ⟨m, ps, h, Qf, Ef, hs, hr, k, tk, q⟩ := hh
  refine ⟨m, ps, h, _, Ef, hs, hr, fun m1 h1 p x H1 a1 r1 rx q1 => ?_, tk, q⟩
  refine ⟨m1, ps, h1, _, Ef, hs.ext a1, r1, fun m2 h2 ps2 vs H2 a2 r2 rs q2 => ?_, tk.ext a1, q1⟩
  exact k m2 h2 _ _ H2 (pre_trans a1 a2) r2 (.cons (rx.ext a2) rs) q2
theorem sE_lst {es : List Expr} {fs : List IE} (h : PA X es (tA T X (wA G cl cm fs))) : PE X (.List es pos) (tE T X (wE G cl cm (.lst fs))) := by
  refine pe_imp (pe_lst h) fun σ H Q hh => ?_
  obtain ⟨m, ps, h, Qf, Ef, hs, hr, k, tk, q⟩ := hh
  refine ⟨m, ps, h, _, Ef, hs, hr, fun m1 h1 ps1 vs H1 a1 r1 rs q1 => ?_, tk, q⟩
  exact ⟨by rw [← rs.length]; exact q1.1, fun p hp => ((k.ext a1).at (r := (_, _)) q1.2).newL r1 rs hp⟩
theorem sE_tup {es : List Expr} {fs : List IE} {x1 : Nat} (h : PA X es (tA T X (wA G cl cm fs))) : PE X (.Tuple es x1 pos) (tE T X (wE G cl cm (.tup fs))) := by
  refine pe_imp (pe_tup h) fun σ H Q hh => ?_
  obtain ⟨m, ps, h, Qf, Ef, hs, hr, k, tk, q⟩ := hh
  refine ⟨m, ps, h, _, Ef, hs, hr, fun m1 h1 ps1 vs H1 a1 r1 rs q1 => ?_, tk, q⟩
  exact ⟨by rw [← rs.length]; exact q1.1, fun p hp => ((k.ext a1).at (r := (_, _)) q1.2).newT r1 rs hp⟩
/-! places -/
theorem ixr_of {r : R2} (k : ∀ x y H Q, r x y H Q → ∃ r' : R2, IxR X r' ∧ r' x y H Q) : IxR X r := fun value slice pins s σ H x y v u Q I rx ry h hs => by
  obtain ⟨r', o, h'⟩ := k x y H Q h
  exact o value slice pins s σ H x y v u Q I rx ry h' hs
def rIdx (T : Tab) (f : PV → PV → PH → Option PV) : R2 := fun x y H Q => ∃ m h p q r, HR T m h H ∧ RV T m p x ∧ RV T m q y ∧ f p q h = some r ∧ KR T m (r, h) Q
theorem atI_map {α : Type} {xs : List α} {i : Int} {r : α} (e : atI xs i = some r) : ∃ j, ixN xs.length i = some j ∧ xs[j]? = some r := by
  unfold atI at e
  cases q : ixN xs.length i with
  | none => rw [q] at e; cases e
  | some j => rw [q] at e; exact ⟨j, rfl, e⟩
theorem atI_rv {m : List Addr} {ps : List PV} {vs : List V} {i : Int} {p : PV} (rs : RVs T m ps vs) (e : atI ps i = some p) : ∃ v, atI vs i = some v ∧ RV T m p v := by
  obtain ⟨j, e1, e2⟩ := atI_map e
  obtain ⟨v, e3, rv⟩ := rs.get e2
  refine ⟨v, ?_, rv⟩
  unfold atI
  rw [← rs.length, e1]
  exact e3
theorem idx_ok (hK : X.K = T.K) (ok : KOk T G) : IxR X (rIdx T (fun x i h => idxP G h x i)) := by
  refine ixr_of fun x y H Q hh => ?_
  obtain ⟨m, h, p, q, r, hr, rx, ry, e0, k⟩ := hh
  have e : idxP G h p q = some r := e0
  clear e0
  unfold idxP at e
  split at e
  · rename_i i
    have ry : y = .int i := ry
    subst ry
    split at e
    · split at e
      · rename_i l hz
        have rx : x = .str (sOf l) := rx
        subst rx
        cases q1 : atI l i with
        | none => rw [q1] at e; cases e
        | some c =>
          rw [q1] at e; cases e
          exact ⟨_, ix_str, sOf l, i, c, rfl, rfl, by rw [sOf_len]; exact hz, by rw [sOf_list]; exact q1, k.now hr rfl⟩
      · cases e
    · split at e
      · rename_i ys q1
        obtain ⟨a, vs, rfl, hS, rs⟩ := seqOf_ok ok hr rx q1
        obtain ⟨v, e2, rv⟩ := atI_rv rs e
        rcases hS with hS | hS
        · exact ⟨_, ix_list, a, vs, i, v, rfl, rfl, by rw [hK]; exact hS, e2, k.now hr rv⟩
        · exact ⟨_, ix_tup, a, vs, i, v, rfl, rfl, by rw [hK]; exact hS, e2, k.now hr rv⟩
      · cases e
  · cases e
theorem sE_idx (hK : X.K = T.K) (ok : KOk T G) {fa fb : IE} (ha : PE X a (tE T X (wE G cl cm fa))) (hb : PE X b (tE T X (wE G cl cm fb))) (hp : PlainIx b) : PE X (.Subscript a b pos) (tE T X (wE G cl cm (.idx fa fb))) := by
  refine pe_imp (pe_ix (idx_ok hK ok) ha hb hp) fun σ H Q hh => ?_
  obtain ⟨m, ps, h, Qf, Ef, hs, hr, k, tk, q⟩ := hh
  refine two hs hr tk q fun m' h' p q' x y H' ex r rx ry ⟨v, e, q2⟩ => ?_
  exact ⟨m', h', p, q', v, r, rx, ry, e, (k.ext ex).at (r := (v, h')) q2⟩
/-! slices -/
theorem slr_of {r : V → Option Int → Option Int → Hp → VK → Prop} (k : ∀ x a b H Q, r x a b H Q → ∃ r' : V → Option Int → Option Int → Hp → VK → Prop, SlR X r' ∧ r' x a b H Q) : SlR X r := fun pins s σ H x v vl vu lo hi sl Q I rx h1 h2 h3 h => by
  obtain ⟨r', o, h'⟩ := k x lo hi H Q h
  exact o pins s σ H x v vl vu lo hi sl Q I rx h1 h2 h3 h'
def rSlc (T : Tab) (G : Pg) : V → Option Int → Option Int → Hp → VK → Prop := fun x a b H Q => ∃ m h p r, HR T m h H ∧ RV T m p x ∧ slcV G p a b h = some r ∧ KR T m r Q
theorem cut_rv {m : List Addr} {ps : List PV} {vs : List V} {a b : Option Int} (rs : RVs T m ps vs) : RVs T m (cutP ps a b) (cutV vs a b) := by
  unfold cutP cutV
  rw [← rs.length]
  exact (rs.drop _).take _
theorem slc_ok (hK : X.K = T.K) (ok : KOk T G) : SlR X (rSlc T G) := by
  refine slr_of fun x a b H Q hh => ?_
  obtain ⟨m, h, p, r, hr, rx, e, k⟩ := hh
  unfold slcV at e
  split at e
  · split at e
    · cases e
      rename_i l hz
      have rx : x = .str (sOf l) := rx
      subst rx
      refine ⟨_, sl_str, sOf l, rfl, by rw [sOf_len]; exact hz, ?_⟩
      have : cutS (sOf l) a b = sOf (cutP l a b) := by
        unfold cutS cutP
        rw [sOf_list, sOf_len]; rfl
      rw [this]
      exact k.now hr rfl
    · cases e
  · split at e
    · rename_i ys q1
      cases e
      obtain ⟨a', vs, rfl, hS, rs⟩ := lstOf_ok ok hr rx q1
      exact ⟨_, sl_list, a', vs, rfl, by rw [hK]; exact hS, fun l hl => k.newL hr (cut_rv rs) hl⟩
    · split at e
      · rename_i ys q1
        split at e
        · rename_i hz
          cases e
          obtain ⟨a', vs, rfl, hS, rs⟩ := tupOf_ok ok hr rx q1
          refine ⟨_, sl_tupA, a', vs, rfl, by rw [hK]; exact hS, fun _ => k.now hr rx, fun hn => absurd ?_ hn⟩
          rw [← rs.length]; exact hz
        · rename_i hz
          cases e
          obtain ⟨a', vs, rfl, hS, rs⟩ := tupOf_ok ok hr rx q1
          refine ⟨_, sl_tupA, a', vs, rfl, by rw [hK]; exact hS, fun hw => absurd ?_ hz, fun _ l hl => k.newT hr (cut_rv rs) hl⟩
          rw [rs.length]; exact hw
      · cases e
abbrev wO (G : Pg) (cl cm : CSem) (o : Option IE) : (PX → PH → Prop) → PSt → PH → (Option PV → PH → Prop) → Prop := fun E => wpO G cl cm E o
def tO (T : Tab) (X : Cx) (f : (PX → PH → Prop) → PSt → PH → (Option PV → PH → Prop) → Prop) : TO := fun σ H Q => ∃ m ps h Qf Ef, SR T m ps σ ∧ HR T m h H ∧
  (∀ m' h' o H', m <+: m' → HR T m' h' H' → Qf o h' → ∃ a, partP o = some a ∧ Q a H') ∧ TkE T X m σ Ef ∧ f Ef ps h Qf
theorem po_imp {e : Option Expr} {t u : TO} (h : L2.PO X e t) (k : ∀ σ H Q, u σ H Q → t σ H Q) : L2.PO X e u := ⟨fun pins s σ H Q I q => h.run pins s σ H Q I (k σ H Q q)⟩
theorem sO_none : L2.PO X none (tO T X (wO G cl cm none)) := by
  refine po_imp po_none fun σ H Q hh => ?_
  obtain ⟨m, ps, h, Qf, Ef, hs, hr, k, tk, q⟩ := hh
  obtain ⟨a, e, z⟩ := k m h _ H pre_refl hr q
  cases e
  exact z
theorem sO_some {fa : IE} (ha : PE X a (tE T X (wE G cl cm fa))) : L2.PO X (some a) (tO T X (wO G cl cm (some fa))) := by
  refine po_imp (po_some ha) fun σ H Q hh => ?_
  obtain ⟨m, ps, h, Qf, Ef, hs, hr, k, tk, q⟩ := hh
  refine ⟨m, ps, h, _, Ef, hs, hr, fun m1 h1 p x H1 a1 r1 rx q1 => ?_, tk, q⟩
  obtain ⟨i, e, z⟩ := k m1 h1 _ H1 a1 r1 q1
  cases p with
  | int j =>
    cases e
    exact ⟨j, rx, z⟩
  | _ => cases e
theorem sE_slc (hK : X.K = T.K) (ok : KOk T G) {fa : IE} {lo hi : Option Expr} {fl fh : Option IE} {p2 : Pos} (ha : PE X a (tE T X (wE G cl cm fa))) (hl : L2.PO X lo (tO T X (wO G cl cm fl))) (hh : L2.PO X hi (tO T X (wO G cl cm fh))) :
    PE X (.Subscript a (.Slice lo hi none p2) pos) (tE T X (wE G cl cm (.slc fa fl fh))) := by
  refine pe_imp (pe_slice (slc_ok (G := G) hK ok) ha hl hh) fun σ H Q hh => ?_
  obtain ⟨m, ps, h, Qf, Ef, hs, hr, k, tk, q⟩ := hh
  refine ⟨m, ps, h, _, Ef, hs, hr, fun m1 h1 p x H1 a1 r1 rx q1 => ?_, tk, q⟩
  refine ⟨m1, ps, h1, _, Ef, hs.ext a1, r1, fun m2 h2 o H2 a2 r2 q2 => ?_, tk.ext a1, q1⟩
  obtain ⟨lo', e1, q2⟩ := q2
  refine ⟨lo', e1, m2, ps, h2, _, Ef, hs.ext (pre_trans a1 a2), r2, fun m3 h3 o' H3 a3 r3 q3 => ?_, tk.ext (pre_trans a1 a2), q2⟩
  obtain ⟨hi', e2, r, e3, q3⟩ := q3
  exact ⟨hi', e2, m3, h3, p, r, r3, rx.ext (pre_trans a2 a3), e3, (k.ext (pre_trans a1 (pre_trans a2 a3))).at q3⟩
end
end Fw
set_option Elab.async false
set_option linter.all false
set_option maxRecDepth 100000
set_option maxHeartbeats 1000000
/-! FwR: list(reversed(xs)), xs a list. -/
namespace Fw
open PySem PySem.Spec PyProof.Rows L2 RT
section
variable {prog : Program} {w : World} {A : Around} {E : Value → Shared → Prop} {s : Shared}
theorem rl_extend {S it l : Addr} {items : Array Value} {c0 : Nat} {R : Result → Shared → Prop} (hh : A.handled = none) (hS : s.heap.get? S = some { cls := .type "list", data := .seq #[] c0 }) (hit : s.heap.IsRevIter it l ((items.size : Int) - 1)) (hl : s.heap.IsList l items) (hne : l ≠ it) (hn : items.size ≤ sizeLine) (nS : S ≠ it) (nL : S ≠ l)
    (hR : ∀ (h' : Heap) (tk : Nat) (acc : Array Value) (c' : Nat), (∀ b o, b ≠ S → b ≠ it → s.heap.get? b = some o → h'.get? b = some o) → h'.get? S = some { cls := .type "list", dict := none, data := .seq acc c', slots := #[] } → ItemsOf (fun i v => items[items.size - 1 - i]? = some v) acc items.size → R (.ok (.ret .none)) { s with heap := h', toks := tk }) :
    wpAny (model prog w) A.in1 (Builtin.List.listExtendWith (.ref S) (.ref it) .none)
      (fun fin s' => match fin with | .done f => R (.ok f) s' | .again c' => c'.quiet = true ∧ codeAny (model prog w) A c' R s') (fun e s' => R (.error e) s') s := by
  have W := (Walks.listRev (prog := prog) (w := w) (A := A.in1) hh it l hne items).toS
  have hSf : S ∉ [it, l] := by simp only [List.mem_cons, List.not_mem_nil, or_false, not_or]; exact ⟨nS, nL⟩
  have hT : s.TypeIs (.ref it) "list_reverseiterator" := Heap.IsRevIter.typeIs hit
  have h1 : Builtin.List.listSameRef (.ref S) (.ref it) = false := by simp [Builtin.List.listSameRef, nS]
  unfold Builtin.List.listExtendWith
  refine wpAny_bind (wpAny_typeOf hT ?_)
  rw [if_neg (by rw [h1]; decide)]
  refine wpAny_bind (wpAny_pyIter_revIter hit ?_)
  refine wpAny_bind (wpAny_holding ?_)
  unfold Builtin.List.listLengthHint
  refine wpAny_bind (wpAny_specialOf hT nolen_lri ?_)
  show wpAny _ A.in1 (specialOf (Value.ref it) (Str.ofString "__length_hint__") >>= _) _ _ _
  refine wpAny_bind (wpAny_specialOf hT hint_lri ?_)
  generalize hid : ("list_reverseiterator.__length_hint__" : String) = idz
  wp_delta
  rw [show splitId idz = some ("list_reverseiterator", "__length_hint__") from by subst hid; decide +kernel]
  subst hid
  refine wpAny_bind (wpAny_isInstance (b := true) hT (by rw [isSubtype_type]; kernel_rfl) ?_)
  refine wpAny_pure ?_
  rw [if_neg (by decide)]
  have ez : ((items.size : Nat) : Int) - 1 - ((0 : Nat) : Int) = (items.size : Int) - 1 := by omega
  refine wpAny_pure ⟨plainId_quiet F.plain_extend_loop _, codeAny_extend_loopS W hn _ hSf _ items.size 0 _ _ _ rfl (Nat.zero_le _) ⟨Nat.zero_le _, by rw [ez]; exact hit, hl⟩ hS (ItemsOf.nil _) fun s' acc' c' hm hS' hacc => ?_⟩
  have ew := Moved.eq_with hm
  rw [ew]
  refine hR s'.heap s'.toks acc' c' (fun b o nb ni e => hm.heap b o (fun hmem => ?_) e) hS' hacc
  rcases List.mem_cons.mp hmem with e' | hmem
  · exact nb e'
  · exact ni (List.mem_singleton.mp hmem)
theorem call_list_revd {it l : Addr} {items : Array Value} {Q : Value → Shared → Prop} (hh : A.handled = none) (hit : s.heap.IsRevIter it l ((items.size : Int) - 1)) (hl : s.heap.IsList l items) (hne : l ≠ it) (hn : items.size ≤ sizeLine)
    (hQ : ∀ (h' : Heap) (tk : Nat) (acc : Array Value) (c' : Nat), (∀ b o, b ≠ it → s.heap.get? b = some o → h'.get? b = some o) → h'.get? s.heap.objs.size = some { cls := .type "list", dict := none, data := .seq acc c', slots := #[] } → ItemsOf (fun i v => items[items.size - 1 - i]? = some v) acc items.size → Q (.ref s.heap.objs.size) { s with heap := h', toks := tk }) :
    wpAny (model prog w) A (call (.type "list") [.ref it]) Q E s := by
  obtain ⟨oi, hoi, _⟩ := id hit
  obtain ⟨ol, hol, _⟩ := id hl
  have n1 : s.heap.objs.size ≠ it := Nat.ne_of_gt (Heap.lt_size hoi)
  have n2 : s.heap.objs.size ≠ l := Nat.ne_of_gt (Heap.lt_size hol)
  refine callType_codes (Q₁ := fun ox sx => ox = .ref s.heap.objs.size ∧ sx = { s with heap := s.heap.push { cls := .type "list", data := .seq #[] } }) F.called_list (F.typeCall_list_1 _) F.entry_list_init
    (code_list_new _ ⟨rfl, rfl⟩) fun ox sx hx => ?_
  obtain ⟨rfl, rfl⟩ := hx
  have hS : (s.heap.push { cls := .type "list", data := .seq #[] }).get? s.heap.objs.size = some { cls := .type "list", data := .seq #[] } := Heap.get?_push_size _ rfl
  refine ⟨⟨_, hS, rfl⟩, F.args_list_init_2 _ _, ?_⟩
  show wpAny _ A.in1.in1 (do let old ← Builtin.List.listItems (.ref s.heap.objs.size); Builtin.List.listUpdate (.ref s.heap.objs.size) (fun _ => #[]); letGo old.toList.reverse; Builtin.List.listExtendWith (.ref s.heap.objs.size) (.ref it) .none) _ _ _
  refine wpAny_bind ?_
  unfold Builtin.List.listItems
  refine wpAny_bind (wpAny_seqItems hS rfl (wpAny_pure ?_))
  show wpAny _ A.in1.in1 (updateSeq s.heap.objs.size (fun _ => #[]) >>= fun _ => letGo (#[] : Array Value).toList.reverse >>= fun _ => Builtin.List.listExtendWith (.ref s.heap.objs.size) (.ref it) .none) _ _ _
  refine wpAny_bind (wpAny_updateSeq hS rfl ?_)
  have hS2 := Heap.get?_update_self (Obj.mapSeq (fun _ => (#[] : Array Value))) hS rfl
  refine wpAny_bind (wpAny_letGo ?_)
  have k : ∀ b o, b ≠ s.heap.objs.size → s.heap.get? b = some o → ((s.heap.push { cls := .type "list", data := .seq #[] }).update s.heap.objs.size (Obj.mapSeq (fun _ => (#[] : Array Value)))).get? b = some o := fun b o nb e => (Heap.get?_update_other _ _ (Ne.symm nb)).trans (Heap.get?_push_of_some _ e)
  refine rl_extend (A := A.in1) (s := { s with heap := (s.heap.push { cls := .type "list", data := .seq #[] }).update s.heap.objs.size (Obj.mapSeq (fun _ => (#[] : Array Value))) }) hh hS2 (hit.at fun o e => k _ o (Ne.symm n1) e) (hl.at fun o e => k _ o (Ne.symm n2) e) hne hn n1 n2 fun h' tk acc c' hk hS' hacc => ?_
  refine ⟨rfl, hQ h' tk acc c' (fun b o nb e => hk b o (Nat.ne_of_lt (Heap.lt_size e)) nb (k b o (Nat.ne_of_lt (Heap.lt_size e)) e)) hS' hacc⟩
end
def tListRev (K : PySem.W.Frag) (te : TE) : TE := fun σ H Q => te σ H fun v H1 => ∃ (a : Addr) (xs : List V), v = .ref a ∧ SqL K H1 a xs ∧ ∀ q, H1 q = none → Q (.ref q) (upd H1 q (.lst xs.reverse))
section
variable {X : Cx}
theorem pe_listRev {e : Expr} {te : TE} {p p2 pos pos2 : Pos} (hc : X.calm = true) (hg : Gl X "list") (hm : X.mg "list" = none) (hg2 : Gl X "reversed") (hm2 : X.mg "reversed" = none) (he : PE X e te)
    (hs : starEach [e] X.env = (false, eval e X.env) :: starEach [] X.env)
    (hs2 : starEach [.Call (.Name "reversed" p2) [e] [] pos2] X.env = (false, eval (.Call (.Name "reversed" p2) [e] [] pos2) X.env) :: starEach [] X.env) :
    PE X (.Call (.Name "list" p) [.Call (.Name "reversed" p2) [e] [] pos2] [] pos) (tListRev X.K te) := by
  refine ⟨fun pins s σ H Q I h => ?_⟩
  refine Call_ (ld_blt I hg hm boot_list (PyProof.Rows.callWith_type1 (args_cons (Call_ (ld_blt I hg2 hm2 PyProof.Rows.boot_reversed (PyProof.Rows.callWith_type1 (args_cons (thn (he.run pins s σ H _ I h) fun u s1 ⟨v, H1, I1, r1, q1⟩ => args_nil ?_) hs) hs rfl))) hs2) hs2 rfl))
  obtain ⟨a, xs, rfl, hq, q⟩ := q1
  obtain rfl : u = Value.ref a := r1
  obtain ⟨its, rv, p', hz⟩ := I1.list hq
  refine call_reversed_list p'.isList (args_nil ?_)
  have kz : ∀ b o, s1.heap.get? b = some o → (s1.heap.push (revObj a ((its.toArray.size : Int) - 1))).get? b = some o := fun b o e => Heap.get?_push_of_some _ e
  have I2 : Inv X pins σ H1 { s1 with heap := s1.heap.push (revObj a ((its.toArray.size : Int) - 1)) } := I1.kept (t' := s1.toks) kz
  obtain ⟨f0, f1, f2, f3, f4, f5⟩ := I1.fpOk (H' := H1) (b := s1.heap.objs.size) (Nat.le_refl _) (I1.hok.fresh (Nat.le_refl _))
  have hl := p'.isList
  obtain ⟨ol, hol, _⟩ := id hl
  have ne1 : a ≠ s1.heap.objs.size := Nat.ne_of_lt (Heap.lt_size hol)
  have hn : its.toArray.size ≤ sizeLine := by rw [List.size_toArray, ← rv.length]; exact hz
  refine call_list_revd (s := { s1 with heap := s1.heap.push (revObj a ((its.toArray.size : Int) - 1)) }) (I1.ok.hd hc) ⟨_, Heap.get?_push_size _ rfl, rfl, rfl⟩ (hl.push _) ne1 hn fun h' tk acc c' hk hL hi => ?_
  have hT : s1.heap.objs.size ≤ (s1.heap.push (revObj a ((its.toArray.size : Int) - 1))).objs.size := by rw [Heap.size_push]; exact Nat.le_succ _
  generalize (s1.heap.push (revObj a ((its.toArray.size : Int) - 1))).objs.size = lz at hL hT
  have nw : ObjOk X.prog X.w (upd H1 lz (.lst xs.reverse)) h' lz (.lst xs.reverse) :=
    ⟨by rw [List.length_reverse]; exact hz, acc.toList, c', vals_rev rv hi, by rw [Array.toArray_toList]; exact hL⟩
  have J : Inv X pins σ (upd H1 lz (.lst xs.reverse)) { s1 with heap := h', toks := tk } :=
    I1.turnedNew (ch := []) (fun b o _ e => hk b o (Nat.ne_of_lt (Heap.lt_size e)) (kz b o e)) (fun b hb => absurd hb (by simp)) hT nw
  exact ⟨.ref lz, _, J, rfl, q lz (I1.hok.fresh hT)⟩
end
end Fw
set_option Elab.async false
set_option linter.all false
set_option maxRecDepth 100000
set_option maxHeartbeats 1000000
/-! Fw6: calls, instances, fields. -/
namespace Fw
open PySem PySem.Spec PyProof.Rows L2

section
variable {X : Cx} {T : Tab} {G : Pg} {cl cm : CSem} {a b c : Expr} {pos : Pos}
/-- built-in functions -/
theorem sE_prmB {id : String} {x : Str} {p : Pos} {pr : Prm} {e : Expr} {es : List Expr} {fs : List IE} (hc : CallR X (.builtin id) (rPrm T (prmV G pr))) (hg : Gl X x) (hm : X.mg x = none) (hv : bootBuiltins x = some (.builtin id)) (ha : PA X (e :: es) (tA T X (wA G cl cm fs)))
    (hn : x ≠ "__name__") (hdb : (x == ("__debug__" : Str)) = false) (he : starEach (e :: es) X.env = (false, eval e X.env) :: starEach es X.env) (hpl : (backTo pos (starEach es X.env)).any (·.1) = false) :
    PE X (.Call (.Name x p) (e :: es) [] pos) (tE T X (wE G cl cm (.prm pr fs))) := by
  refine pe_imp (pe_callB hc hg hm hv ha hn hdb he hpl) fun σ H Q hh => ?_
  obtain ⟨m, ps, h, Qf, Ef, hs, hr, k, tk, q⟩ := hh
  refine ⟨m, ps, h, _, Ef, hs, hr, fun m1 h1 p1 vs H1 a1 r1 rs ⟨r, e1, q1⟩ => ?_, tk, q⟩
  exact ⟨m1, h1, p1, r, r1, rs, e1, (k.ext a1).at q1⟩
/-- built-in types -/
theorem sE_prmT {id : String} {x : Str} {p : Pos} {pr : Prm} {e : Expr} {es : List Expr} {fs : List IE} (hc : CallR X (.type id) (rPrm T (prmV G pr))) (hg : Gl X x) (hm : X.mg x = none) (hv : bootBuiltins x = some (.type id)) (ha : PA X (e :: es) (tA T X (wA G cl cm fs)))
    (hn : x ≠ "__name__") (hdb : (x == ("__debug__" : Str)) = false) (he : starEach (e :: es) X.env = (false, eval e X.env) :: starEach es X.env) (hpl : (backTo pos (starEach es X.env)).any (·.1) = false) :
    PE X (.Call (.Name x p) (e :: es) [] pos) (tE T X (wE G cl cm (.prm pr fs))) := by
  refine pe_imp (pe_callTy hc hg hm hv ha hn hdb he hpl) fun σ H Q hh => ?_
  obtain ⟨m, ps, h, Qf, Ef, hs, hr, k, tk, q⟩ := hh
  refine ⟨m, ps, h, _, Ef, hs, hr, fun m1 h1 p1 vs H1 a1 r1 rs ⟨r, e1, q1⟩ => ?_, tk, q⟩
  exact ⟨m1, h1, p1, r, r1, rs, e1, (k.ext a1).at q1⟩
/-- list(reversed(x)) -/
theorem sE_lrev (hK : X.K = T.K) (ok : KOk T G) (hc : X.calm = true) {fa : IE} {p p2 p3 : Pos} (hg : Gl X "list") (hm : X.mg "list" = none) (hg2 : Gl X "reversed") (hm2 : X.mg "reversed" = none) (ha : PE X a (tE T X (wE G cl cm fa))) (hst : starEach [a] X.env = (false, eval a X.env) :: starEach [] X.env) :
    PE X (.Call (.Name "list" p) [.Call (.Name "reversed" p2) [a] [] p3] [] pos) (tE T X (wE G cl cm (.prm .lrev [fa]))) := by
  refine pe_imp (pe_listRev hc hg hm hg2 hm2 ha hst rfl) fun σ H Q hh => ?_
  obtain ⟨m, ps, h, Qf, Ef, hs, hr, k, tk, q⟩ := hh
  refine ⟨m, ps, h, _, Ef, hs, hr, fun m1 h1 p v H1 a1 r1 rx ⟨r, e1, q1⟩ => ?_, tk, q⟩
  have e1 : (lstOf G h1 p).map (fun xs => (PV.loc h1.length, h1 ++ [PO.lst xs.reverse])) = some r := e1
  cases e : lstOf G h1 p with
  | none => rw [e] at e1; cases e1
  | some xs =>
    rw [e] at e1; cases e1
    obtain ⟨l, vs, rfl, hS, rs⟩ := lstOf_ok ok r1 rx e
    exact ⟨l, vs, rfl, by rw [hK]; exact hS, fun q hq => ((k.ext a1).at q1).newL r1 (RVs.reverse rs) hq⟩
/-- methods of built-in types -/
structure MOk (X : Cx) (T : Tab) (G : Pg) (name : Str) (pr : Prm) : Prop where
  ok : ∀ (m : List Addr) (h : PH) (H : Hp) (p : PV) (v : V), HR T m h H → RV T m p v → mtyP G pr p h = true → ∃ Ty id, Mth X name Ty id (rMt T (prmV G pr)) ∧ tyV X.K Ty v H
theorem sE_mtd {name : Str} {apos : Pos} {pr : Prm} {e : Expr} {es : List Expr} {fa : IE} {fs : List IE} (M : MOk X T G name pr) (ha : PE X a (tE T X (wE G cl cm fa))) (hs : PA X (e :: es) (tA T X (wA G cl cm fs)))
    (hbase : attributeBase a name X.env (eval a X.env) = eval a X.env)
    (hfew : ((backTo pos (starEach (e :: es) X.env)).all (fun x => !x.1) && (backToKw pos (keywordEach [] X.env)).all (fun x => x.1.isSome) && decide ((e :: es).length + ([] : List Keyword).length + (if ([] : List Keyword).isEmpty then 0 else 1) < 30)) = true)
    (hline : (apos.endLine == pos.line) = true) (hst : starEach (e :: es) X.env = (false, eval e X.env) :: starEach es X.env) (hpl : (backTo pos (starEach es X.env)).any (·.1) = false) :
    PE X (.Call (.Attribute a name apos) (e :: es) [] pos) (tE T X (wE G cl cm (.mtd pr fa fs))) := by
  refine pe_imp (pe_mth ha hs hbase hfew hline hst hpl) fun σ H Q hh => ?_
  obtain ⟨m, ps, h, Qf, Ef, hs, hr, k, tk, q⟩ := hh
  refine ⟨m, ps, h, _, Ef, hs, hr, fun m1 h1 p x H1 a1 r1 rx ⟨t1, q1⟩ => ?_, tk, q⟩
  obtain ⟨Ty, id, M1, ty⟩ := M.ok m1 h1 H1 p x r1 rx t1
  refine ⟨Ty, id, _, M1, ty, m1, ps, h1, _, Ef, hs.ext a1, r1, fun m2 h2 ps2 vs H2 a2 r2 rs ⟨r, e1, q2⟩ => ?_, tk.ext a1, q1⟩
  exact ⟨m2, h2, p, ps2, r, r2, rx.ext a2, rs, e1, (k.ext (pre_trans a1 a2)).at q2⟩
theorem sE_mtd0 {name : Str} {apos : Pos} {pr : Prm} {fa : IE} (M : MOk X T G name pr) (ha : PE X a (tE T X (wE G cl cm fa))) (hbase : attributeBase a name X.env (eval a X.env) = eval a X.env) (hline : (apos.endLine == pos.line) = true) :
    PE X (.Call (.Attribute a name apos) [] [] pos) (tE T X (wE G cl cm (.mtd pr fa []))) := by
  refine pe_imp (pe_mth0 ha hbase hline) fun σ H Q hh => ?_
  obtain ⟨m, ps, h, Qf, Ef, hs, hr, k, tk, q⟩ := hh
  refine ⟨m, ps, h, _, Ef, hs, hr, fun m1 h1 p x H1 a1 r1 rx ⟨t1, r, e1, q1⟩ => ?_, tk, q⟩
  obtain ⟨Ty, id, M1, ty⟩ := M.ok m1 h1 H1 p x r1 rx t1
  exact ⟨Ty, id, _, M1, ty, m1, h1, p, [], r, r1, rx, .nil, e1, (k.ext a1).at q1⟩

/-! ### calls of the program's own -/
/-- the wish of a call, from the wish at the place -/
abbrev wish (T : Tab) (m : List Addr) (Ef : PX → PH → Prop) : XK := fun cls d H' => ∃ m' h' x, m <+: m' ∧ HR T m' h' H' ∧ RX T m' x cls d ∧ Ef x h'
theorem tk_pass {m : List Addr} {σ : L2.St} {Ef : PX → PH → Prop} (tk : TkE T X m σ Ef) : PassesAt (L2.CX X.prog X.w) X σ (wish T m Ef) := by
  have q := passAt tk σ
  intro pins H s e s' I c
  refine q pins H s e s' I ?_
  obtain ⟨a, B, H', cls, d, h1, h2, h3, h4, h5, h6, h7, h8⟩ := c
  exact ⟨a, B, H', cls, d, h1, h2, h3, h4, h5, h6, h7, rfl, h8⟩
/-- an own def by its number: where it stands, what it promises -/
structure FOk (X : Cx) (T : Tab) (k : Nat) (x : Str) (np : Nat) (f : List PV → PH → (PV → PH → Prop) → (PX → PH → Prop) → Prop) : Prop where
  ex : ∃ (fa : Addr) (fd : FuncData) (ps : List Str), X.mg x = some (.ref fa) ∧ PySem.W.keepIn X.K (.ref fa) = true ∧ ps.length = np ∧ Binds X.K fd ps [] ∧ FnOk X.prog X.w X.K X.mg X.base (L2.CX X.prog X.w) k fa fd ps (spOf T f np)
theorem sp_of {f : List PV → PH → (PV → PH → Prop) → (PX → PH → Prop) → Prop} {np : Nat} {m m1 : List Addr} {h : PH} {H : Hp} {p : List PV} {vs : List V} {Qf : PV → PH → Prop} {Q : VK} {Ef : PX → PH → Prop} (a1 : m <+: m1) (hr : HR T m1 h H) (rs : RVs T m1 p vs) (k : KQ T m Qf Q) (hn : p.length = np) (q : f p h Qf Ef) :
    spOf T f np vs H Q (wish T m Ef) :=
  ⟨by rw [← rs.length]; exact hn, m1, p, h, Qf, Ef, rs, hr, k.ext a1, fun m' h' x cls d H' a2 r2 rx e => ⟨m', h', x, pre_trans a1 a2, r2, rx, e⟩, q⟩
/-- what a call asks: as many arguments as parameters -/
def lenF (np : Nat) (f : List PV → PH → (PV → PH → Prop) → (PX → PH → Prop) → Prop) : Prop := ∀ vs h Q E, f vs h Q E → vs.length = np
theorem sE_call {k : Nat} {x : Str} {p : Pos} {i np : Nat} {e : Expr} {es : List Expr} {fs : List IE} (F : FOk X T k x np (cl i)) (hl : lenF np (cl i)) (room : Room k X.A) (hg : Gl X x) (ha : PA X (e :: es) (tA T X (wA G cl cm fs)))
    (hdb : (x == ("__debug__" : Str)) = false) (he : starEach (e :: es) X.env = (false, eval e X.env) :: starEach es X.env) (hpl : (backTo pos (starEach es X.env)).any (·.1) = false) :
    PE X (.Call (.Name x p) (e :: es) [] pos) (tE T X (wE G cl cm (.call i fs))) := by
  obtain ⟨fa, fd, ps, hm, hk, hps, hb, F⟩ := F.ex
  refine ⟨fun pins s σ H Q I hh => ?_⟩
  obtain ⟨m, pst, h, Qf, Ef, hs, hr, kq, tk, q⟩ := hh
  refine wpAny_Call_Name_kw (ld_glob I hg hm ?_ hdb)
  refine PySem.W.callWith_K (h₀ := X.base) I.ok.mod.kin hk (thn (ha.run pos pins s σ H (fun vs H1 => spOf T (cl i) np vs H1 Q (wish T m Ef)) I ?_) fun us s1 ⟨vs, H1, I1, r, q1⟩ => ⟨I1.kIn, ?_⟩) he hpl
  · exact ⟨m, pst, h, _, Ef, hs, hr, fun m1 h1 p1 vs H1 a1 r1 rs q1 => sp_of a1 r1 rs kq (hl _ _ _ _ q1) q1, tk, q⟩
  · exact run_fnS (E := fun _ => wish T m Ef) F room hb (tk_pass tk) I1 r q1
theorem sE_call0 {k : Nat} {x : Str} {p : Pos} {i np : Nat} (F : FOk X T k x np (cl i)) (hl : lenF np (cl i)) (room : Room k X.A) (hg : Gl X x) (hdb : (x == ("__debug__" : Str)) = false) :
    PE X (.Call (.Name x p) [] [] pos) (tE T X (wE G cl cm (.call i []))) := by
  obtain ⟨fa, fd, ps, hm, hk, hps, hb, F⟩ := F.ex
  refine ⟨fun pins s σ H Q I hh => ?_⟩
  obtain ⟨m, pst, h, Qf, Ef, hs, hr, kq, tk, q⟩ := hh
  refine wpAny_Call_Name_kw (ld_glob I hg hm ?_ hdb)
  refine PySem.W.callWith_K0 I.kIn hk ?_
  exact run_fnS (us := []) (vs := []) (E := fun _ => wish T m Ef) F room hb (tk_pass tk) I .nil (sp_of pre_refl hr .nil kq (hl _ _ _ _ q) q)
end
end Fw
set_option Elab.async false
set_option linter.all false
set_option maxRecDepth 100000
set_option maxHeartbeats 1000000
/-! FwE: enumerate of a tuple and of a text. -/
namespace Fw
open PySem PySem.Spec PyProof.Rows L2
theorem enum_new1 {v : Value} {ob : Obj} {Hz : Heap → Prop} (Bg : Begins v ob Hz) :
    Meets (Builtin.«enumerate.__new__» ⟨[.type "enumerate", v], []⟩) (fun _ R z => Hz z.heap ∧ R (.ok (.ret (.ref (z.heap.push ob).objs.size))) { z with heap := (z.heap.push ob).push { cls := .type "enumerate", data := .fields #[.none, .bool false, .ref z.heap.objs.size, rawInt 0, .none, .none] } }) :=
  .of_wp fun pr ww AA RR z hh => by
    obtain ⟨h0, g0, d0, t0, o0⟩ := z
    obtain ⟨k1, k2⟩ := hh
    have sube := sub_enumerate
    have it1 : ∀ {A2 : Around} {E2 : Value → Shared → Prop} {Q2 : Value → Shared → Prop}, Q2 (.ref h0.objs.size) ⟨h0.push ob, g0, d0, t0, o0⟩ → wpAny (model pr ww) A2 (pyIter v) Q2 E2 ⟨h0, g0, d0, t0, o0⟩ := fun q => Bg.iter pr ww _ _ ⟨h0, g0, d0, t0, o0⟩ _ k1 q
    wp_walk using it1
    refine wpAny_stack_any fun _ => wpAny_pure ?_
    split
    · rename_i kz _ _ _ _ _
      cases (kz == Value.type "enumerate") <;> (wp_walk using it1; exact ⟨_, rfl, k2⟩)
    · wp_walk using it1
      exact ⟨_, rfl, k2⟩
section
variable {prog : Program} {w : World} {A : Around} {E : Value → Shared → Prop} {s : Shared}
theorem enum_call1 {v : Value} {ob : Obj} {Hz : Heap → Prop} {Q : Value → Shared → Prop} (Bg : Begins v ob Hz) (hz : Hz s.heap)
    (k : ∀ h', IsEnum h' (s.heap.objs.size + 1) s.heap.objs.size 0 .none → h'.get? s.heap.objs.size = some ob → (∀ b o, s.heap.get? b = some o → h'.get? b = some o) → Q (.ref (s.heap.objs.size + 1)) { s with heap := h' }) :
    wpAny (model prog w) A (call (.type "enumerate") [v]) Q E s := by
  refine callType_new F.called_enumerate (by decide) (F.typeCall_enumerate_1 _) (F.newCall_enumerate_1 _) (fun ox => F.args_object_init_2 ox _) F.entry_enumerate_new (enum_new1 Bg) ⟨hz, ?_⟩
  have z1 : (s.heap.push ob).objs.size = s.heap.objs.size + 1 := Heap.size_push ..
  show _ ∧ _
  rw [z1]
  have ie : IsEnum ((s.heap.push ob).push { cls := .type "enumerate", data := .fields #[.none, .bool false, .ref s.heap.objs.size, rawInt 0, .none, .none] }) (s.heap.objs.size + 1) s.heap.objs.size 0 .none := by
    have z2 := Heap.get?_push_size (s.heap.push ob) (o := { cls := .type "enumerate", data := .fields #[.none, .bool false, .ref s.heap.objs.size, rawInt 0, .none, .none] }) rfl
    rw [z1] at z2; exact z2
  exact ⟨⟨_, ie, rfl⟩, k _ ie (Heap.get?_push_of_some _ (Heap.get?_push_size _ Bg.free)) fun b o y => Heap.get?_push_of_some _ (Heap.get?_push_of_some _ y)⟩
end
def IteT (K : PySem.W.Frag) (a : Addr) (n : Nat) : It :=
  ⟨fun i H => i < n ∧ ∃ (xs : List V) (x : V), SqT K H a xs ∧ xs[i]? = some x, fun i H v H' => ∃ T x, v = .ref T ∧ H T = none ∧ H' = upd H T (.tup [.int (i : Nat), x]) ∧ ∀ xs, SqT K H a xs → xs[i]? = some x, fun i H => n ≤ i ∧ ∃ xs : List V, SqT K H a xs ∧ xs.length = n⟩
def IteS (x : Str) : It :=
  ⟨fun i _ => i < x.cps.size, fun i H v H' => ∃ T c, v = .ref T ∧ H T = none ∧ H' = upd H T (.tup [.int (i : Nat), .str ⟨#[c]⟩]) ∧ x.cps[i]? = some c, fun i _ => x.cps.size ≤ i⟩
theorem apart_of {h : Heap} {a b : Addr} {o o' : Obj} (e : h.get? a = some o) (e' : h.get? b = some o') (n : o.cls ≠ o'.cls) : a ≠ b := fun z => by
  subst z
  rw [e] at e'
  cases e'
  exact n rfl
theorem turn_enumT {P : Program} {w : World} {K : PySem.W.Frag} {elts : List Expr} {kk : Nat} {tpos : Pos} (a e it : Addr) (n : Nat) :
    Turn P w K (.Tuple elts kk tpos) (IteT K a n) [e, it] e (fun i h => (∃ old, IsEnum h e it ((i : Nat) : Int) old) ∧ h.IsTupleIter it a i ∧ e ≠ it ∧ i ≤ n) where
  mem := by simp
  obj := fun i h st b hb => by
    obtain ⟨⟨old, he⟩, ⟨o, ho, hc, hd⟩, _⟩ := st
    have hb2 : b = e ∨ b = it := by simpa using hb
    rcases hb2 with z | z
    · subst z; exact ⟨_, he, fun v q => nomatch q⟩
    · subst z; exact ⟨o, ho, fun v q => by rw [hd] at q; cases q⟩
  keep := fun i h h' st k => by
    obtain ⟨⟨old, he⟩, ⟨o, ho, hr⟩, hne⟩ := st
    exact ⟨⟨old, k e (by simp) _ he⟩, ⟨o, k it (by simp) _ ho, hr⟩, hne⟩
  item := by
    intro X hP hw hK hc i pins s σ H E I hf st hg
    subst hP hw hK
    obtain ⟨⟨old, he⟩, hit, hne, _⟩ := st
    obtain ⟨hin, xs, x, hq, hx⟩ := hg
    obtain ⟨its, rv, p, hz⟩ := I.tuple hq
    obtain ⟨u, hu, ru⟩ := rv.get hx
    obtain ⟨oi, hoi, hoc, hod⟩ := id hit
    obtain ⟨ot, hot, htc, htd⟩ := id p
    have n1 : a ≠ it := apart_of hot hoi (by rw [htc, hoc]; decide)
    have n2 : e ≠ a := apart_of he hot (by rw [htc]; intro z; exact absurd z (show ¬ Value.type "enumerate" = Value.type "tuple" by decide))
    have hel : e < s.heap.objs.size := Heap.lt_size he
    have D := Draws.tuple (prog := X.prog) (w := X.w) (A := X.A.in1) (I.ok.hd hc) it a n1 its.toArray
    have hu' : its.toArray[i]? = some u := by simpa using hu
    refine wpAny_pyNext_enum_itemC D he ⟨hit, p⟩ (Array.getElem?_eq_some_iff.mp hu').1 hne (by simp [hne, n2]) fun x' h' tk hP' ho hst hT hsz hk => ?_
    have ex : x' = u := by rw [hu'] at hP'; exact (Option.some.inj hP').symm
    subst ex
    refine ⟨_, rfl, wpAny_letOwnedTupleGo_enum (s := { s with heap := h', toks := tk + 1 }) ho fun h2 he2 sb => ?_⟩
    have hT2 : h2.get? s.heap.objs.size = some { cls := .type "tuple", data := .seq #[.int i tk, x'] } := (sb.2 _ (Nat.ne_of_gt hel)).trans hT
    have nw : ObjOk X.prog X.w (upd H s.heap.objs.size (.tup [.int (i : Nat), x])) h2 s.heap.objs.size (.tup [.int (i : Nat), x]) :=
      ⟨by show 2 ≤ sizeLine; decide, [.int i tk, x'], .cons ⟨_, rfl⟩ (.cons ru .nil), ⟨_, hT2, rfl, _, rfl⟩⟩
    have J : Inv X pins σ (upd H s.heap.objs.size (.tup [.int (i : Nat), x])) { s with heap := h2, toks := tk + 1 } :=
      I.turnedNew (ch := [e, it]) (fun b ob hb q => (sb.2 b (fun z => hb (by simp [z]))).trans (hk b ob (fun z => hb (by simp [z])) (fun z => hb (by simp [z])) q)) hf (Nat.le_refl _) nw
    refine ⟨.ref s.heap.objs.size, _, J, rfl, ⟨_, x, rfl, I.hok.fresh (Nat.le_refl _), rfl, fun ys hy => by rw [I.tuple_inj hy hq]; exact hx⟩, ⟨⟨x', ?_⟩, ?_, hne, hin⟩, fun b hb => ?_⟩
    · rw [show ((i + 1 : Nat) : Int) = (i : Int) + 1 by omega]; exact he2
    · obtain ⟨o3, ho3, r3⟩ := hst.1
      exact ⟨o3, (sb.2 it (Ne.symm hne)).trans ho3, r3⟩
    · have hbl : b < s.heap.objs.size := by
        have hb2 : b = e ∨ b = it := by simpa using hb
        rcases hb2 with z | z
        · subst z; exact hel
        · subst z; exact Heap.lt_size hoi
      rw [upd_ne (Nat.ne_of_lt hbl)]
      exact (hf b hb).1
  done := by
    intro X hP hw hK hc i pins s σ H E I hf st hg
    subst hP hw hK
    obtain ⟨⟨old, he⟩, hit, hne, hle⟩ := st
    obtain ⟨hge, xs, hq, hx⟩ := hg
    obtain ⟨its, rv, p, hz⟩ := I.tuple hq
    obtain ⟨f0, f1, f2, f3, f4, f5⟩ := hf it (by simp)
    obtain ⟨oi, hoi, hoc, hod⟩ := id hit
    obtain ⟨ot, hot, htc, htd⟩ := id p
    have n1 : a ≠ it := apart_of hot hoi (by rw [htc, hoc]; decide)
    have D := Draws.tuple (prog := X.prog) (w := X.w) (A := X.A.in1) (I.ok.hd hc) it a n1 its.toArray
    have hl := rv.length
    have ei : i = its.toArray.size := by rw [List.size_toArray]; omega
    rw [ei] at hit
    exact wpAny_pyNext_enum_endD D he ⟨hit, p⟩ fun h' eb => ⟨rfl, I.turned (t' := s.toks) (fun b o hb q => eb b o hb q) f0 f1 f3 f4 f5⟩
  self := fun A i s Q E st h => let ⟨⟨_, he⟩, _⟩ := st; wpAny_pyIter_enum he h
theorem turn_enumS {P : Program} {w : World} {K : PySem.W.Frag} {elts : List Expr} {kk : Nat} {tpos : Pos} (x : Str) (tx : Tok) (e it : Addr) :
    Turn P w K (.Tuple elts kk tpos) (IteS x) [e, it] e (fun i h => (∃ old, IsEnum h e it ((i : Nat) : Int) old) ∧ h.IsStrIter it (strIterType x) x tx i ∧ e ≠ it ∧ i ≤ x.cps.size) where
  mem := by simp
  obj := fun i h st b hb => by
    obtain ⟨⟨old, he⟩, ⟨o, ho, hc, hd⟩, _⟩ := st
    have hb2 : b = e ∨ b = it := by simpa using hb
    rcases hb2 with z | z
    · subst z; exact ⟨_, he, fun v q => nomatch q⟩
    · subst z; exact ⟨o, ho, fun v q => by rw [hd] at q; cases q⟩
  keep := fun i h h' st k => by
    obtain ⟨⟨old, he⟩, ⟨o, ho, hr⟩, hne⟩ := st
    exact ⟨⟨old, k e (by simp) _ he⟩, ⟨o, k it (by simp) _ ho, hr⟩, hne⟩
  item := by
    intro X hP hw hK hc i pins s σ H E I hf st hg
    subst hP hw hK
    obtain ⟨⟨old, he⟩, hit, hne, _⟩ := st
    have hin : i < x.cps.size := hg
    obtain ⟨oi, hoi, hoc, hod⟩ := id hit
    have hel : e < s.heap.objs.size := Heap.lt_size he
    have D := Draws.text (prog := X.prog) (w := X.w) (A := X.A.in1) (I.ok.hd hc) it x tx
    refine wpAny_pyNext_enum_itemC D he hit hin hne (by simp [hne]) fun x' h' tk hP' ho hst hT hsz hk => ?_
    obtain ⟨c, uc, hcx, rfl⟩ := hP'
    refine ⟨_, rfl, wpAny_letOwnedTupleGo_enum (s := { s with heap := h', toks := tk + 1 }) ho fun h2 he2 sb => ?_⟩
    have hT2 : h2.get? s.heap.objs.size = some { cls := .type "tuple", data := .seq #[.int i tk, .str ⟨#[c]⟩ uc] } := (sb.2 _ (Nat.ne_of_gt hel)).trans hT
    have nw : ObjOk X.prog X.w (upd H s.heap.objs.size (.tup [.int (i : Nat), .str ⟨#[c]⟩])) h2 s.heap.objs.size (.tup [.int (i : Nat), .str ⟨#[c]⟩]) :=
      ⟨by show 2 ≤ sizeLine; decide, [.int i tk, .str ⟨#[c]⟩ uc], .cons ⟨_, rfl⟩ (.cons ⟨_, rfl⟩ .nil), ⟨_, hT2, rfl, _, rfl⟩⟩
    have J : Inv X pins σ (upd H s.heap.objs.size (.tup [.int (i : Nat), .str ⟨#[c]⟩])) { s with heap := h2, toks := tk + 1 } :=
      I.turnedNew (ch := [e, it]) (fun b ob hb q => (sb.2 b (fun z => hb (by simp [z]))).trans (hk b ob (fun z => hb (by simp [z])) (fun z => hb (by simp [z])) q)) hf (Nat.le_refl _) nw
    refine ⟨.ref s.heap.objs.size, _, J, rfl, ⟨_, c, rfl, I.hok.fresh (Nat.le_refl _), rfl, hcx⟩, ⟨⟨.str ⟨#[c]⟩ uc, ?_⟩, ?_, hne, hin⟩, fun b hb => ?_⟩
    · rw [show ((i + 1 : Nat) : Int) = (i : Int) + 1 by omega]; exact he2
    · obtain ⟨o3, ho3, r3⟩ := hst
      exact ⟨o3, (sb.2 it (Ne.symm hne)).trans ho3, r3⟩
    · have hbl : b < s.heap.objs.size := by
        have hb2 : b = e ∨ b = it := by simpa using hb
        rcases hb2 with z | z
        · subst z; exact hel
        · subst z; exact Heap.lt_size hoi
      rw [upd_ne (Nat.ne_of_lt hbl)]
      exact (hf b hb).1
  done := by
    intro X hP hw hK hc i pins s σ H E I hf st hg
    subst hP hw hK
    obtain ⟨⟨old, he⟩, hit, hne, hle⟩ := st
    have hge : x.cps.size ≤ i := hg
    obtain ⟨f0, f1, f2, f3, f4, f5⟩ := hf it (by simp)
    have D := Draws.text (prog := X.prog) (w := X.w) (A := X.A.in1) (I.ok.hd hc) it x tx
    have ei : i = x.cps.size := by omega
    rw [ei] at hit
    exact wpAny_pyNext_enum_endD D he hit fun h' eb => ⟨rfl, I.turned (t' := s.toks) (fun b o hb q => eb b o hb q) f0 f1 f3 f4 f5⟩
  self := fun A i s Q E st h => let ⟨⟨_, he⟩, _⟩ := st; wpAny_pyIter_enum he h
def iEnumT (K : PySem.W.Frag) (ta : TA) : TI := fun σ H R => ta σ H fun vs H1 => (∃ a xs, vs = [.ref a] ∧ SqT K H1 a xs ∧ R (IteT K a xs.length) H1) ∨ (∃ a xs, vs = [.ref a] ∧ SqL K H1 a xs ∧ R (Ite K a) H1) ∨ (∃ x, vs = [.str x] ∧ R (IteS x) H1)
theorem pi_enumA {X : Cx} {e : Expr} {ta : TA} {p pos tpos : Pos} {elts : List Expr} {kk : Nat} (hg : Gl X "enumerate") (hm : X.mg "enumerate" = none) (ha : PA X [e] ta) (hst : starEach [e] X.env = [(false, eval e X.env)]) :
    PI X (.Tuple elts kk tpos) (.Call (.Name "enumerate" p) [e] [] pos) (iEnumT X.K ta) := by
  refine ⟨fun pins s σ H R I h => ?_⟩
  refine Call_ (ld_blt I hg hm boot_enumerate (PyProof.Rows.callWith_type1 (thn (ha.run pos pins s σ H _ I h) fun us s1 ⟨vs, H1, I1, r1, q1⟩ => ?_) hst rfl))
  rcases q1 with ⟨a, xs, ex, hq, q⟩ | ⟨a, xs, ex, hq, q⟩ | ⟨x, ex, q⟩
  · subst ex
    obtain ⟨u, rfl, r⟩ := L2.vals1 r1
    obtain rfl : u = Value.ref a := r
    obtain ⟨its, rv, p', hz⟩ := I1.tuple hq
    refine enum_call1 (begins_tuple a its.toArray) p' fun h' he hit hk => wpAny_pyIter_enum he ?_
    have I2 : Inv X pins σ H1 { s1 with heap := h' } := I1.kept (t' := s1.toks) hk
    refine ⟨s1.heap.objs.size + 1, [s1.heap.objs.size + 1, s1.heap.objs.size], _, _, H1, rfl, I2, turn_enumT a (s1.heap.objs.size + 1) s1.heap.objs.size xs.length, ⟨⟨.none, he⟩, ⟨_, hit, rfl, rfl⟩, Nat.succ_ne_self _, Nat.zero_le _⟩, fun b hb => ?_, q⟩
    have hb2 : b = s1.heap.objs.size + 1 ∨ b = s1.heap.objs.size := by simpa using hb
    have hle : s1.heap.objs.size ≤ b := by rcases hb2 with z | z <;> rw [z] <;> simp
    exact I1.fpOk hle (I1.hok.fresh hle)
  · subst ex
    obtain ⟨u, rfl, r⟩ := L2.vals1 r1
    obtain rfl : u = Value.ref a := r
    obtain ⟨its, rv, p', hz⟩ := I1.list hq
    refine call_enumerate_list p'.isList fun h' he hit hsz hk => wpAny_pyIter_enum he ?_
    have I2 : Inv X pins σ H1 { s1 with heap := h' } := I1.kept (t' := s1.toks) hk
    refine ⟨s1.heap.objs.size + 1, [s1.heap.objs.size + 1, s1.heap.objs.size], _, _, H1, rfl, I2, turn_enum a (s1.heap.objs.size + 1) s1.heap.objs.size, ⟨⟨.none, he⟩, hit, Nat.succ_ne_self _⟩, fun b hb => ?_, q⟩
    have hb2 : b = s1.heap.objs.size + 1 ∨ b = s1.heap.objs.size := by simpa using hb
    have hle : s1.heap.objs.size ≤ b := by rcases hb2 with z | z <;> rw [z] <;> simp
    exact I1.fpOk hle (I1.hok.fresh hle)
  · subst ex
    obtain ⟨u, rfl, r⟩ := L2.vals1 r1
    obtain ⟨tx, rfl⟩ := r
    refine enum_call1 (begins_text x tx) trivial fun h' he hit hk => wpAny_pyIter_enum he ?_
    have I2 : Inv X pins σ H1 { s1 with heap := h' } := I1.kept (t' := s1.toks) hk
    refine ⟨s1.heap.objs.size + 1, [s1.heap.objs.size + 1, s1.heap.objs.size], _, _, H1, rfl, I2, turn_enumS x tx (s1.heap.objs.size + 1) s1.heap.objs.size, ⟨⟨.none, he⟩, ⟨_, hit, rfl, rfl⟩, Nat.succ_ne_self _, Nat.zero_le _⟩, fun b hb => ?_, q⟩
    have hb2 : b = s1.heap.objs.size + 1 ∨ b = s1.heap.objs.size := by simpa using hb
    have hle : s1.heap.objs.size ≤ b := by rcases hb2 with z | z <;> rw [z] <;> simp
    exact I1.fpOk hle (I1.hok.fresh hle)
end Fw
set_option Elab.async false
set_option linter.all false
set_option maxRecDepth 100000
set_option maxHeartbeats 1000000
/-! Fw7: what is walked; for, comprehensions; targets. -/
namespace Fw
open PySem PySem.Spec PyProof.Rows L2

/-- an iterator and a walk of the small heap -/
structure WkOk (T : Tab) (m : List Addr) (J : It) (W : Walk) : Prop where
  go : ∀ (m' : List Addr) (h' : PH) (H' : Hp) (i : Nat) (x : Item), m <+: m' → HR T m' h' H' → W.chk h' → W.its[i]? = some x → J.go i H' ∧ ∀ v H'', J.yld i H' v H'' → ∃ m'', m' <+: m'' ∧ HR T m'' (x.h h') H'' ∧ RV T m'' (x.v h') v
  stop : ∀ (m' : List Addr) (h' : PH) (H' : Hp) (i : Nat), m <+: m' → HR T m' h' H' → W.chk h' → W.its.length ≤ i → J.stop i H'
theorem WkOk.ext {T : Tab} {m m1 : List Addr} {J : It} {W : Walk} (h : m <+: m1) (k : WkOk T m J W) : WkOk T m1 J W :=
  ⟨fun m' h' H' i x a => k.go m' h' H' i x (pre_trans h a), fun m' h' H' i a => k.stop m' h' H' i (pre_trans h a)⟩
abbrev FI := (PX → PH → Prop) → PSt → PH → (Walk → PH → Prop) → Prop
def tI (T : Tab) (X : Cx) (f : FI) : TI := fun σ H R => ∃ m ps h Rf Ef, SR T m ps σ ∧ HR T m h H ∧ (∀ m' h' W J H', m <+: m' → HR T m' h' H' → WkOk T m' J W → Rf W h' → R J H') ∧ TkE T X m σ Ef ∧ f Ef ps h Rf
abbrev wI (G : Pg) (cl cm : CSem) (i : II) : FI := fun E => wpI G cl cm E i
theorem pi_imp {X : Cx} {tg e : Expr} {t u : TI} (h : PI X tg e t) (k : ∀ σ H Q, u σ H Q → t σ H Q) : PI X tg e u := ⟨fun pins s σ H Q I q => h.run pins s σ H Q I (k σ H Q q)⟩
section
variable {X : Cx} {T : Tab} {G : Pg} {cl cm : CSem} {a b c tg : Expr} {pos : Pos}
theorem iter_list {pins : List (Addr × Obj)} {s : Shared} {σ : L2.St} {H : Hp} {R : It → Hp → Prop} {l : Addr} {xs : List V} (I : Inv X pins σ H s) (hq : SqL X.K H l xs) (q : R (Itl X.K l) H) :
    wpAny (model X.prog X.w) X.A (pyIter (.ref l)) (PIE X pins σ tg R) X.xe s := by
  obtain ⟨its, rv, p, hz⟩ := I.list hq
  exact wpAny_pyIter_list p.isList (pi_one (tk := s.toks) I _ (turn_list l _) ⟨_, Heap.get?_push_size _ rfl, rfl, rfl⟩ q)
theorem iter_tup {pins : List (Addr × Obj)} {s : Shared} {σ : L2.St} {H : Hp} {R : It → Hp → Prop} {l : Addr} {xs : List V} (I : Inv X pins σ H s) (hq : SqT X.K H l xs) (q : R (Itt X.K l) H) :
    wpAny (model X.prog X.w) X.A (pyIter (.ref l)) (PIE X pins σ tg R) X.xe s := by
  obtain ⟨its, rv, p, hz⟩ := I.tuple hq
  exact wpAny_pyIter_tuple (show s.heap.IsTuple l its.toArray from p) (pi_one (tk := s.toks) I _ (turn_tuple l _) ⟨_, Heap.get?_push_size _ rfl, rfl, rfl⟩ q)
theorem iter_str {pins : List (Addr × Obj)} {s : Shared} {σ : L2.St} {H : Hp} {R : It → Hp → Prop} {x : Str} {t : Tok} (I : Inv X pins σ H s) (q : R (Its x) H) :
    wpAny (model X.prog X.w) X.A (pyIter (.str x t)) (PIE X pins σ tg R) X.xe s := by
  cases ha : x.cps.all (· < 128)
  · exact wpAny_pyIter_wide ha (pi_one (tk := s.toks) I _ (turn_str _ x t "str_iterator" (.inr rfl)) ⟨_, Heap.get?_push_size _ rfl, rfl, rfl⟩ q)
  · exact wpAny_pyIter_ascii ha (pi_one (tk := s.toks) I _ (turn_str _ x t "str_ascii_iterator" (.inl rfl)) ⟨_, Heap.get?_push_size _ rfl, rfl, rfl⟩ q)
theorem its_at {α : Type} {f : α → Item} {l : List α} {i : Nat} {x : Item} (e : (l.map f)[i]? = some x) : ∃ y, l[i]? = some y ∧ x = f y := by
  rw [List.getElem?_map] at e
  cases q : l[i]? with
  | none => rw [q] at e; cases e
  | some y => rw [q] at e; cases e; exact ⟨y, rfl, rfl⟩
theorem sql_eq (hK : X.K = T.K) (ok : KOk T G) {m : List Addr} {h : PH} {H : Hp} (hr : HR T m h H) {p : PV} {l : Addr} {xs : List PV} (rx : RV T m p (.ref l)) (e : lstOf G h p = some xs) : ∃ vs, SqL X.K H l vs ∧ RVs T m xs vs := by
  obtain ⟨l', vs, e1, hS, rs⟩ := lstOf_ok ok hr rx e
  cases e1
  exact ⟨vs, by rw [hK]; exact hS, rs⟩
theorem sqt_eq (hK : X.K = T.K) (ok : KOk T G) {m : List Addr} {h : PH} {H : Hp} (hr : HR T m h H) {p : PV} {l : Addr} {xs : List PV} (rx : RV T m p (.ref l)) (e : tupOf G h p = some xs) : ∃ vs, SqT X.K H l vs ∧ RVs T m xs vs := by
  obtain ⟨l', vs, e1, hS, rs⟩ := tupOf_ok ok hr rx e
  cases e1
  exact ⟨vs, by rw [hK]; exact hS, rs⟩
/-- a list that is walked -/
theorem wk_list (hK : X.K = T.K) (ok : KOk T G) {m : List Addr} {p : PV} {l : Addr} {o : PO} {xs : List PV} (rx : RV T m p (.ref l)) (ho : o = .lst xs ∨ o = .rol xs) : WkOk T m (Itl X.K l) ⟨fun h' => deref G h' p = some o, xs.map .val⟩ := by
  have lo : ∀ {h' : PH}, deref G h' p = some o → lstOf G h' p = some xs := fun e => by
    unfold lstOf; rw [e]; rcases ho with rfl | rfl <;> rfl
  constructor
  · intro m' h' H' i x a hr e hx
    obtain ⟨y, hy, rfl⟩ := its_at hx
    obtain ⟨vs, hS, rs⟩ := sql_eq hK ok hr (rx.ext a) (lo e)
    obtain ⟨v, hv, rv⟩ := rs.get hy
    refine ⟨⟨vs, v, hS, hv⟩, fun v' H'' ⟨e1, hy'⟩ => ?_⟩
    subst e1
    have e2 := hy' vs hS
    rw [hv] at e2; cases e2
    exact ⟨m', pre_refl, hr, rv⟩
  · intro m' h' H' i a hr e hl
    obtain ⟨vs, hS, rs⟩ := sql_eq hK ok hr (rx.ext a) (lo e)
    exact ⟨vs, hS, by rw [← rs.length]; simpa using hl⟩
theorem wk_tup (hK : X.K = T.K) (ok : KOk T G) {m : List Addr} {p : PV} {l : Addr} {xs : List PV} (rx : RV T m p (.ref l)) : WkOk T m (Itt X.K l) ⟨fun h' => deref G h' p = some (.tup xs), xs.map .val⟩ := by
  have lo : ∀ {h' : PH}, deref G h' p = some (.tup xs) → tupOf G h' p = some xs := fun e => by
    unfold tupOf; rw [e]
  constructor
  · intro m' h' H' i x a hr e hx
    obtain ⟨y, hy, rfl⟩ := its_at hx
    obtain ⟨vs, hS, rs⟩ := sqt_eq hK ok hr (rx.ext a) (lo e)
    obtain ⟨v, hv, rv⟩ := rs.get hy
    refine ⟨⟨vs, v, hS, hv⟩, fun v' H'' ⟨e1, hy'⟩ => ?_⟩
    subst e1
    have e2 := hy' vs hS
    rw [hv] at e2; cases e2
    exact ⟨m', pre_refl, hr, rv⟩
  · intro m' h' H' i a hr e hl
    obtain ⟨vs, hS, rs⟩ := sqt_eq hK ok hr (rx.ext a) (lo e)
    exact ⟨vs, hS, by rw [← rs.length]; simpa using hl⟩
theorem wk_str {m : List Addr} (l : List Nat) : WkOk T m (Its (sOf l)) ⟨fun _ => True, l.map fun c => .val (.str [c])⟩ := by
  have sz : (sOf l).cps.size = l.length := by simp [sOf]
  constructor
  · intro m' h' H' i x a hr e hx
    obtain ⟨y, hy, rfl⟩ := its_at hx
    refine ⟨?_, fun v' H'' ⟨e1, c, hc, e2⟩ => ?_⟩
    · show i < (sOf l).cps.size
      rw [sz]; exact get_len hy
    · subst e1
      have : c = y := by
        have h1 : (sOf l).cps[i]? = l[i]? := by simp [sOf]
        rw [h1, hy] at hc
        exact (Option.some.inj hc).symm
      subst this
      exact ⟨m', pre_refl, hr, e2⟩
  · intro m' h' H' i a hr e hl
    show (sOf l).cps.size ≤ i
    rw [sz]; simpa using hl
theorem seq_ref (ok : KOk T G) {m : List Addr} {h : PH} {H : Hp} {p : PV} {x : V} {o : PO} (hr : HR T m h H) (rx : RV T m p x) (e : deref G h p = some o) : ∃ l, x = .ref l := by
  cases p with
  | loc n => obtain ⟨a, _, rfl⟩ := rx; exact ⟨a, rfl⟩
  | kon n => obtain ⟨a, _, _, rfl⟩ := rx; exact ⟨a, rfl⟩
  | _ => cases e
theorem sI_seq (hK : X.K = T.K) (ok : KOk T G) {fa : IE} (ha : PE X a (tE T X (wE G cl cm fa))) : PI X tg a (tI T X (wI G cl cm (.seq fa))) := by
  refine ⟨fun pins s σ H R I hh => ?_⟩
  obtain ⟨m, ps, h, Rf, Ef, hs, hr, k, tk, q⟩ := hh
  refine thn (ha.run pins s σ H (fun x H1 => ∃ m1 h1 p, m <+: m1 ∧ HR T m1 h1 H1 ∧ RV T m1 p x ∧ (match p with
    | .str l => Rf ⟨fun _ => True, l.map fun c => .val (.str [c])⟩ h1
    | v => ∃ o xs, deref G h1 v = some o ∧ o.seq? = some xs ∧ Rf ⟨fun h' => deref G h' v = some o, xs.map .val⟩ h1)) I ⟨m, ps, h, _, Ef, hs, hr, fun m1 h1 p x H1 a1 r1 rx q1 => ⟨m1, h1, p, a1, r1, rx, q1⟩, tk, q⟩) fun v s1 ⟨x, H1, I1, rv, m1, h1, p, a1, r1, rx, q1⟩ => ?_
  have seqCase : ∀ o xs, deref G h1 p = some o → o.seq? = some xs → Rf ⟨fun h' => deref G h' p = some o, xs.map .val⟩ h1 → wpAny (model X.prog X.w) X.A (pyIter v) (PIE X pins σ tg R) X.xe s1 := fun o xs e e2 q2 => by
    obtain ⟨l, rfl⟩ := seq_ref ok r1 rx e
    cases rv
    have kl : ∀ xs, (o = .lst xs ∨ o = .rol xs) → o.seq? = some xs := fun xs z => by rcases z with rfl | rfl <;> rfl
    have lo : (∃ ys, o = .lst ys ∨ o = .rol ys) ∨ ∃ ys, o = .tup ys := by
      cases o with
      | lst ys => exact .inl ⟨ys, .inl rfl⟩
      | rol ys => exact .inl ⟨ys, .inr rfl⟩
      | tup ys => exact .inr ⟨ys, rfl⟩
      | _ => cases e2
    rcases lo with ⟨ys, ho⟩ | ⟨ys, ho⟩
    · have : ys = xs := Option.some.inj ((kl ys ho).symm.trans e2)
      subst this
      have le : lstOf G h1 p = some ys := by unfold lstOf; rw [e]; rcases ho with rfl | rfl <;> rfl
      obtain ⟨vs, hS, _⟩ := sql_eq hK ok r1 rx le
      exact iter_list I1 hS (k m1 h1 _ _ H1 a1 r1 (wk_list hK ok rx ho) q2)
    · subst ho
      cases e2
      have le : tupOf G h1 p = some xs := by unfold tupOf; rw [e]
      obtain ⟨vs, hS, _⟩ := sqt_eq hK ok r1 rx le
      exact iter_tup I1 hS (k m1 h1 _ _ H1 a1 r1 (wk_tup hK ok rx) q2)
  cases p with
  | str l =>
    have rx : x = .str (sOf l) := rx
    subst rx
    obtain ⟨t, rfl⟩ := rv
    exact iter_str I1 (k m1 h1 _ _ H1 a1 r1 (wk_str l) q1)
  | loc n => obtain ⟨o, xs, e, e2, q2⟩ := q1; exact seqCase o xs e e2 q2
  | kon n => obtain ⟨o, xs, e, e2, q2⟩ := q1; exact seqCase o xs e e2 q2
  | _ => obtain ⟨o, xs, e, _⟩ := q1; cases e
/-! ranges -/
theorem wk_rng {m : List Addr} {lo c : Int} {n : Nat} {J : It} (hg : ∀ (i : Nat) H, i < n → J.go i H) (hy : ∀ (i : Nat) H v H'', J.yld i H v H'' → H'' = H ∧ v = .int (lo + (i : Nat) * c)) (hs : ∀ (i : Nat) H, n ≤ i → J.stop i H) : WkOk T m J ⟨fun _ => True, rngL lo c n⟩ := by
  constructor
  · intro m' h' H' i x a hr e hx
    obtain ⟨y, hy', rfl⟩ := its_at (l := List.range n) hx
    have hi : i < n := by simpa using get_len hy'
    have : y = i := by
      rw [List.getElem?_range hi] at hy'
      exact (Option.some.inj hy').symm
    subst this
    refine ⟨hg y H' hi, fun v' H'' z => ?_⟩
    obtain ⟨rfl, rfl⟩ := hy _ _ _ _ z
    exact ⟨m', pre_refl, hr, rfl⟩
  · intro m' h' H' i a hr e hl
    refine hs i H' ?_
    have e1 : (rngL lo c n).length = n := by simp [rngL]
    have hl : (rngL lo c n).length ≤ i := hl
    rw [e1] at hl
    exact hl
theorem pi_any {X : Cx} {tg e : Expr} {u : TI} (k : ∀ σ H Q, u σ H Q → ∃ t : TI, PI X tg e t ∧ t σ H Q) : PI X tg e u := ⟨fun pins s σ H Q I q => by
  obtain ⟨t, h, z⟩ := k σ H Q q
  exact h.run pins s σ H Q I z⟩
/-- one, two, three arguments as they come -/
def q1of (R : PV → PH → Prop) : List PV → PH → Prop
  | [x], h => R x h
  | _, _ => False
def q2of (R : PV → PV → PH → Prop) : List PV → PH → Prop
  | [x, y], h => R x y h
  | _, _ => False
def q3of (R : PV → PV → PV → PH → Prop) : List PV → PH → Prop
  | [x, y, z], h => R x y z h
  | _, _ => False
theorem arg1 {fa : IE} {σ : L2.St} {H : Hp} {m : List Addr} {ps : PSt} {h : PH} {Ef : PX → PH → Prop} {R : PV → PH → Prop} {S : List V → Hp → Prop} (hs : SR T m ps σ) (hr : HR T m h H) (tk : TkE T X m σ Ef) (q : wpE G cl cm Ef fa ps h R)
    (k : ∀ m' h' p x H', m <+: m' → HR T m' h' H' → RV T m' p x → R p h' → S [x] H') : tA T X (wA G cl cm [fa]) σ H S := by
  refine ⟨m, ps, h, q1of R, Ef, hs, hr, fun m1 h1 ps1 vs H1 a1 r1 rs q1 => ?_, tk, q⟩
  unfold q1of at q1
  split at q1
  · obtain ⟨v, rfl, rv⟩ := rvs1 rs
    exact k m1 h1 _ _ H1 a1 r1 rv q1
  · exact q1.elim
theorem arg2 {fa fb : IE} {σ : L2.St} {H : Hp} {m : List Addr} {ps : PSt} {h : PH} {Ef : PX → PH → Prop} {R : PV → PV → PH → Prop} {S : List V → Hp → Prop} (hs : SR T m ps σ) (hr : HR T m h H) (tk : TkE T X m σ Ef)
    (q : wpE G cl cm Ef fa ps h fun x h1 => wpE G cl cm Ef fb ps h1 (R x))
    (k : ∀ m' h' p q x y H', m <+: m' → HR T m' h' H' → RV T m' p x → RV T m' q y → R p q h' → S [x, y] H') : tA T X (wA G cl cm [fa, fb]) σ H S := by
  refine ⟨m, ps, h, q2of R, Ef, hs, hr, fun m1 h1 ps1 vs H1 a1 r1 rs q1 => ?_, tk, q⟩
  unfold q2of at q1
  split at q1
  · obtain ⟨v, u, rfl, rv, ru⟩ := rvs2 rs
    exact k m1 h1 _ _ _ _ H1 a1 r1 rv ru q1
  · exact q1.elim
theorem arg3 {fa fb fc : IE} {σ : L2.St} {H : Hp} {m : List Addr} {ps : PSt} {h : PH} {Ef : PX → PH → Prop} {R : PV → PV → PV → PH → Prop} {S : List V → Hp → Prop} (hs : SR T m ps σ) (hr : HR T m h H) (tk : TkE T X m σ Ef)
    (q : wpE G cl cm Ef fa ps h fun x h1 => wpE G cl cm Ef fb ps h1 fun y h2 => wpE G cl cm Ef fc ps h2 (R x y))
    (k : ∀ m' h' p q r x y z H', m <+: m' → HR T m' h' H' → RV T m' p x → RV T m' q y → RV T m' r z → R p q r h' → S [x, y, z] H') : tA T X (wA G cl cm [fa, fb, fc]) σ H S := by
  refine ⟨m, ps, h, q3of R, Ef, hs, hr, fun m1 h1 ps1 vs H1 a1 r1 rs q1 => ?_, tk, q⟩
  unfold q3of at q1
  split at q1
  · cases rs with
    | cons rv t =>
      obtain ⟨u, w, rfl, ru, rw'⟩ := rvs2 t
      exact k m1 h1 _ _ _ _ _ _ H1 a1 r1 rv ru rw' q1
  · exact q1.elim
theorem rng_one {m : List Addr} {lo : Int} {n : Nat} : WkOk T m (Itr lo n) ⟨fun _ => True, rngL lo 1 n⟩ := wk_rng (fun i H z => z) (fun i H v H'' ⟨z1, z2⟩ => ⟨z1, by rw [z2, Int.mul_one]⟩) fun i H z => z
theorem sI_rng1 {fa : IE} {p : Pos} (hg : Gl X "range") (hm : X.mg "range" = none) (ha : PA X [a] (tA T X (wA G cl cm [fa]))) (hst : starEach [a] X.env = [(false, eval a X.env)]) : PI X tg (.Call (.Name "range" p) [a] [] pos) (tI T X (wI G cl cm (.rng1 fa))) := by
  refine pi_imp (pi_range1 hg hm ha hst) fun σ H R hh => ?_
  obtain ⟨m, ps, h, Rf, Ef, hs, hr, k, tk, q⟩ := hh
  refine arg1 hs hr tk q fun m1 h1 p x H1 a1 r1 rx ⟨r, e, q1⟩ => ?_
  unfold rngOf at e
  split at e <;> rename_i hp <;> first | (cases hp; done) | (cases e; done) | skip
  split at e
  · rename_i j hz
    cases hp
    cases e
    have rx : x = _ := rx
    subst rx
    exact ⟨_, rfl, hz.1, hz.2, k m1 h1 _ _ H1 a1 r1 rng_one q1⟩
  · cases e
theorem sI_rng2 {fa fb : IE} {p : Pos} (hg : Gl X "range") (hm : X.mg "range" = none) (ha : PA X [a, b] (tA T X (wA G cl cm [fa, fb]))) (hst : starEach [a, b] X.env = [(false, eval a X.env), (false, eval b X.env)]) (hst2 : starEach [b] X.env = [(false, eval b X.env)]) : PI X tg (.Call (.Name "range" p) [a, b] [] pos) (tI T X (wI G cl cm (.rng2 fa fb))) := by
  refine pi_imp (pi_range2 hg hm ha hst hst2) fun σ H R hh => ?_
  obtain ⟨m, ps, h, Rf, Ef, hs, hr, k, tk, q⟩ := hh
  refine arg2 hs hr tk q fun m1 h1 p p' x y H1 a1 r1 rx ry ⟨r, e, q1⟩ => ?_
  unfold rngOf at e
  split at e <;> rename_i hp <;> first | (cases hp; done) | (cases e; done) | skip
  split at e
  · rename_i i j hz
    cases hp
    cases e
    have rx : x = _ := rx
    have ry : y = _ := ry
    subst rx; subst ry
    exact ⟨_, _, rfl, hz, k m1 h1 _ _ H1 a1 r1 rng_one q1⟩
  · cases e
theorem sI_rng3 {fa fb fc : IE} {p : Pos} (hg : Gl X "range") (hm : X.mg "range" = none) (ha : PA X [a, b, c] (tA T X (wA G cl cm [fa, fb, fc]))) (hst : starEach [a, b, c] X.env = (false, eval a X.env) :: starEach [b, c] X.env) (hpl : (backTo pos (starEach [b, c] X.env)).any (·.1) = false) :
    PI X tg (.Call (.Name "range" p) [a, b, c] [] pos) (tI T X (wI G cl cm (.rng3 fa fb fc))) := by
  refine pi_imp (pi_range3 hg hm ha hst hpl) fun σ H R hh => ?_
  obtain ⟨m, ps, h, Rf, Ef, hs, hr, k, tk, q⟩ := hh
  refine arg3 hs hr tk q fun m1 h1 p p' p'' x y z H1 a1 r1 rx ry rz ⟨r, e, q1⟩ => ?_
  unfold rngOf at e
  split at e <;> rename_i hp <;> first | (cases hp; done) | (cases e; done) | skip
  split at e
  · rename_i i j cc hz
    cases hp
    cases e
    have rx : x = _ := rx
    have ry : y = _ := ry
    have rz : z = _ := rz
    subst rx; subst ry; subst rz
    refine ⟨i, j, cc, _, rfl, ⟨hz.1, hz.2.1, hz.2.2.1, (Int.toNat_of_nonneg hz.2.2.2).symm⟩, k m1 h1 _ _ H1 a1 r1 ?_ q1⟩
    exact wk_rng (fun i H z => z) (fun i H v H'' z => z) fun i H z => z
  · cases e
/-! enumerate, zip, reversed -/
theorem new_tup {m : List Addr} {h : PH} {H : Hp} {p : Addr} {ps : List PV} {vs : List V} (hr : HR T m h H) (hp : H p = none) (rs : RVs T m ps vs) : ∃ m'', m <+: m'' ∧ HR T m'' (h ++ [.tup ps]) (upd H p (.tup vs)) ∧ RV T m'' (.loc h.length) (.ref p) :=
  ⟨m ++ [p], ext_snoc, hr.new hp ⟨vs, upd_same, rs.ext ext_snoc⟩ rfl, p, by rw [← hr.len, List.getElem?_append_right (Nat.le_refl _), Nat.sub_self]; rfl, rfl⟩
theorem wk_enum (hK : X.K = T.K) (ok : KOk T G) {m : List Addr} {p : PV} {l : Addr} {xs : List PV} (rx : RV T m p (.ref l)) : WkOk T m (Ite X.K l) ⟨fun h' => lstOf G h' p = some xs, enumL xs⟩ := by
  have len : (enumL xs).length = xs.length := by simp [enumL]
  constructor
  · intro m' h' H' i x a hr e hx
    obtain ⟨y, hy, rfl⟩ := its_at (l := xs.zipIdx) hx
    have hy2 : xs[i]? = some y.1 ∧ y.2 = i := by
      rw [List.getElem?_zipIdx] at hy
      cases q : xs[i]? with
      | none => rw [q] at hy; cases hy
      | some z => rw [q] at hy; cases hy; exact ⟨rfl, by simp⟩
    obtain ⟨vs, hS, rs⟩ := sql_eq hK ok hr (rx.ext a) e
    obtain ⟨v, hv, rv⟩ := rs.get hy2.1
    refine ⟨⟨vs, v, hS, hv⟩, fun v' H'' ⟨t, x1, e1, e2, e3, e4⟩ => ?_⟩
    have e5 := e4 vs hS
    rw [hv] at e5; cases e5
    subst e1; subst e3
    refine new_tup hr e2 (.cons ?_ (.cons rv .nil))
    show V.int (i : Nat) = V.int (y.2 : Nat)
    rw [hy2.2]
  · intro m' h' H' i a hr e hl
    obtain ⟨vs, hS, rs⟩ := sql_eq hK ok hr (rx.ext a) e
    have hl : (enumL xs).length ≤ i := hl
    rw [len, rs.length] at hl
    exact ⟨vs, hS, hl⟩
theorem enumL_at {xs : List PV} {i : Nat} {x : Item} (hx : (enumL xs)[i]? = some x) : ∃ y, xs[i]? = some y ∧ x = .tup [.int (i : Nat), y] := by
  obtain ⟨y, hy, rfl⟩ := its_at (l := xs.zipIdx) hx
  rw [List.getElem?_zipIdx] at hy
  cases q : xs[i]? with
  | none => rw [q] at hy; cases hy
  | some z => rw [q] at hy; cases hy; exact ⟨z, rfl, by simp⟩
theorem wk_enumL (hK : X.K = T.K) (ok : KOk T G) {m : List Addr} {p : PV} {l : Addr} {o : PO} {xs : List PV} (rx : RV T m p (.ref l)) (ho : o = .lst xs ∨ o = .rol xs) : WkOk T m (Ite X.K l) ⟨fun h' => deref G h' p = some o, enumL xs⟩ := by
  have k := wk_enum (xs := xs) hK ok rx
  have cv : ∀ {h' : PH}, deref G h' p = some o → lstOf G h' p = some xs := fun e => by
    unfold lstOf
    rw [e]
    rcases ho with rfl | rfl <;> rfl
  exact ⟨fun m' h' H' i x a hr e hx => k.go m' h' H' i x a hr (cv e) hx, fun m' h' H' i a hr e hl => k.stop m' h' H' i a hr (cv e) hl⟩
theorem wk_enumT (hK : X.K = T.K) (ok : KOk T G) {m : List Addr} {p : PV} {l : Addr} {xs : List PV} {n : Nat} (hn : n = xs.length) (rx : RV T m p (.ref l)) : WkOk T m (IteT X.K l n) ⟨fun h' => deref G h' p = some (.tup xs), enumL xs⟩ := by
  have len : (enumL xs).length = xs.length := by simp [enumL]
  have cv : ∀ {h' : PH}, deref G h' p = some (.tup xs) → tupOf G h' p = some xs := fun e => by unfold tupOf; rw [e]
  constructor
  · intro m' h' H' i x a hr e hx
    obtain ⟨y, hy, rfl⟩ := enumL_at hx
    obtain ⟨vs, hS, rs⟩ := sqt_eq hK ok hr (rx.ext a) (cv e)
    obtain ⟨v, hv, rv⟩ := rs.get hy
    refine ⟨⟨by rw [hn]; exact get_len hy, vs, v, hS, hv⟩, fun v' H'' ⟨t, x1, e1, e2, e3, e4⟩ => ?_⟩
    have e5 := e4 vs hS
    rw [hv] at e5; cases e5
    subst e1; subst e3
    exact new_tup hr e2 (.cons rfl (.cons rv .nil))
  · intro m' h' H' i a hr e hl
    obtain ⟨vs, hS, rs⟩ := sqt_eq hK ok hr (rx.ext a) (cv e)
    have hl : (enumL xs).length ≤ i := hl
    rw [len] at hl
    exact ⟨by rw [hn]; exact hl, vs, hS, by rw [hn]; exact rs.length.symm⟩
theorem wk_enumS {m : List Addr} (l : List Nat) : WkOk T m (IteS (sOf l)) ⟨fun _ => True, enumL (l.map fun c => .str [c])⟩ := by
  have len : (enumL (l.map fun c => PV.str [c])).length = l.length := by simp [enumL]
  constructor
  · intro m' h' H' i x a hr _ hx
    obtain ⟨y, hy, rfl⟩ := enumL_at hx
    rw [List.getElem?_map] at hy
    cases q : l[i]? with
    | none => rw [q] at hy; cases hy
    | some c =>
      rw [q] at hy
      cases hy
      have hi := get_len q
      refine ⟨show i < (sOf l).cps.size by show i < l.toArray.size; simpa using hi, fun v' H'' ⟨t, c', e1, e2, e3, e4⟩ => ?_⟩
      have e5 : l.toArray[i]? = some c' := e4
      rw [List.getElem?_toArray, q] at e5
      cases e5
      subst e1; subst e3
      exact new_tup hr e2 (.cons rfl (.cons rfl .nil))
  · intro m' h' H' i a hr _ hl
    have hl : (enumL (l.map fun c => PV.str [c])).length ≤ i := hl
    rw [len] at hl
    show l.toArray.size ≤ i
    simpa using hl
theorem sI_enum (hK : X.K = T.K) (ok : KOk T G) {fa : IE} {p tpos : Pos} {elts : List Expr} {kk : Nat} (hg : Gl X "enumerate") (hm : X.mg "enumerate" = none) (ha : PA X [a] (tA T X (wA G cl cm [fa]))) (hst : starEach [a] X.env = [(false, eval a X.env)]) :
    PI X (.Tuple elts kk tpos) (.Call (.Name "enumerate" p) [a] [] pos) (tI T X (wI G cl cm (.enum fa))) := by
  refine pi_imp (pi_enumA hg hm ha hst) fun σ H R hh => ?_
  obtain ⟨m, ps, h, Rf, Ef, hs, hr, k, tk, q⟩ := hh
  refine arg1 hs hr tk q fun m1 h1 p x H1 a1 r1 rx q1 => ?_
  cases p with
  | str l =>
    have rx : x = _ := rx
    subst rx
    exact .inr (.inr ⟨_, rfl, k m1 h1 _ _ H1 a1 r1 (wk_enumS l) q1⟩)
  | loc n =>
    obtain ⟨o, xs, e, e2, q1⟩ := q1
    cases o with
    | tup ys =>
      cases e2
      obtain ⟨l, vs, rfl, hS, rs⟩ := tupOf_ok ok r1 rx (xs := xs) (by unfold tupOf; rw [e])
      exact .inl ⟨l, vs, rfl, by rw [hK]; exact hS, k m1 h1 _ _ H1 a1 r1 (wk_enumT hK ok rs.length.symm rx) q1⟩
    | lst ys =>
      cases e2
      obtain ⟨l, vs, rfl, hS, rs⟩ := lstOf_ok ok r1 rx (xs := xs) (by unfold lstOf; rw [e])
      exact .inr (.inl ⟨l, vs, rfl, by rw [hK]; exact hS, k m1 h1 _ _ H1 a1 r1 (wk_enumL hK ok rx (.inl rfl)) q1⟩)
    | rol ys =>
      cases e2
      obtain ⟨l, vs, rfl, hS, rs⟩ := lstOf_ok ok r1 rx (xs := xs) (by unfold lstOf; rw [e])
      exact .inr (.inl ⟨l, vs, rfl, by rw [hK]; exact hS, k m1 h1 _ _ H1 a1 r1 (wk_enumL hK ok rx (.inr rfl)) q1⟩)
    | _ => cases e2
  | kon n =>
    obtain ⟨o, xs, e, e2, q1⟩ := q1
    cases o with
    | tup ys =>
      cases e2
      obtain ⟨l, vs, rfl, hS, rs⟩ := tupOf_ok ok r1 rx (xs := xs) (by unfold tupOf; rw [e])
      exact .inl ⟨l, vs, rfl, by rw [hK]; exact hS, k m1 h1 _ _ H1 a1 r1 (wk_enumT hK ok rs.length.symm rx) q1⟩
    | lst ys =>
      cases e2
      obtain ⟨l, vs, rfl, hS, rs⟩ := lstOf_ok ok r1 rx (xs := xs) (by unfold lstOf; rw [e])
      exact .inr (.inl ⟨l, vs, rfl, by rw [hK]; exact hS, k m1 h1 _ _ H1 a1 r1 (wk_enumL hK ok rx (.inl rfl)) q1⟩)
    | rol ys =>
      cases e2
      obtain ⟨l, vs, rfl, hS, rs⟩ := lstOf_ok ok r1 rx (xs := xs) (by unfold lstOf; rw [e])
      exact .inr (.inl ⟨l, vs, rfl, by rw [hK]; exact hS, k m1 h1 _ _ H1 a1 r1 (wk_enumL hK ok rx (.inr rfl)) q1⟩)
    | _ => cases e2
  | _ => obtain ⟨o, xs, e, _⟩ := q1; cases e
theorem wk_zip (hK : X.K = T.K) (ok : KOk T G) {m : List Addr} {p p' : PV} {l l' : Addr} {xs ys : List PV} (rx : RV T m p (.ref l)) (ry : RV T m p' (.ref l')) : WkOk T m (Itz X.K l l') ⟨fun h' => lstOf G h' p = some xs ∧ lstOf G h' p' = some ys, zipL xs ys⟩ := by
  have len : (zipL xs ys).length = min xs.length ys.length := by simp [zipL]
  constructor
  · intro m' h' H' i x a hr ⟨e, e'⟩ hx
    obtain ⟨y, hy, rfl⟩ := its_at (l := xs.zip ys) hx
    obtain ⟨hy1, hy2⟩ : xs[i]? = some y.1 ∧ ys[i]? = some y.2 := by
      have := List.getElem?_zip_eq_some.mp hy
      exact this
    obtain ⟨vs, hS, rs⟩ := sql_eq hK ok hr (rx.ext a) e
    obtain ⟨us, hS', rs'⟩ := sql_eq hK ok hr (ry.ext a) e'
    obtain ⟨v, hv, rv⟩ := rs.get hy1
    obtain ⟨u, hu, ru⟩ := rs'.get hy2
    refine ⟨⟨vs, us, v, u, hS, hS', hv, hu⟩, fun v' H'' ⟨t, x1, y1, e1, e2, e3, e4, e5⟩ => ?_⟩
    have f4 := e4 vs hS
    have f5 := e5 us hS'
    rw [hv] at f4; cases f4
    rw [hu] at f5; cases f5
    subst e1; subst e3
    exact new_tup hr e2 (.cons rv (.cons ru .nil))
  · intro m' h' H' i a hr ⟨e, e'⟩ hl
    obtain ⟨vs, hS, rs⟩ := sql_eq hK ok hr (rx.ext a) e
    obtain ⟨us, hS', rs'⟩ := sql_eq hK ok hr (ry.ext a) e'
    have hl : (zipL xs ys).length ≤ i := hl
    rw [len, rs.length, rs'.length] at hl
    refine ⟨vs, us, hS, hS', ?_⟩
    by_cases z : vs.length ≤ i
    · exact .inl z
    · exact .inr (by omega)
theorem sI_zip (hK : X.K = T.K) (ok : KOk T G) {fa fb : IE} {p tpos : Pos} {elts : List Expr} {kk : Nat} (hg : Gl X "zip") (hm : X.mg "zip" = none) (ha : PA X [a, b] (tA T X (wA G cl cm [fa, fb]))) (hst : starEach [a, b] X.env = (false, eval a X.env) :: starEach [b] X.env) (hpl : (backTo pos (starEach [b] X.env)).any (·.1) = false) :
    PI X (.Tuple elts kk tpos) (.Call (.Name "zip" p) [a, b] [] pos) (tI T X (wI G cl cm (.zip fa fb))) := by
  refine pi_imp (pi_zip hg hm ha hst hpl) fun σ H R hh => ?_
  obtain ⟨m, ps, h, Rf, Ef, hs, hr, k, tk, q⟩ := hh
  refine arg2 hs hr tk q fun m1 h1 p p' x y H1 a1 r1 rx ry ⟨xs, ys, e, e', q1⟩ => ?_
  obtain ⟨l, vs, rfl, hS, rs⟩ := lstOf_ok ok r1 rx e
  obtain ⟨l', us, rfl, hS', rs'⟩ := lstOf_ok ok r1 ry e'
  exact ⟨l, l', vs, us, rfl, by rw [hK]; exact hS, by rw [hK]; exact hS', k m1 h1 _ _ H1 a1 r1 (wk_zip hK ok rx ry) q1⟩
theorem wk_rev (hK : X.K = T.K) (ok : KOk T G) {m : List Addr} {p : PV} {l : Addr} {xs : List PV} {n : Nat} (hn : n = xs.length) (rx : RV T m p (.ref l)) : WkOk T m (Itv X.K l n) ⟨fun h' => lstOf G h' p = some xs, xs.reverse.map .val⟩ := by
  constructor
  · intro m' h' H' i x a hr e hx
    obtain ⟨y, hy, rfl⟩ := its_at hx
    have hi : i < xs.length := by simpa using get_len hy
    rw [List.getElem?_reverse hi] at hy
    obtain ⟨vs, hS, rs⟩ := sql_eq hK ok hr (rx.ext a) e
    obtain ⟨v, hv, rv⟩ := rs.get hy
    rw [← hn] at hv
    refine ⟨⟨by rw [hn]; exact hi, vs, v, hS, hv⟩, fun v' H'' ⟨e1, hy'⟩ => ?_⟩
    subst e1
    have e2 := hy' vs hS
    rw [hv] at e2; cases e2
    exact ⟨m', pre_refl, hr, rv⟩
  · intro m' h' H' i a hr e hl
    show n ≤ i
    rw [hn]; simpa using hl
theorem sI_rev (hK : X.K = T.K) (ok : KOk T G) {fa : IE} {p : Pos} (hg : Gl X "reversed") (hm : X.mg "reversed" = none) (ha : PA X [a] (tA T X (wA G cl cm [fa]))) (hst : starEach [a] X.env = [(false, eval a X.env)]) :
    PI X tg (.Call (.Name "reversed" p) [a] [] pos) (tI T X (wI G cl cm (.rev fa))) := by
  refine pi_imp (pi_reversed hg hm ha hst) fun σ H R hh => ?_
  obtain ⟨m, ps, h, Rf, Ef, hs, hr, k, tk, q⟩ := hh
  refine arg1 hs hr tk q fun m1 h1 p x H1 a1 r1 rx ⟨xs, e, q1⟩ => ?_
  obtain ⟨l, vs, rfl, hS, rs⟩ := lstOf_ok ok r1 rx e
  exact ⟨l, vs, rfl, by rw [hK]; exact hS, k m1 h1 _ _ H1 a1 r1 (wk_rev hK ok rs.length.symm rx) q1⟩
end
end Fw
set_option Elab.async false
set_option linter.all false
set_option maxRecDepth 100000
set_option maxHeartbeats 1000000
/-! Fw8: targets, comprehensions, statements. -/
namespace Fw
open PySem PySem.Spec PyProof.Rows L2

/-! a list as the source of several targets -/
section
variable {prog : Program} {w : World} {A : Around} {E : Value → Shared → Prop} {s : Shared}
theorem draw_l {it l : Addr} {its : Array Value} (ne : l ≠ it) : ∀ (n i : Nat) (s : Shared) (Q : List Value → Shared → Prop), s.heap.IsListIter it l i → s.heap.IsList l its → i + n ≤ its.size →
    (∀ h', h'.IsListIter it l (i + n) → Heap.SameBut it s.heap h' → Q ((its.toList.drop i).take n) { s with heap := h' }) → wpAny (model prog w) A (draw (.ref it) n) Q E s
  | 0, i, s, Q, hi, _, _, q => wpAny_pure (by simpa using q s.heap hi (Heap.SameBut.refl ..))
  | n + 1, i, s, Q, hi, hl, le, q => by
    have lt : i < its.size := by omega
    have here : its[i]? = some its[i] := by simp [lt]
    have split : its.toList.drop i = its[i] :: its.toList.drop (i + 1) := by simp [List.drop_eq_getElem_cons, lt]
    show wpAny _ _ (pyNext (.ref it) >>= fun _ => _) Q E s
    refine wpAny_bind (wpAny_pyNext_list_item hi hl here fun h1 hi1 sb1 => wpAny_bind (wpAny_holding ?_))
    refine draw_l ne n (i + 1) _ _ hi1 (hl.at fun o e => sb1.extBut _ _ ne e) (by omega) fun h2 hi2 sb2 => wpAny_pure ?_
    have z := q h2 (by rw [show i + (n + 1) = i + 1 + n by omega]; exact hi2) (sb1.trans sb2)
    rw [split, List.take_succ_cons] at z
    exact z
theorem unpack_l {l : Addr} {its : Array Value} {Q : List Value → Shared → Prop} (hh : A.handled = none) (hl : s.heap.IsList l its)
    (q : ∀ h', Heap.ExtBut s.heap.objs.size s.heap h' → Q its.toList { s with heap := h' }) : wpAny (model prog w) A (unpackItems (.ref l) its.size none) Q E s := by
  have lt : l ≠ s.heap.objs.size := by
    obtain ⟨o, ho, _⟩ := hl
    exact Nat.ne_of_lt (Heap.lt_size ho)
  unfold unpackItems notIterableAtAll
  refine wpAny_bind (wpAny_bind (wpAny_specialOf hl.typeIs slot_list_iter.lookup (wpAny_pure ?_)))
  rw [if_neg (by simp)]
  refine wpAny_bind (wpAny_holding (wpAny_pyIter_list hl ?_))
  refine wpAny_bind (wpAny_holding (draw_l lt its.size 0 _ _ ⟨_, Heap.get?_push_size _ rfl, rfl, rfl⟩ (hl.push _) (by omega) fun h1 hi1 sb1 => ?_))
  have all : List.take its.size (List.drop 0 its.toList) = its.toList := by
    rw [List.drop_zero, List.take_of_length_le (by simp)]
  rw [all, if_neg (by simp)]
  refine wpAny_bind (wpAny_holding (wpAny_pyNext_list_end hh hi1 ((hl.push _).at fun o e => sb1.extBut _ _ lt e) (by simp) fun h2 e2 => ?_))
  rw [if_neg (by simp)]
  exact wpAny_pure (q h2 fun b o hb e => e2 b o hb (sb1.extBut b o hb (Heap.get?_push_of_some _ e)))
theorem assign_l {env : Env} {es : List Expr} {kk : Nat} {pos : Pos} {l : Addr} {its : Array Value} {Q : Unit → Shared → Prop} (hh : A.handled = none) (hl : s.heap.IsList l its) (hn : (assignEach es env).length = its.size) (hs : (assignEach es env).findIdx? (·.1) = none)
    (k : ∀ h', Heap.ExtBut s.heap.objs.size s.heap h' → wpAny (model prog w) A (assignInOrder ((assignEach es env).map (·.2)) its.toList) Q E { s with heap := h' }) : wpAny (model prog w) A (assign (.Tuple es kk pos) env (.ref l)) Q E s := by
  rw [assign_Tuple]
  refine wpAny_bind (wpAny_standAt ?_)
  unfold unpack
  rw [hn, hs]
  exact wpAny_bind (wpAny_holding (unpack_l hh hl k))
end
/-- a tuple or a list -/
def gSeq (K : PySem.W.Frag) (n : Nat) (t : TGs) : TG := fun v σ H Q => ∃ a xs, v = .ref a ∧ (SqL K H a xs ∨ SqT K H a xs) ∧ xs.length = n ∧ t xs σ H Q
theorem pg_seq {X : Cx} {es : List Expr} {k : Nat} {t : TGs} {n : Nat} {pos : Pos} (hc : X.calm = true) (h : PGs X es t) (hn : (assignEach es X.env).length = n) (hst : (assignEach es X.env).findIdx? (·.1) = none) : PG X (.Tuple es k pos) (gSeq X.K n t) := by
  refine ⟨fun pins s σ H v u Q I r hw => ?_⟩
  obtain ⟨a, xs, e1, hq, hl, hw⟩ := hw
  rcases hq with hq | hq
  · subst e1
    cases r
    obtain ⟨its, rv, pl, hz⟩ := I.list hq
    refine assign_l (I.ok.hd hc) pl.isList (by simp [hn, ← hl, rv.length]) hst fun h' hx => ?_
    have I1 : Inv X pins σ H { s with heap := h' } := I.kept (t' := s.toks) fun b o e => hx b o (Nat.ne_of_lt (Heap.lt_size e)) e
    exact h.run pins _ σ H xs _ Q I1 (by simpa using rv) hw
  · exact (pg_tup hc h hn hst).run pins s σ H v u Q I r ⟨a, xs, e1, hq, hl, hw⟩
abbrev FG := (PX → PH → Prop) → PV → PSt → PH → (PSt → PH → Prop) → Prop
def KS (T : Tab) (m : List Addr) (Qf : PSt → PH → Prop) (Q : L2.St → Hp → Prop) : Prop := ∀ (m' : List Addr) (ps : PSt) (σ : L2.St) (h' : PH) (H' : Hp), m <+: m' → SR T m' ps σ → HR T m' h' H' → Qf ps h' → Q σ H'
theorem KS.ext {T : Tab} {m m' : List Addr} {Qf : PSt → PH → Prop} {Q : L2.St → Hp → Prop} (h : m <+: m') (k : KS T m Qf Q) : KS T m' Qf Q := fun m2 ps σ h2 H2 a b c d => k m2 ps σ h2 H2 (pre_trans h a) b c d
def tG (T : Tab) (X : Cx) (f : FG) : TG := fun v σ H Q => ∃ m ps h p Qf Ef, SR T m ps σ ∧ HR T m h H ∧ RV T m p v ∧ KS T m Qf Q ∧ TkE T X m σ Ef ∧ f Ef p ps h Qf
abbrev wG (G : Pg) (cl cm : CSem) (g : IG) : FG := fun E => wpG G cl cm E g
theorem pg_imp {X : Cx} {e : Expr} {t u : TG} (h : PG X e t) (k : ∀ v σ H Q, u v σ H Q → t v σ H Q) : PG X e u := ⟨fun pins s σ H v w Q I r q => h.run pins s σ H v w Q I r (k v σ H Q q)⟩
section
variable {X : Cx} {T : Tab} {G : Pg} {cl cm : CSem} {a b c tg : Expr} {pos : Pos}
theorem sG_name {i : Nat} {x : Str} (hN : X.N.Nodup) (hi : X.N[i]? = some x) (hx : Loc X.env.scope x) (hf : X.fn x = true ∨ X.env.scope.names.lookup x = some .local) : PG X (.Name x pos) (tG T X (wG G cl cm (.name i))) := by
  refine pg_imp (pg_name hN hi hx hf) fun v σ H Q hh => ?_
  obtain ⟨m, ps, h, p, Qf, Ef, hs, hr, rv, k, tk, q⟩ := hh
  exact k m _ _ h H pre_refl (hs.set rv i) hr q
/-- a name as a target -/
structure NmOk (X : Cx) (i : Nat) (x : Str) : Prop where
  hi : X.N[i]? = some x
  hx : Loc X.env.scope x
  hf : X.fn x = true ∨ X.env.scope.names.lookup x = some .local
/-- the targets within a tuple are names -/
inductive NmsOk (X : Cx) : List Nat → List Expr → Prop
  | nil : NmsOk X [] []
  | cons {i : Nat} {x : Str} {p : Pos} {is : List Nat} {es : List Expr} : NmOk X i x → NmsOk X is es → NmsOk X (i :: is) (.Name x p :: es)
def tGn (T : Tab) (is : List Nat) : TGs := fun vs σ H Q => ∃ m ps h p Qf, SR T m ps σ ∧ HR T m h H ∧ RVs T m p vs ∧ p.length = is.length ∧ KS T m Qf Q ∧ Qf (setAll ps is p) h
theorem sGs (hN : X.N.Nodup) : ∀ {is : List Nat} {es : List Expr}, NmsOk X is es → PGs X es (tGn T is)
  | [], _, .nil => by
    refine ⟨fun pins s σ H vs us Q I r hh => pgs_nil.run pins s σ H vs us Q I r ?_⟩
    obtain ⟨m, ps, h, p, Qf, hs, hr, rv, hl, k, q⟩ := hh
    cases p with
    | nil => cases rv; exact ⟨rfl, k m _ _ h H pre_refl hs hr q⟩
    | cons _ _ => cases hl
  | i :: is, _, .cons (es := es) n t => by
    refine ⟨fun pins s σ H vs us Q I r hh => (pgs_cons (pg_name hN n.hi n.hx n.hf) (sGs hN t) ?_).run pins s σ H vs us Q I r ?_⟩
    · cases es <;> rfl
    · obtain ⟨m, ps, h, p, Qf, hs, hr, rv, hl, k, q⟩ := hh
      cases p with
      | nil => cases hl
      | cons p1 p =>
        cases rv with
        | cons r1 t1 => exact ⟨_, _, rfl, m, _, h, p, Qf, hs.set r1 i, hr, t1, Nat.succ.inj hl, k, q⟩
theorem asgE_len : ∀ {es : List Expr} {is : List Nat}, NmsOk X is es → (assignEach es X.env).length = is.length
  | _, _, .nil => rfl
  | _, _, .cons n t => by
    show (assignEach _ X.env).length + 1 = _ + 1
    rw [asgE_len t]
theorem asgE_star : ∀ {es : List Expr} {is : List Nat}, NmsOk X is es → (assignEach es X.env).findIdx? (·.1) = none
  | _, _, .nil => rfl
  | _, _, .cons (x := x) (p := p) (es := es) n t => by
    have e : assignEach (.Name x p :: es) X.env = (false, assign (.Name x p) X.env) :: assignEach es X.env := rfl
    rw [e, List.findIdx?_cons]
    simp [asgE_star t]
theorem sG_names (hK : X.K = T.K) (ok : KOk T G) (hc : X.calm = true) (hN : X.N.Nodup) {es : List Expr} {is : List Nat} {kk : Nat} (n : NmsOk X is es) : PG X (.Tuple es kk pos) (tG T X (wG G cl cm (.names is))) := by
  refine pg_imp (pg_seq (n := is.length) hc (sGs (T := T) hN n) (asgE_len n) (asgE_star n)) fun v σ H Q hh => ?_
  obtain ⟨m, ps, h, p, Qf, Ef, hs, hr, rv, k, tk, q⟩ := hh
  obtain ⟨xs, e, hl, q⟩ := q
  obtain ⟨l, vs, rfl, hS, rs⟩ := seqOf_ok ok hr rv e
  exact ⟨l, vs, rfl, by rw [hK]; exact hS, by rw [← rs.length]; exact hl, m, ps, h, xs, Qf, hs, hr, rs, hl, k, q⟩
/-- o[i] = v, of a list -/
theorem set_ok {m : List Addr} {h h3 : PH} {H : Hp} {o i v : PV} {x y z : V} {Q : Hp → Prop} (hr : HR T m h H) (ro : RV T m o x) (ri : RV T m i y) (rv : RV T m v z) (e : setP o i v h = some h3) (q : ∀ H', HR T m h3 H' → Q H') : rSetL x y z H Q := by
  unfold setP at e
  split at e
  · rename_i n kk
    split at e
    · rename_i xs hx
      obtain ⟨a, vs, m1, h1, rs⟩ := hr.lst hx
      obtain ⟨a', m2, rfl⟩ := ro
      rw [m1] at m2; cases m2
      have ri : y = _ := ri
      subst ri
      cases e2 : ixN xs.length kk with
      | none => rw [e2] at e; cases e
      | some j =>
        rw [e2] at e; cases e
        exact ⟨a, vs, kk, j, rfl, rfl, h1, by rw [← rs.length]; exact e2, q _ (hr.putL m1 hx h1 (rs.set rv j))⟩
    · cases e
  · cases e
theorem sG_sub {fa fb : IE} (ha : PE X a (tE T X (wE G cl cm fa))) (hb : PE X b (tE T X (wE G cl cm fb))) (hs : ∀ v, assign (.Subscript a b pos) X.env v = (do
      let ov ← holding [v] (eval a X.env)
      let iv ← holding [v, ov] (eval b X.env)
      standAt pos
      holding [v, ov, iv] (setItem ov iv v)
      release [v, ov, iv] [])) : PG X (.Subscript a b pos) (tG T X (wG G cl cm (.sub fa fb))) := by
  refine pg_imp (pg_sub ha hb set_list hs) fun v σ H Q hh => ?_
  obtain ⟨m, ps, h, p, Qf, Ef, hs, hr, rv, k, tk, q⟩ := hh
  refine two hs hr tk q fun m' h' o i x y H' ex r rx ry ⟨h3, e, q2⟩ => ?_
  exact set_ok r rx ry (rv.ext ex) e fun H'' r3 => k m' ps σ h3 H'' ex (hs.ext ex) r3 q2

/-! ### statements -/
def KD (T : Tab) (m : List Addr) (D' : PEnds) (D : Ends) : Prop := KS T m D'.nx D.nx ∧ KQ T m D'.rt D.rt ∧ KS T m D'.bk D.bk ∧ KS T m D'.ct D.ct
theorem KD.ext {m m' : List Addr} {D' : PEnds} {D : Ends} (h : m <+: m') (k : KD T m D' D) : KD T m' D' D := ⟨k.1.ext h, k.2.1.ext h, k.2.2.1.ext h, k.2.2.2.ext h⟩
def tS (T : Tab) (X : Cx) (f : FS) : TS := fun D σ H => ∃ m ps h D' Ef, SR T m ps σ ∧ HR T m h H ∧ KD T m D' D ∧ TkS T X m Ef ∧ f Ef D' ps h
abbrev wS (G : Pg) (cl cm : CSem) (s : IS) : FS := fun E => wpSt G cl cm E s
abbrev wB (G : Pg) (cl cm : CSem) (s : List IS) : FS := fun E => wpSs G cl cm E s
theorem ps_imp {st : Stmt} {t u : TS} (h : PS X st t) (k : ∀ D σ H, u D σ H → t D σ H) : PS X st u := ⟨fun pins s σ H D I q => h.run pins s σ H D I (k D σ H q)⟩
theorem pss_imp {st : List Stmt} {t u : TS} (h : PSs X st t) (k : ∀ D σ H, u D σ H → t D σ H) : PSs X st u := ⟨fun pins s σ H D I q => h.run pins s σ H D I (k D σ H q)⟩
theorem sB_nil : PSs X [] (tS T X (wB G cl cm [])) := by
  refine pss_imp pss_nil fun D σ H hh => ?_
  obtain ⟨m, ps, h, D', Ef, hs, hr, k, tk, q⟩ := hh
  exact k.1 m _ _ h H pre_refl hs hr q
theorem sB_cons {st : Stmt} {sts : List Stmt} {fs : IS} {fr : List IS} (h1 : PS X st (tS T X (wS G cl cm fs))) (h2 : PSs X sts (tS T X (wB G cl cm fr))) : PSs X (st :: sts) (tS T X (wB G cl cm (fs :: fr))) := by
  refine pss_imp (pss_cons h1 h2) fun D σ H hh => ?_
  obtain ⟨m, ps, h, D', Ef, hs, hr, k, tk, q⟩ := hh
  have q : wpSt G cl cm Ef fs { D' with nx := wpSs G cl cm Ef fr D' } ps h := q
  refine ⟨m, ps, h, { D' with nx := wpSs G cl cm Ef fr D' }, Ef, hs, hr, ⟨fun m1 ps1 σ1 h1 H1 a1 s1 r1 q1 => ?_, k.2⟩, tk, q⟩
  exact ⟨m1, ps1, h1, D', Ef, s1, r1, k.ext a1, tk.ext a1, q1⟩
theorem sS_exp {e : Expr} {fe : IE} (he : PE X e (tE T X (wE G cl cm fe))) (hs : swapsWith e none pos.line X.env = pure false) : PS X (.Expr e pos) (tS T X (wS G cl cm (.exp fe))) := by
  refine ps_imp (ps_expr he hs) fun D σ H hh => ?_
  obtain ⟨m, ps, h, D', Ef, hs, hr, k, tk, q⟩ := hh
  exact ⟨m, ps, h, _, _, hs, hr, fun m1 h1 p x H1 a1 r1 rx q1 => k.1 m1 ps σ h1 H1 a1 (hs.ext a1) r1 q1, tk.at hs, q⟩
theorem sS_ret {e : Expr} {fe : IE} (he : PE X e (tE T X (wE G cl cm fe))) : PS X (.Return (some e) pos) (tS T X (wS G cl cm (.ret fe))) := by
  refine ps_imp (ps_ret he) fun D σ H hh => ?_
  obtain ⟨m, ps, h, D', Ef, hs, hr, k, tk, q⟩ := hh
  exact ⟨m, ps, h, _, _, hs, hr, k.2.1, tk.at hs, q⟩
theorem sS_retN : PS X (.Return none pos) (tS T X (wS G cl cm (.ret (.cst .non)))) := by
  refine ps_imp ps_retN fun D σ H hh => ?_
  obtain ⟨m, ps, h, D', Ef, hs, hr, k, tk, q⟩ := hh
  exact k.2.1 m h .non .non H pre_refl hr rfl q
theorem sS_raise {st : Stmt} {c : Nat} {as : List IE} : PS X st (tS T X (wS G cl cm (.raise c as))) := ⟨fun pins s σ H D I hh => by
  obtain ⟨m, ps, h, E, D', _, _, _, _, q⟩ := hh
  exact False.elim (show False from q)⟩
theorem sS_skip : PS X (.Pass pos) (tS T X (wS G cl cm .skip)) := by
  refine ps_imp ps_pass fun D σ H hh => ?_
  obtain ⟨m, ps, h, D', Ef, hs, hr, k, tk, q⟩ := hh
  exact k.1 m _ _ h H pre_refl hs hr q
theorem sS_brk : PS X (.Break pos) (tS T X (wS G cl cm .brk)) := by
  refine ps_imp ps_break fun D σ H hh => ?_
  obtain ⟨m, ps, h, D', Ef, hs, hr, k, tk, q⟩ := hh
  exact k.2.2.1 m _ _ h H pre_refl hs hr q
theorem sS_cont : PS X (.Continue pos) (tS T X (wS G cl cm .cont)) := by
  refine ps_imp ps_continue fun D σ H hh => ?_
  obtain ⟨m, ps, h, D', Ef, hs, hr, k, tk, q⟩ := hh
  exact k.2.2.2 m _ _ h H pre_refl hs hr q
theorem sS_ite {t : Expr} {x y : List Stmt} {ft : IT} {fx fy : List IS} (ht : PT X t (tT T X (wT G cl cm ft))) (hx : PSs X x (tS T X (wB G cl cm fx))) (hy : PSs X y (tS T X (wB G cl cm fy))) : PS X (.If t x y pos) (tS T X (wS G cl cm (.ite ft fx fy))) := by
  refine ps_imp (ps_if ht hx hy) fun D σ H hh => ?_
  obtain ⟨m, ps, h, D', Ef, hs, hr, k, tk, q⟩ := hh
  refine ⟨m, ps, h, _, _, hs, hr, fun m1 h1 c H1 a1 r1 q1 => ?_, tk.at hs, q⟩
  cases c with
  | true => exact ⟨m1, ps, h1, D', Ef, hs.ext a1, r1, k.ext a1, tk.ext a1, q1⟩
  | false => exact ⟨m1, ps, h1, D', Ef, hs.ext a1, r1, k.ext a1, tk.ext a1, q1⟩
theorem sS_asg {e : Expr} {fe : IE} {g : IG} (he : PE X e (tE T X (wE G cl cm fe))) (hg : PG X tg (tG T X (wG G cl cm g))) (h1 : swapsWithSole [tg] e pos.line X.env = pure false) (h2 : swappedStores [tg] e X.env = pure none) (h3 : (assignEach [tg] X.env).map (·.2) = [assign tg X.env]) :
    PS X (.Assign [tg] e pos) (tS T X (wS G cl cm (.asg g fe))) := by
  refine ps_imp (ps_asg he hg h1 h2 h3) fun D σ H hh => ?_
  obtain ⟨m, ps, h, D', Ef, hs, hr, k, tk, q⟩ := hh
  refine ⟨m, ps, h, _, _, hs, hr, fun m1 h1 p x H1 a1 r1 rx q1 => ?_, tk.at hs, q⟩
  exact ⟨m1, ps, h1, p, D'.nx, _, hs.ext a1, r1, rx, k.1.ext a1, (tk.at hs).ext a1, q1⟩
theorem sS_aug (hK : X.K = T.K) (ok : KOk T G) {e : Expr} {fe : IE} {i : Nat} {x : Str} {op : Operator} {p1 : Pos} (hN : X.N.Nodup) (n : NmOk X i x) (he : PE X e (tE T X (wE G cl cm fe))) : PS X (.AugAssign (.Name x p1) op e pos) (tS T X (wS G cl cm (.aug i op fe))) := by
  refine ps_imp (ps_aug hN n.hi n.hx he (op_iop (G := G) hK ok) n.hf) fun D σ H hh => ?_
  obtain ⟨m, ps, h, D', Ef, hs, hr, k, tk, v, e1, q⟩ := hh
  obtain ⟨u, e2, rv⟩ := hs.get e1
  refine ⟨u, e2, m, ps, h, _, _, hs, hr, fun m1 h1 p x H1 a1 r1 rx q1 => ?_, tk.at hs, q⟩
  obtain ⟨r, e3, q1⟩ := q1
  refine ⟨m1, h1, v, p, r, r1, rv.ext a1, rx, e3, fun m2 w H2 a2 r2 rw' => ?_⟩
  exact k.1 m2 _ _ r.2 H2 (pre_trans a1 a2) ((hs.ext (pre_trans a1 a2)).set rw' i) r2 q1
theorem get_list {pins : List (Addr × Obj)} {s : Shared} {σ : L2.St} {H : Hp} {l : Addr} {xs : List V} {i : Int} {t : Tok} {z : V} {Q : VK} (I : Inv X pins σ H s) (hq : SqL X.K H l xs) (he : atI xs i = some z) (q : Q z H) :
    wpAny (model X.prog X.w) X.A (getItem (.ref l) (.int i t)) (EP X pins σ Q) X.xe s := by
  obtain ⟨its, r, pl, hz⟩ := I.list hq
  obtain ⟨j, h1, h2, h3, h4, h5⟩ := atI_get he
  obtain ⟨w, ew, rw'⟩ := r.get h2
  have hl := r.length
  have hn := line63
  have fin : EP X pins σ Q w s := ⟨z, H, I, rw', q⟩
  by_cases h0 : 0 ≤ i
  · rw [seqIndex_of h0 h5] at h1
    have hj : i.toNat = j := Option.some.inj h1
    exact wpAny_getItem_list pl.isList h0 (by omega) (by rw [hj]; simpa using ew) fin
  · rw [seqIndex_neg (by omega) h4] at h1
    have hj : (i + (its.toArray.size : Int)).toNat = j := by
      rw [List.size_toArray, ← hl]
      exact Option.some.inj h1
    exact wpAny_getItem_list_neg pl.isList (by omega) (by rw [List.size_toArray]; omega) (by omega) (by rw [hj]; simpa using ew) fin
theorem idxL_ok (hK : X.K = T.K) (ok : KOk T G) : PGet X (rIdx T (fun x i h => idxL G h x i)) := by
  intro pins s σ H x y v u Q I rx ry hh
  obtain ⟨m, h, p, q, r, hr, rp, rq, e0, k⟩ := hh
  have e : idxL G h p q = some r := e0
  clear e0
  unfold idxL at e
  split at e
  · rename_i i
    have rq : y = _ := rq
    subst rq
    obtain ⟨t, rfl⟩ := ry
    split at e
    · rename_i ys q1
      obtain ⟨a, vs, rfl, hS, rs⟩ := lstOf_ok ok hr rp q1
      obtain ⟨z, e2, rz⟩ := atI_rv rs e
      cases rx
      exact get_list I (by rw [hK]; exact hS) e2 (k.now hr rz)
    · cases e
  · cases e
theorem sS_augS (hK : X.K = T.K) (ok : KOk T G) {e : Expr} {fa fb fe : IE} {op : Operator} {p1 : Pos} (ha : PE X a (tE T X (wE G cl cm fa))) (hb : PE X b (tE T X (wE G cl cm fb))) (he : PE X e (tE T X (wE G cl cm fe)))
    (hs : ∀ ov iv new, augStore b ov iv new = (do holding [new, ov, iv] (setItem ov iv new); release [new, ov, iv] []; pure .next)) : PS X (.AugAssign (.Subscript a b p1) op e pos) (tS T X (wS G cl cm (.augS fa fb op fe))) := by
  refine ps_imp (ps_augS ha hb (idxL_ok (G := G) hK ok) he (op_iop (G := G) hK ok) set_list hs) fun D σ H hh => ?_
  obtain ⟨m, ps, h, D', Ef, hs, hr, k, tk, q⟩ := hh
  refine two hs hr (tk.at hs) q fun m1 h1 p q' x y H1 a1 r1 rx ry ⟨v, e1, q1⟩ => ?_
  refine ⟨m1, h1, p, q', v, r1, rx, ry, e1, fun m2 z H2 a2 r2 rz => ?_⟩
  have a12 := pre_trans a1 a2
  refine ⟨m2, ps, h1, _, _, hs.ext a12, r2, fun m3 h3 p3 u H3 a3 r3 ru q3 => ?_, (tk.at hs).ext a12, q1⟩
  obtain ⟨r, e3, h4, e4, q3⟩ := q3
  refine ⟨m3, h3, v, p3, r, r3, rz.ext a3, ru, e3, fun m4 w H4 a4 r4 rw' => ?_⟩
  have a24 := pre_trans a2 (pre_trans a3 a4)
  exact set_ok r4 (rx.ext a24) (ry.ext a24) rw' e4 fun H' r5 => k.1 m4 ps σ h4 H' (pre_trans a1 a24) (hs.ext (pre_trans a1 a24)) r5 q3
theorem sS_whl {t : Expr} {y : List Stmt} {ft : IT} {fy : List IS} (hp : PassesOwn (model X.prog X.w) X.A X.env X.xe) (ht : PT X t (tT T X (wT G cl cm ft))) (hy : PSs X y (tS T X (wB G cl cm fy))) : PS X (.While t y [] pos) (tS T X (wS G cl cm (.whl ft fy))) := by
  refine ps_imp (ps_while hp ht hy) fun D σ H hh => ?_
  obtain ⟨m, ps, h, D', Ef, hs, hr, k, tk, W, ⟨n, w0⟩, step⟩ := hh
  refine ⟨fun n σ H => ∃ m' ps h, m <+: m' ∧ SR T m' ps σ ∧ HR T m' h H ∧ W n ps h, ⟨n, m, ps, h, pre_refl, hs, hr, w0⟩, ?_⟩
  rintro n σ1 H1 ⟨m1, ps1, h1, a1, s1, r1, w1⟩
  refine ⟨m1, ps1, h1, _, _, s1, r1, fun m2 h2 c H2 a2 r2 q2 => ?_, (tk.ext a1).at s1, step n ps1 h1 w1⟩
  cases c with
  | true =>
    refine ⟨fun σ' H' => ∃ n', n' < n ∧ ∃ m' ps h, m <+: m' ∧ SR T m' ps σ' ∧ HR T m' h H' ∧ W n' ps h, fun σ' H' z => z, ?_⟩
    have q2 : wpSs G cl cm Ef fy { D' with nx := fun σ' h' => ∃ m', m' < n ∧ W m' σ' h', ct := fun σ' h' => ∃ m', m' < n ∧ W m' σ' h', bk := D'.nx } ps1 h2 := q2
    refine ⟨m2, ps1, h2, { D' with nx := fun σ' h' => ∃ m', m' < n ∧ W m' σ' h', ct := fun σ' h' => ∃ m', m' < n ∧ W m' σ' h', bk := D'.nx }, Ef, s1.ext a2, r2, ⟨?_, k.2.1.ext (pre_trans a1 a2), k.1.ext (pre_trans a1 a2), ?_⟩, tk.ext (pre_trans a1 a2), q2⟩
    · intro m3 ps3 σ3 h3 H3 a3 s3 r3 ⟨n', hn, w3⟩
      exact ⟨n', hn, m3, ps3, h3, pre_trans a1 (pre_trans a2 a3), s3, r3, w3⟩
    · intro m3 ps3 σ3 h3 H3 a3 s3 r3 ⟨n', hn, w3⟩
      exact ⟨n', hn, m3, ps3, h3, pre_trans a1 (pre_trans a2 a3), s3, r3, w3⟩
  | false => exact k.1 m2 _ _ h2 H2 (pre_trans a1 a2) (s1.ext a2) r2 q2
theorem drop_at {α : Type} {l : List α} {i : Nat} {x : α} {r : List α} (e : l.drop i = x :: r) : l[i]? = some x ∧ l.drop (i + 1) = r := by
  have h1 : (l.drop i)[0]? = some x := by rw [e]; rfl
  rw [List.getElem?_drop] at h1
  refine ⟨by simpa using h1, ?_⟩
  rw [← List.drop_drop, e]; rfl
theorem sS_for {it : Expr} {y : List Stmt} {fi : II} {g : IG} {fy : List IS} (hp : PassesOwn (model X.prog X.w) X.A X.env X.xe) (hc : X.calm = true) (hi : PI X tg it (tI T X (wI G cl cm fi))) (hg : PG X tg (tG T X (wG G cl cm g))) (hy : PSs X y (tS T X (wB G cl cm fy)))
    (hf : ∀ x, foldedSetIterable it X.env x = pure x) : PS X (.For tg it y [] pos) (tS T X (wS G cl cm (.for_ g fi fy))) := by
  refine ps_imp (ps_for hp hc hi hg hy hf) fun D σ H hh => ?_
  obtain ⟨m, ps, h, D', Ef, hs, hr, k, tk, q⟩ := hh
  refine ⟨m, ps, h, _, _, hs, hr, fun m1 h1 W J H1 a1 r1 wk q1 => ?_, tk.at hs, q⟩
  let L : List Item → PSt → PH → Prop := wpFor (fun v σ h Q => wpG G cl cm (fun x => Ef x σ) g v σ h Q) (fun D σ h => wpSs G cl cm Ef fy D σ h) D' W.chk
  have q1 : L W.its ps h1 := q1
  refine ⟨fun i n σ H => n = W.its.length - i ∧ i ≤ W.its.length ∧ ∃ m' ps h, m1 <+: m' ∧ SR T m' ps σ ∧ HR T m' h H ∧ L (W.its.drop i) ps h, ⟨W.its.length, by simp, Nat.zero_le _, m1, ps, h1, pre_refl, hs.ext a1, r1, q1⟩, ?_⟩
  rintro i n σ2 H2 ⟨rfl, hi, m2, ps2, h2, a2, s2, r2, q2⟩
  cases hd : W.its.drop i with
  | nil =>
    rw [hd] at q2
    have hl : W.its.length ≤ i := by
      have := congrArg List.length hd
      rw [List.length_drop] at this
      simp at this
      omega
    have q2 : W.chk h2 ∧ D'.nx ps2 h2 := q2
    exact .inl ⟨wk.stop m2 h2 H2 i a2 r2 q2.1 hl, k.1 m2 _ _ h2 H2 (pre_trans a1 a2) s2 r2 q2.2⟩
  | cons x r =>
    obtain ⟨e1, e2⟩ := drop_at hd
    rw [hd] at q2
    have q2 : W.chk h2 ∧ wpG G cl cm (fun y => Ef y ps2) g (x.v h2) ps2 (x.h h2) fun σ3 h3 => wpSs G cl cm Ef fy { nx := L r, ct := L r, bk := D'.nx, rt := D'.rt } σ3 h3 := q2
    obtain ⟨go, yl⟩ := wk.go m2 h2 H2 i x a2 r2 q2.1 e1
    have lt := get_len e1
    have a12 := pre_trans a1 a2
    refine .inr ⟨go, fun σ' H' => ∃ m' ps h, m1 <+: m' ∧ SR T m' ps σ' ∧ HR T m' h H' ∧ L r ps h, fun σ' H' ⟨m3, ps3, h3, a3, s3, r3, q3⟩ => ⟨W.its.length - (i + 1), by omega, rfl, lt, m3, ps3, h3, a3, s3, r3, by rw [e2]; exact q3⟩, fun v H3 hy3 => ?_⟩
    obtain ⟨m3, a3, r3, rv⟩ := yl v H3 hy3
    have a13 := pre_trans a12 a3
    refine ⟨m3, ps2, _, _, _, _, s2.ext a3, r3, rv, fun m4 ps4 σ4 h4 H4 a4 s4 r4 q4 => ?_, ((tk.ext a12).at s2).ext a3, q2.2⟩
    refine ⟨m4, ps4, h4, { nx := L r, ct := L r, bk := D'.nx, rt := D'.rt }, Ef, s4, r4, ⟨?_, k.2.1.ext (pre_trans a13 a4), k.1.ext (pre_trans a13 a4), ?_⟩, tk.ext (pre_trans a13 a4), q4⟩
    · intro m5 ps5 σ5 h5 H5 a5 s5 r5 q5
      exact ⟨m5, ps5, h5, pre_trans a2 (pre_trans a3 (pre_trans a4 a5)), s5, r5, q5⟩
    · intro m5 ps5 σ5 h5 H5 a5 s5 r5 q5
      exact ⟨m5, ps5, h5, pre_trans a2 (pre_trans a3 (pre_trans a4 a5)), s5, r5, q5⟩
/-! ### list comprehensions -/
theorem SR.wipe {m : List Addr} {ps : PSt} {σ : L2.St} (r : SR T m ps σ) : ∀ vs : List Nat, SR T m (wipeP ps vs) (wipe σ vs)
  | [] => r
  | v :: vs => by
    show SR T m ((wipeP ps vs).set v none) ((L2.wipe σ vs).set v none)
    exact (SR.wipe r vs).clr v none
def setV (σ : L2.St) : List Nat → List V → L2.St
  | i :: is, x :: xs => setV (σ.set i (some x)) is xs
  | _, _ => σ
def tNames (K : PySem.W.Frag) (is : List Nat) : TG := fun v σ H Q => ∃ l xs, v = .ref l ∧ (SqL K H l xs ∨ SqT K H l xs) ∧ xs.length = is.length ∧ Q (setV σ is xs) H
theorem pgs_names (hN : X.N.Nodup) : ∀ {is : List Nat} {es : List Expr}, NmsOk X is es → PGs X es (fun vs σ H Q => vs.length = is.length ∧ Q (setV σ is vs) H)
  | [], _, .nil => by
    refine ⟨fun pins s σ H vs us Q I r hh => pgs_nil.run pins s σ H vs us Q I r ?_⟩
    cases vs with
    | nil => exact ⟨rfl, hh.2⟩
    | cons _ _ => cases hh.1
  | i :: is, _, .cons (es := es) n t => by
    refine ⟨fun pins s σ H vs us Q I r hh => (pgs_cons (pg_name hN n.hi n.hx n.hf) (pgs_names hN t) ?_).run pins s σ H vs us Q I r ?_⟩
    · cases es <;> rfl
    · cases vs with
      | nil => cases hh.1
      | cons v vs => exact ⟨v, vs, rfl, Nat.succ.inj hh.1, hh.2⟩
theorem pg_names (hc : X.calm = true) (hN : X.N.Nodup) {es : List Expr} {is : List Nat} {kk : Nat} (n : NmsOk X is es) : PG X (.Tuple es kk pos) (tNames X.K is) := by
  refine pg_imp (pg_seq (n := is.length) hc (pgs_names hN n) (asgE_len n) (asgE_star n)) fun v σ H Q hh => ?_
  obtain ⟨l, xs, rfl, hS, hl, q⟩ := hh
  exact ⟨l, xs, rfl, hS, hl, hl, q⟩
/-- the slots of a target; its reading over the hand layer's slots -/
def tgSl : IG → List Nat
  | .name i => [i]
  | .names is => is
  | _ => []
def tgL (K : PySem.W.Frag) : IG → TG
  | .name i => gName i
  | .names is => tNames K is
  | _ => fun _ _ _ _ => False
theorem SR.setAll {m : List Addr} : ∀ {is : List Nat} {ps : List PV} {vs : List V} {st : PSt} {σ : L2.St}, RVs T m ps vs → SR T m st σ → SR T m (setAll st is ps) (setV σ is vs)
  | [], _, _, _, _, _, s => s
  | _ :: _, _, _, _, _, .nil, s => s
  | i :: is, _, _, _, _, .cons r t, s => SR.setAll (is := is) t (s.set r i)
theorem tgl_ok (hK : X.K = T.K) (ok : KOk T G) {E : PX → PH → Prop} {m : List Addr} {ps : PSt} {h : PH} {σ : L2.St} {H : Hp} {g : IG} {p : PV} {v : V} {Qf : PSt → PH → Prop} {Q : L2.St → Hp → Prop} (hs : SR T m ps σ) (hr : HR T m h H) (rv : RV T m p v) (hg : tgSl g ≠ [])
    (q : wpG G cl cm E g p ps h Qf) (k : ∀ ps' is xs, is = tgSl g → SR T m ps' (setV σ is xs) → Qf ps' h → Q (setV σ is xs) H) : tgL X.K g v σ H Q := by
  cases g with
  | name i => exact k _ [i] [v] rfl (hs.set rv i) q
  | names is =>
    obtain ⟨xs, e, hl, q⟩ := q
    obtain ⟨l, vs, rfl, hS, rs⟩ := seqOf_ok ok hr rv e
    exact ⟨l, vs, rfl, by rw [hK]; exact hS, by rw [← rs.length]; exact hl, k _ is vs rfl (SR.setAll rs hs) q⟩
  | _ => exact absurd rfl hg
theorem wipe_set {i : Nat} {x : Option V} : ∀ {vs : List Nat} {σ : L2.St}, i ∈ vs → L2.wipe (σ.set i x) vs = L2.wipe σ vs
  | [], _, h => by cases h
  | v :: vs, σ, h => by
    show (L2.wipe (σ.set i x) vs).set v none = (L2.wipe σ vs).set v none
    by_cases hi : i ∈ vs
    · rw [wipe_set hi]
    · have e : i = v := by rcases List.mem_cons.mp h with e | e; exact e; exact absurd e hi
      subst e
      have out : ∀ {vs : List Nat} {σ : L2.St}, i ∉ vs → L2.wipe (σ.set i x) vs = (L2.wipe σ vs).set i x := by
        intro vs
        induction vs with
        | nil => intro σ _; rfl
        | cons w vs ih =>
          intro σ hn
          have h1 : i ≠ w := fun z => hn (by rw [z]; exact List.mem_cons_self)
          have h2 : i ∉ vs := fun z => hn (List.mem_cons_of_mem _ z)
          show (L2.wipe (σ.set i x) vs).set w none = ((L2.wipe σ vs).set w none).set i x
          rw [ih h2, List.set_comm _ _ h1]
      rw [out hi, List.set_set]
theorem wipe_setV {vs : List Nat} : ∀ {is : List Nat} {xs : List V} {σ : L2.St}, (∀ i ∈ is, i ∈ vs) → L2.wipe (setV σ is xs) vs = L2.wipe σ vs
  | [], _, _, _ => rfl
  | _ :: _, [], _, _ => rfl
  | i :: is, x :: xs, σ, h => by
    show L2.wipe (setV (σ.set i (some x)) is xs) vs = _
    rw [wipe_setV fun j hj => h j (List.mem_cons_of_mem _ hj), wipe_set (h i List.mem_cons_self)]
theorem wipe_wipe (σ : L2.St) : ∀ vs : List Nat, L2.wipe (L2.wipe σ vs) vs = L2.wipe σ vs := by
  have key : ∀ (us vs : List Nat) (σ : L2.St), (∀ i ∈ us, i ∈ vs) → L2.wipe (L2.wipe σ us) vs = L2.wipe σ vs := by
    intro us
    induction us with
    | nil => intro vs σ _; rfl
    | cons u us ih =>
      intro vs σ h
      show L2.wipe ((L2.wipe σ us).set u none) vs = _
      rw [wipe_set (h u List.mem_cons_self)]
      exact ih vs σ fun i hi => h i (List.mem_cons_of_mem _ hi)
  exact fun vs => key vs vs σ fun _ h => h
def tE0 (T : Tab) (f : FE) : TE := fun σ H Q => ∃ m ps h Qf, SR T m ps σ ∧ HR T m h H ∧ KQ T m Qf Q ∧ f (fun _ _ => False) ps h Qf
def tT0 (T : Tab) (f : FT) : TT := fun σ H Q => ∃ m ps h Qf, SR T m ps σ ∧ HR T m h H ∧ KT T m Qf Q ∧ f (fun _ _ => False) ps h Qf
theorem sE0 {e : Expr} {f : FE} (he : PE X e (tE T X f)) : PE X e (tE0 T f) := pe_imp he fun σ H Q ⟨m, ps, h, Qf, hs, hr, k, q⟩ => ⟨m, ps, h, Qf, _, hs, hr, k, TkE.none, q⟩
theorem sT0 {e : Expr} {f : FT} (he : PT X e (tT T X f)) : PT X e (tT0 T f) := pt_imp he fun σ H Q ⟨m, ps, h, Qf, hs, hr, k, q⟩ => ⟨m, ps, h, Qf, _, hs, hr, k, TkE.none, q⟩
abbrev wTs (G : Pg) (cl cm : CSem) (it : List IT) : FT := fun E => wpTs G cl cm E it
/-- the reading of a comprehension -/
theorem lc_ok (hK : X.K = T.K) (ok : KOk T G) {fi : II} {g : IG} {ft : List IT} {fe : IE} {own : List Nat} (hg : tgSl g ≠ []) (ho : ∀ i ∈ tgSl g, i ∈ own) {σ : L2.St} {H : Hp} {Q : VK} (hh : tE T X (wE G cl cm (.comp fe g fi ft own)) σ H Q) :
    tLc (tI T X (wI G cl cm fi)) (tgL X.K g) (tT0 T (wTs G cl cm ft)) (tE0 T (wE G cl cm fe)) own σ H Q := by
  obtain ⟨m, ps, h, Qf, Ef, hs, hr, k, tk, q⟩ := hh
  refine ⟨m, ps, h, _, _, hs, hr, fun m1 h1 W J H1 a1 r1 wk q1 D hD => ?_, tk, q⟩
  let L : List Item → PH → Prop := wpLc (wpG G cl cm (fun _ _ => False) g) (wpTs G cl cm (fun _ _ => False) ft) (wpE G cl cm (fun _ _ => False) fe) (wipeP ps own) h1.length Qf W.chk
  have q1 : L W.its (h1 ++ [.lst []]) := q1
  have r2 : HR T (m1 ++ [D]) (h1 ++ [.lst []]) (upd H1 D (.lst [])) := r1.new hD ⟨[], upd_same, .nil⟩ rfl
  have dD : (m1 ++ [D])[h1.length]? = some D := by rw [← r1.len, List.getElem?_append_right (Nat.le_refl _), Nat.sub_self]; rfl
  have a1D : m <+: m1 ++ [D] := pre_trans a1 ext_snoc
  refine ⟨fun i n H => n = W.its.length - i ∧ i ≤ W.its.length ∧ ∃ m' h, (m1 ++ [D]) <+: m' ∧ HR T m' h H ∧ L (W.its.drop i) h, ⟨W.its.length, by simp, Nat.zero_le _, _, _, pre_refl, r2, q1⟩, ?_⟩
  rintro i n H2 ⟨rfl, hi, m2, h2, a2, r2, q2⟩
  have a12 : m <+: m2 := pre_trans a1D a2
  have a2' : m1 <+: m2 := pre_trans ext_snoc a2
  cases hd : W.its.drop i with
  | nil =>
    rw [hd] at q2
    have hl : W.its.length ≤ i := by
      have := congrArg List.length hd
      rw [List.length_drop] at this
      simp at this
      omega
    have q2 : W.chk h2 ∧ Qf (.loc h1.length) h2 := q2
    exact .inl ⟨wk.stop m2 h2 H2 i a2' r2 q2.1 hl, k m2 h2 (.loc h1.length) _ H2 a12 r2 ⟨D, get_ext a2 dD, rfl⟩ q2.2⟩
  | cons x r =>
    obtain ⟨e1, e2⟩ := drop_at hd
    rw [hd] at q2
    have q2 : W.chk h2 ∧ wpG G cl cm (fun _ _ => False) g (x.v h2) (wipeP ps own) (x.h h2) fun σ2 h2 => wpTs G cl cm (fun _ _ => False) ft σ2 h2 fun b h3 =>
      if b = true then wpE G cl cm (fun _ _ => False) fe σ2 h3 fun y h4 => ∃ acc, h4[h1.length]? = some (.lst acc) ∧ acc.length < sizeLine ∧ L r (h4.set h1.length (.lst (acc ++ [y]))) else L r h3 := q2
    obtain ⟨go, yl⟩ := wk.go m2 h2 H2 i x a2' r2 q2.1 e1
    have lt := get_len e1
    refine .inr ⟨go, fun H' => ∃ m' h, (m1 ++ [D]) <+: m' ∧ HR T m' h H' ∧ L r h, fun H' ⟨m3, h3, a3, r3, q3⟩ => ⟨W.its.length - (i + 1), by omega, rfl, lt, m3, h3, a3, r3, by rw [e2]; exact q3⟩, fun v H3 hy3 => ?_⟩
    obtain ⟨m3, a3, r3, rv⟩ := yl v H3 hy3
    have a13 := pre_trans a12 a3
    refine tgl_ok hK ok ((hs.ext a13).wipe own) r3 rv hg q2.2 fun ps4 is xs his s4 q4 => ⟨?_, ?_⟩
    · rw [wipe_setV (by rw [his]; exact ho), wipe_wipe]
    · refine ⟨m3, ps4, _, _, s4, r3, fun m5 h5 b H5 a5 r5 q5 => ?_, q4⟩
      cases b with
      | true =>
        refine ⟨m5, ps4, h5, _, s4.ext a5, r5, fun m6 h6 y u H6 a6 r6 ry q6 => ?_, q5⟩
        obtain ⟨acc, ha, hz, q6⟩ := q6
        have a26 := pre_trans a2 (pre_trans a3 (pre_trans a5 a6))
        obtain ⟨a', vs, m7, e7, rs⟩ := r6.lst ha
        have e8 := get_ext a26 dD
        rw [m7] at e8; cases e8
        refine ⟨vs, e7, by rw [← rs.length]; exact hz, m6, _, a26, r6.putL m7 ha e7 (rs.append (.cons ry .nil)), q6⟩
      | false => exact ⟨m5, h5, pre_trans a2 (pre_trans a3 a5), r5, q5⟩
end
end Fw
set_option Elab.async false
set_option linter.all false
set_option maxRecDepth 100000
set_option maxHeartbeats 1000000
/-! Fw9: from the program's syntax to the small language, and why that is right. -/
namespace Fw
open PySem PySem.Spec PyProof.Rows L2

/-! ### shapes -/
def isStar : Expr → Bool
  | .Starred _ _ => true
  | _ => false
def isComp : Expr → Bool
  | .ListComp _ _ _ _ | .SetComp _ _ _ _ | .DictComp _ _ _ _ _ => true
  | _ => false
def isSlice : Expr → Bool
  | .Slice _ _ _ _ => true
  | _ => false
def isSetE : Expr → Bool
  | .Set _ _ _ => true
  | _ => false
def isTupE : Expr → Bool
  | .Tuple _ _ _ | .List _ _ => true
  | _ => false
/-- a call without arguments of a name: it might be super() -/
def isBare : Expr → Bool
  | .Call (.Name _ _) [] [] _ => true
  | _ => false
def isTest : Expr → Bool
  | .UnaryOp .Not _ _ | .BoolOp _ _ _ | .IfExp _ _ _ _ | .Compare _ _ _ _ => true
  | _ => false
section
variable {env : Env} {e : Expr}
theorem star_cons {es : List Expr} (h : isStar e = false) : starEach (e :: es) env = (false, eval e env) :: starEach es env := by
  cases e <;> first | rfl | (cases h; done)
theorem star_any {pos : Pos} : ∀ {es : List Expr}, es.all (fun e => !isStar e) = true → (backTo pos (starEach es env)).any (·.1) = false
  | [], _ => rfl
  | e :: es, h => by
    rw [List.all_cons, Bool.and_eq_true] at h
    have h1 : isStar e = false := by simpa using h.1
    rw [star_cons h1]
    show (false || (backTo pos (starEach es env)).any (·.1)) = false
    rw [star_any h.2]; rfl
theorem star_all {pos : Pos} : ∀ {es : List Expr}, es.all (fun e => !isStar e) = true → (backTo pos (starEach es env)).all (fun x => !x.1) = true
  | [], _ => rfl
  | e :: es, h => by
    rw [List.all_cons, Bool.and_eq_true] at h
    have h1 : isStar e = false := by simpa using h.1
    rw [star_cons h1]
    show (!false && (backTo pos (starEach es env)).all (fun x => !x.1)) = true
    rw [star_all h.2]; rfl
theorem few {pos : Pos} {es : List Expr} (h : es.all (fun e => !isStar e) = true) (hl : es.length < 30) :
    ((backTo pos (starEach es env)).all (fun x => !x.1) && (backToKw pos (keywordEach [] env)).all (fun x => x.1.isSome) && decide (es.length + ([] : List Keyword).length + (if ([] : List Keyword).isEmpty then 0 else 1) < 30)) = true := by
  rw [star_all h]
  have : es.length + ([] : List Keyword).length + (if ([] : List Keyword).isEmpty then 0 else 1) < 30 := by simpa using hl
  rw [decide_eq_true this]
  rfl
theorem base_ok {f : Str} (h : isBare e = false) : attributeBase e f env (eval e env) = eval e env := by
  cases e with
  | Call g as ks pos =>
    cases g with
    | Name i p =>
      cases as with
      | nil =>
        cases ks with
        | nil => cases h
        | cons _ _ => rfl
      | cons _ _ => rfl
    | _ => rfl
  | _ => rfl
theorem test_ok (h : isTest e = false) : ∀ whole, isTrue e env whole = (do let v ← whole; standAt e.pos; holding [v] (truthy v)) := by
  cases e with
  | UnaryOp op x pos => cases op <;> first | (intro _; rfl) | (cases h; done)
  | BoolOp _ _ _ => cases h
  | IfExp _ _ _ _ => cases h
  | Compare _ _ _ _ => cases h
  | _ => intro _; rfl
theorem plain_ok (h : isSlice e = false) : PlainIx e := by
  intro o i
  cases e <;> first | rfl | (cases h; done)
theorem set_free (h : isSetE e = false) : ∀ x, foldedSetIterable e env x = pure x := by
  intro x
  cases e <;> first | rfl | (cases h; done)
theorem mark_free {op : CmpOp} (h : isSetE e = false) : behindInMarks op e = false := by
  cases e <;> first | rfl | (cases h; done)
theorem swap_free {t : Option Expr} {l : Nat} (h : isComp e = false) : swapsWith e t l env = pure false := by
  cases e <;> first | rfl | (cases h; done)
theorem sole_free {t : Expr} {l : Nat} (h : isComp e = false) : swapsWithSole [t] e l env = pure false := swap_free h
theorem stores_free {t : Expr} (h : isTupE t = false ∨ isTupE e = false) : swappedStores [t] e env = pure none := by
  cases t <;> first | rfl | skip
  all_goals cases e <;> first | rfl | (rcases h with h | h <;> cases h; done)
theorem asg_one {t : Expr} (h : isStar t = false) : (assignEach [t] env).map (·.2) = [assign t env] := by
  cases t <;> first | rfl | (cases h; done)
theorem sub_ok {a b : Expr} {pos : Pos} (h : isSlice b = false) : ∀ v, assign (.Subscript a b pos) env v = (do
      let ov ← holding [v] (eval a env)
      let iv ← holding [v, ov] (eval b env)
      standAt pos
      holding [v, ov, iv] (setItem ov iv v)
      release [v, ov, iv] []) := by
  intro v
  cases b <;> first | rfl | (cases h; done)
theorem aug_free (h : isSlice e = false) : ∀ ov iv new, augStore e ov iv new = (do holding [new, ov, iv] (setItem ov iv new); release [new, ov, iv] []; pure .next) := by
  intro ov iv new
  cases e <;> first | rfl | (cases h; done)
end

/-! ### the compiler -/
/-- what the module's top says: defs with the count of their parameters, constants, names that are built-in -/
structure PEnv where
  fs : List (Str × Nat)
  ks : List (Str × PV)
  blt : List Str
/-- a def's names -/
structure LEnv where
  N : List Str
  sc : Scope
  fnB : Str → Bool
def LEnv.slot (L : LEnv) (x : Str) : Option Nat := L.N.findIdx? (· == x)
def visB (sc : Scope) (x : Str) : Bool := match sc.names.lookup x with
  | some .local | some .cell | some .free => true
  | _ => false
def locB (sc : Scope) (x : Str) : Bool := match sc.names.lookup x with
  | some .local | some .cell => true
  | _ => false
def glB (sc : Scope) (x : Str) : Bool := match sc.names.lookup x with
  | some .globalImplicit => true
  | _ => false
def plainName (x : Str) : Bool := !(x == ("__debug__" : Str)) && !(x == ("__classdict__" : Str)) && !(x == ("__name__" : Str))
def fnTab : List (Str × Prm) := [("len", .len), ("isinstance", .isi), ("min", .min), ("sum", .sum)]
def tyTab : List (Str × Prm) := [("int", .int), ("str", .str), ("tuple", .tuple), ("list", .list)]
def tyNames : List (Str × String) := [("int", "int"), ("str", "str"), ("tuple", "tuple"), ("list", "list"), ("bool", "bool")]
def mtTab : List (Str × Prm) := [("append", .append), ("pop", .pop), ("reverse", .reverse), ("join", .join), ("find", .find2)]
def opt2 {α β γ : Type} (a : Option α) (b : Option β) (f : α → β → γ) : Option γ := match a, b with
  | some x, some y => some (f x y)
  | _, _ => none
def opt3 {α β γ δ : Type} (a : Option α) (b : Option β) (c : Option γ) (f : α → β → γ → δ) : Option δ := match a, b, c with
  | some x, some y, some z => some (f x y z)
  | _, _, _ => none
def isLocal (sc : Scope) (x : Str) : Bool := match sc.names.lookup x with
  | some .local => true
  | _ => false
structure Cs where
  E : LEnv → Expr → Option IE
  T : LEnv → Expr → Option IT
  I : LEnv → Expr → Expr → Option II
def Cs.As (c : Cs) (L : LEnv) (es : List Expr) : Option (List IE) := if es.all (fun e => !isStar e) then es.mapM (c.E L) else none
def compNm (L : LEnv) (x : Str) : Option Nat := match L.slot x with
  | some i => if locB L.sc x && (L.fnB x || isLocal L.sc x) then some i else none
  | none => none
def compNms (L : LEnv) : List Expr → Option (List Nat)
  | [] => some []
  | .Name x _ :: r => opt2 (compNm L x) (compNms L r) List.cons
  | _ :: _ => none
/-- a target of names -/
def compTg (L : LEnv) : Expr → Option IG
  | .Name x _ => (compNm L x).map .name
  | .Tuple es _ _ => (compNms L es).map .names
  | _ => none
/-- the names of a comprehension's block -/
def ownOf (N : List Str) (sc : Scope) : List (Str × Nat) := sc.names.filterMap fun y => match y.2 with
  | .local | .cell => (N.findIdx? (· == y.1)).map fun i => (y.1, i)
  | _ => none
def blkL (L : LEnv) (sc : Scope) : LEnv := ⟨L.N, relS sc L.sc, fun x => sc.names.lookup x == some .cell⟩
/-- reversed(x), alone -/
def revArg (L : LEnv) (P : PEnv) : List Expr → Option Expr
  | [.Call (.Name r _) [x] [] _] => if r == ("reversed" : Str) && !isStar x && glB L.sc r && P.blt.contains r then some x else none
  | _ => none
def compCall (P : PEnv) (c : Cs) (L : LEnv) (f : Expr) (as : List Expr) (kws : List Keyword) (pos : Pos) : Option IE := match f, kws with
  | .Name x _, [] =>
    if plainName x && glB L.sc x then
      match P.fs.findIdx? (fun y => y.1 == x) with
      | some i => (c.As L as).map (.call i)
      | none => if P.blt.contains x then
          match as with
          | [] => none
          | _ :: r => match fnTab.lookup x, tyTab.lookup x with
            | some p, _ => (c.As L as).map (.prm p)
            | none, some p => match revArg L P as with
              | some y => if x == ("list" : Str) then (c.E L y).map fun z => .prm .lrev [z] else none
              | none => (c.As L as).map (.prm p)
            | none, none => if x == ("max" : Str) then (match r with
                | [] => (c.As L as).map (.prm .maxl)
                | _ :: _ => (c.As L as).map (.prm .max)) else none
        else none
    else none
  | .Attribute o m apos, [] =>
    if !isBare o && apos.endLine == pos.line && decide (as.length < 30) then
      match mtTab.lookup m with
      | some p => opt2 (c.E L o) (c.As L as) (.mtd p)
      | none => none
    else none
  | _, _ => none
def compIfs (c : Cs) (L : LEnv) : List Expr → Option (List IT)
  | [] => some []
  | [t] => (c.T L t).map fun t => [t]
  | _ => none
def compLc (c : Cs) (L : LEnv) (el : Expr) (gs : List Comprehension) (sc : Scope) : Option IE := match gs with
  | [⟨tg, it, ifs, 0⟩] =>
    let L' := blkL L sc
    let own := ownOf L.N sc
    if blkC L.N L.sc sc own && !isSetE it then
      match compTg L' tg with
      | some g => if (tgSl g).all (fun k => (own.map (·.2)).contains k) && !(tgSl g).isEmpty then opt3 (c.E L' el) (c.I L tg it) (compIfs c L' ifs) fun e i ts => .comp e g i ts (own.map (·.2)) else none
      | none => none
    else none
  | _ => none
def compB (c : Cs) (L : LEnv) (op : BoolOp) (vs : List Expr) (pos : Pos) : Option IE := match vs with
  | [a] => c.E L a
  | a :: b :: r => opt2 (c.E L a) (c.E L (.BoolOp op (b :: r) pos)) (match op with | .And => .and | .Or => .or)
  | [] => none
def compO (c : Cs) (L : LEnv) : Option Expr → Option (Option IE)
  | none => some none
  | some e => (c.E L e).map some
def stepE (P : PEnv) (c : Cs) (L : LEnv) (e : Expr) : Option IE := match e with
  | .Constant (.int i) _ _ => some (.cst (.int i))
  | .Constant (.bool b) _ _ => some (.cst (.bl b))
  | .Constant .none _ _ => some (.cst .non)
  | .Constant (.str x) _ _ => some (.cst (.str x.cps.toList))
  | .Name x _ =>
    if plainName x then
      match L.slot x with
      | some i => if visB L.sc x then some (.var i) else none
      | none => if glB L.sc x then
          match P.ks.lookup x with
          | some p => some (.cst p)
          | none => if P.blt.contains x then (tyNames.lookup x).map fun t => .cst (.ty t) else none
        else none
    else none
  | .BinOp a op b _ => opt2 (c.E L a) (c.E L b) (.bin op)
  | .UnaryOp .Not a _ => (c.E L a).map .not
  | .UnaryOp .USub a _ => (c.E L a).map .neg
  | .BoolOp op vs pos => compB c L op vs pos
  | .Compare a [op] [b] _ => if isSetE b then none else opt2 (c.E L a) (c.E L b) (.cmp op)
  | .Subscript a (.Slice lo hi none _) _ => opt3 (c.E L a) (compO c L lo) (compO c L hi) .slc
  | .Subscript a i _ => if isSlice i then none else opt2 (c.E L a) (c.E L i) .idx
  | .List es _ => (c.As L es).map .lst
  | .Tuple es _ _ => (c.As L es).map .tup
  | .ListComp el gs sc _ => compLc c L el gs sc
  | .Call f as kws pos => compCall P c L f as kws pos
  | _ => none
def compTB (c : Cs) (L : LEnv) (op : BoolOp) (vs : List Expr) (pos : Pos) : Option IT := match vs with
  | [a] => c.T L a
  | a :: b :: r => opt2 (c.T L a) (c.T L (.BoolOp op (b :: r) pos)) (match op with | .And => .and | .Or => .or)
  | [] => none
def stepT (c : Cs) (L : LEnv) (e : Expr) : Option IT := match e with
  | .UnaryOp .Not a _ => (c.T L a).map .not
  | .BoolOp op vs pos => compTB c L op vs pos
  | .Compare a [op] [b] _ => if isSetE b then none else opt2 (c.E L a) (c.E L b) fun x y => .tru (.cmp op x y)
  | e => if isTest e then none else (c.E L e).map .tru
def stepI (P : PEnv) (c : Cs) (L : LEnv) (tg e : Expr) : Option II := match e with
  | .Call (.Name x _) as [] _ =>
    if glB L.sc x && P.blt.contains x && as.all (fun e => !isStar e) then
      if x == ("range" : Str) then match as with
        | [a] => (c.E L a).map .rng1
        | [a, b] => opt2 (c.E L a) (c.E L b) .rng2
        | [a, b, d] => opt3 (c.E L a) (c.E L b) (c.E L d) .rng3
        | _ => none
      else if x == ("enumerate" : Str) then match tg, as with
        | .Tuple _ _ _, [a] => (c.E L a).map .enum
        | _, _ => none
      else if x == ("zip" : Str) then match tg, as with
        | .Tuple _ _ _, [a, b] => opt2 (c.E L a) (c.E L b) .zip
        | _, _ => none
      else if x == ("reversed" : Str) then match as with
        | [a] => (c.E L a).map .rev
        | _ => none
      else (c.E L e).map .seq
    else (c.E L e).map .seq
  | e => (c.E L e).map .seq
def comp (P : PEnv) : Nat → Cs
  | 0 => ⟨fun _ _ => none, fun _ _ => none, fun _ _ _ => none⟩
  | k + 1 => ⟨stepE P (comp P k), stepT (comp P k), stepI P (comp P k)⟩
/-- a target of an assignment -/
def compG (c : Cs) (L : LEnv) (tg : Expr) : Option IG := match tg with
  | .Subscript o i _ => if isSlice i then none else opt2 (c.E L o) (c.E L i) .sub
  | t => compTg L t
/-- whether the store is done within the comprehension -/
def swB (L : LEnv) (tg e : Expr) (pos : Pos) : Bool := match tg, e with
  | .Name y py, .ListComp _ _ sc p => isLocal L.sc y && py.line == p.line && !(sc.names.any fun (n, k) => n == y && (k == .local || k == .cell))
  | _, _ => false
def stepS (c : Cs) (B : LEnv → List Stmt → Option (List IS)) (L : LEnv) (st : Stmt) : Option IS := match st with
  | .Return (some e) _ => (c.E L e).map .ret
  | .Return none _ => some (.ret (.cst .non))
  | .Pass _ => some .skip
  | .Break _ => some .brk
  | .Continue _ => some .cont
  | .Expr e _ => if isComp e then none else (c.E L e).map .exp
  | .If t a b _ => opt3 (c.T L t) (B L a) (B L b) .ite
  | .While t b [] _ => opt2 (c.T L t) (B L b) .whl
  | .For tg it b [] _ => if isSetE it then none else opt3 (compTg L tg) (c.I L tg it) (B L b) .for_
  | .Assign [tg] e pos => if isStar tg || (isTupE tg && isTupE e) then none else opt2 (compG c L tg) (c.E L e) .asg
  | .AugAssign (.Subscript a b _) op e _ => if isSlice b then none else opt3 (c.E L a) (c.E L b) (c.E L e) fun x y z => .augS x y op z
  | .AugAssign (.Name x _) op e _ => opt2 (compNm L x) (c.E L e) fun i y => .aug i op y
  | .Raise (some _) none _ => some (.raise 0 [])
  | _ => none
def compB2 (f : LEnv → Stmt → Option IS) (L : LEnv) (b : List Stmt) : Option (List IS) := b.mapM (f L)
def compS (c : Cs) : Nat → LEnv → Stmt → Option IS
  | 0 => fun _ _ => none
  | k + 1 => stepS c (compB2 (compS c k))
end Fw
set_option Elab.async false
set_option linter.all false
set_option maxRecDepth 100000
set_option maxHeartbeats 2000000
/-! Fw10: the compiler is right. -/
namespace Fw
open PySem PySem.Spec PyProof.Rows L2

structure GoodX (P : PEnv) (T : Tab) (G : Pg) (cl cm : CSem) (lv : Nat) (X : Cx) (L : LEnv) : Prop where
  hK : X.K = T.K
  ok : KOk T G
  calm : X.calm = true
  nd : X.N.Nodup
  room : Room lv X.A
  po : PassesOwn (model X.prog X.w) X.A X.env X.xe
  hN : X.N = L.N
  sc : X.env.scope = L.sc
  fn : ∀ x, L.fnB x = true → X.fn x = true
  kind : L.sc.kind = .function
  fs : ∀ (i : Nat) (x : Str) (np : Nat), P.fs[i]? = some (x, np) → FOk X T lv x np (cl i) ∧ lenF np (cl i)
  ks : ∀ (x : Str) (p : PV), P.ks.lookup x = some p → ∃ u v, X.mg x = some u ∧ RelV v u ∧ ∀ m, RV T m p v
  blt : ∀ x, P.blt.contains x = true → X.mg x = none
section
variable {P : PEnv} {T : Tab} {G : Pg} {cl cm : CSem} {lv : Nat}
structure Snd (P : PEnv) (T : Tab) (G : Pg) (cl cm : CSem) (lv : Nat) (c : Cs) : Prop where
  sE : ∀ {X : Cx} {L : LEnv} {e : Expr} {ie : IE}, GoodX P T G cl cm lv X L → c.E L e = some ie → PE X e (tE T X (wE G cl cm ie))
  sT : ∀ {X : Cx} {L : LEnv} {e : Expr} {it : IT}, GoodX P T G cl cm lv X L → c.T L e = some it → PT X e (tT T X (wT G cl cm it))
  sI : ∀ {X : Cx} {L : LEnv} {tg e : Expr} {ii : II}, GoodX P T G cl cm lv X L → c.I L tg e = some ii → PI X tg e (tI T X (wI G cl cm ii))
variable {c : Cs} {X : Cx} {L : LEnv}
theorem GoodX.hu (g : GoodX P T G cl cm lv X L) : X.A.units + 64 < cLine := g.room.units
theorem GoodX.gl (g : GoodX P T G cl cm lv X L) {x : Str} (h : glB L.sc x = true) : Gl X x := by
  unfold glB at h
  show X.env.scope.names.lookup x = some .globalImplicit
  rw [g.sc]
  split at h
  · rename_i e; exact e
  · cases h
theorem GoodX.vis (g : GoodX P T G cl cm lv X L) {x : Str} (h : visB L.sc x = true) : Vis X.env.scope x := by
  unfold visB at h
  unfold Vis
  rw [g.sc]
  split at h
  · rename_i e; exact .inl e
  · rename_i e; exact .inr (.inl e)
  · rename_i e; exact .inr (.inr e)
  · cases h
theorem find_some {α : Type} {p : α → Bool} {l : List α} {i : Nat} (h : l.findIdx? p = some i) : ∃ a, l[i]? = some a ∧ p a = true := by
  rw [List.findIdx?_eq_some_iff_getElem] at h
  obtain ⟨hi, hp, _⟩ := h
  exact ⟨l[i], List.getElem?_eq_getElem hi, hp⟩
theorem GoodX.slot (g : GoodX P T G cl cm lv X L) {x : Str} {i : Nat} (h : L.slot x = some i) : X.N[i]? = some x := by
  obtain ⟨y, h1, h2⟩ := find_some h
  rw [g.hN, h1, beq_iff_eq.mp h2]
theorem loc_of {sc : Scope} {x : Str} (z : isLocal sc x = true) : sc.names.lookup x = some .local := by
  unfold isLocal at z
  split at z
  · rename_i e; exact e
  · cases z
theorem GoodX.nm (g : GoodX P T G cl cm lv X L) {x : Str} {i : Nat} (h : compNm L x = some i) : NmOk X i x := by
  unfold compNm at h
  split at h
  · rename_i j hj
    split at h
    · rename_i hb
      cases h
      rw [Bool.and_eq_true] at hb
      refine ⟨g.slot hj, ?_, ?_⟩
      · have := hb.1
        unfold locB at this
        unfold L2.Loc
        rw [g.sc]
        split at this
        · rename_i e; exact .inl e
        · rename_i e; exact .inr e
        · cases this
      · have := hb.2
        rw [Bool.or_eq_true] at this
        rcases this with z | z
        · exact .inl (g.fn x z)
        · refine .inr ?_
          rw [g.sc]
          exact loc_of z
    · cases h
  · cases h
theorem opt2_some' {α β γ : Type} {a : Option α} {b : Option β} {f : α → β → γ} {r : γ} (h : opt2 a b f = some r) : ∃ x y, a = some x ∧ b = some y ∧ f x y = r := by
  cases a with
  | none => cases h
  | some x => cases b with
    | none => cases h
    | some y => cases h; exact ⟨x, y, rfl, rfl, rfl⟩
theorem GoodX.nms (g : GoodX P T G cl cm lv X L) : ∀ {es : List Expr} {is : List Nat}, compNms L es = some is → NmsOk X is es
  | [], is, h => by cases h; exact .nil
  | e :: es, is, h => by
    unfold compNms at h
    split at h
    · rename_i h0; cases h0
    · rename_i x p r h0
      cases h0
      obtain ⟨i, is', h1, h2, rfl⟩ := opt2_some' h
      exact .cons (g.nm h1) (GoodX.nms g h2)
    · cases h
theorem GoodX.tg (g : GoodX P T G cl cm lv X L) {tg : Expr} {ig : IG} (h : compTg L tg = some ig) : PG X tg (tG T X (wG G cl cm ig)) := by
  unfold compTg at h
  split at h
  · rename_i x p
    cases q : compNm L x with
    | none => rw [q] at h; cases h
    | some i =>
      rw [q] at h; cases h
      have n := g.nm q
      exact sG_name g.nd n.hi n.hx n.hf
  · rename_i es k p
    cases q : compNms L es with
    | none => rw [q] at h; cases h
    | some is =>
      rw [q] at h; cases h
      exact sG_names g.hK g.ok g.calm g.nd (g.nms q)
  · cases h
/-- the same over the hand layer's slots -/
theorem GoodX.tgl (g : GoodX P T G cl cm lv X L) {tg : Expr} {ig : IG} (h : compTg L tg = some ig) : PG X tg (tgL X.K ig) := by
  unfold compTg at h
  split at h
  · rename_i x p
    cases q : compNm L x with
    | none => rw [q] at h; cases h
    | some i =>
      rw [q] at h; cases h
      have n := g.nm q
      exact pg_name g.nd n.hi n.hx n.hf
  · rename_i es k p
    cases q : compNms L es with
    | none => rw [q] at h; cases h
    | some is =>
      rw [q] at h; cases h
      exact pg_names g.calm g.nd (g.nms q)
  · cases h
theorem map_some {α β : Type} {f : α → β} {o : Option α} {b : β} (h : o.map f = some b) : ∃ a, o = some a ∧ f a = b := Option.map_eq_some_iff.mp h
theorem opt2_some {α β γ : Type} {a : Option α} {b : Option β} {f : α → β → γ} {r : γ} (h : opt2 a b f = some r) : ∃ x y, a = some x ∧ b = some y ∧ f x y = r := by
  cases a with
  | none => cases h
  | some x => cases b with
    | none => cases h
    | some y => cases h; exact ⟨x, y, rfl, rfl, rfl⟩
theorem opt3_some {α β γ δ : Type} {a : Option α} {b : Option β} {c : Option γ} {f : α → β → γ → δ} {r : δ} (h : opt3 a b c f = some r) : ∃ x y z, a = some x ∧ b = some y ∧ c = some z ∧ f x y z = r := by
  cases a with
  | none => cases h
  | some x => cases b with
    | none => cases h
    | some y => cases c with
      | none => cases h
      | some z => cases h; exact ⟨x, y, z, rfl, rfl, rfl, rfl⟩
theorem As_ok (s : Snd P T G cl cm lv c) (g : GoodX P T G cl cm lv X L) : ∀ {es : List Expr} {fs : List IE}, c.As L es = some fs → es.all (fun e => !isStar e) = true ∧ PA X es (tA T X (wA G cl cm fs)) := by
  intro es fs h
  unfold Cs.As at h
  split at h
  · rename_i hs
    refine ⟨hs, ?_⟩
    induction es generalizing fs with
    | nil => simp at h; subst h; exact sA_nil
    | cons e es ih =>
      rw [List.mapM_cons] at h
      cases q : c.E L e with
      | none => rw [q] at h; cases h
      | some x =>
        rw [q] at h
        cases q2 : es.mapM (c.E L) with
        | none => rw [q2] at h; cases h
        | some xs =>
          rw [q2] at h; cases h
          rw [List.all_cons, Bool.and_eq_true] at hs
          exact sA_cons (s.sE g q) (ih hs.2 q2) (star_cons (by simpa using hs.1))
  · cases h
theorem boot_ty : ∀ x t, tyNames.lookup x = some t → bootBuiltins x = some (.type t) := by
  intro x t h
  unfold tyNames at h
  simp only [List.lookup] at h
  repeat' split at h
  all_goals first | (cases h; done) | skip
  all_goals (rename_i hx; have hx := beq_iff_eq.mp hx; subst hx; cases h; decide +kernel)
theorem plain_nm {x : Str} (h : plainName x = true) : (x == ("__debug__" : Str)) = false ∧ (x == ("__classdict__" : Str)) = false ∧ x ≠ "__name__" := by
  unfold plainName at h
  rw [Bool.and_eq_true, Bool.and_eq_true] at h
  refine ⟨by simpa using h.1.1, by simpa using h.1.2, ?_⟩
  have := h.2
  intro z
  subst z
  simp at this
theorem call_ok (s : Snd P T G cl cm lv c) (g : GoodX P T G cl cm lv X L) {f : Expr} {as : List Expr} {kws : List Keyword} {pos : Pos} {ie : IE} (h : compCall P c L f as kws pos = some ie) : PE X (.Call f as kws pos) (tE T X (wE G cl cm ie)) := by
  unfold compCall at h
  split at h
  · rename_i x p
    split at h
    · rename_i hp
      rw [Bool.and_eq_true] at hp
      obtain ⟨n1, n2, n3⟩ := plain_nm hp.1
      have hg := g.gl hp.2
      split at h
      · rename_i i hi
        obtain ⟨xs, e1, rfl⟩ := map_some h
        obtain ⟨⟨y, np⟩, h1, h2⟩ := find_some hi
        have h2 : y = x := beq_iff_eq.mp h2
        subst h2
        obtain ⟨F, hl⟩ := g.fs i y np h1
        obtain ⟨hs, ha⟩ := As_ok s g e1
        cases as with
        | nil =>
          have : xs = [] := by
            unfold Cs.As at e1
            simp at e1
            first | exact e1 | exact e1.symm
          subst this
          exact sE_call0 F hl g.room hg n1
        | cons a as =>
          rw [List.all_cons, Bool.and_eq_true] at hs
          exact sE_call F hl g.room hg ha n1 (star_cons (by simpa using hs.1)) (star_any hs.2)
      · split at h
        · rename_i hb
          have hm := g.blt x hb
          split at h
          · cases h
          · rename_i a r
            have goF : ∀ {id : String} {pr : Prm} {xs : List IE}, CallR X (.builtin id) (rPrm T (prmV G pr)) → bootBuiltins x = some (.builtin id) → c.As L (a :: r) = some xs → PE X (.Call (.Name x p) (a :: r) [] pos) (tE T X (wE G cl cm (.prm pr xs))) := fun {id pr xs} hc hv e1 => by
              obtain ⟨hs, ha⟩ := As_ok s g e1
              rw [List.all_cons, Bool.and_eq_true] at hs
              exact sE_prmB hc hg hm hv ha n3 n1 (star_cons (by simpa using hs.1)) (star_any hs.2)
            have goT : ∀ {id : String} {pr : Prm} {xs : List IE}, CallR X (.type id) (rPrm T (prmV G pr)) → bootBuiltins x = some (.type id) → c.As L (a :: r) = some xs → PE X (.Call (.Name x p) (a :: r) [] pos) (tE T X (wE G cl cm (.prm pr xs))) := fun {id pr xs} hc hv e1 => by
              obtain ⟨hs, ha⟩ := As_ok s g e1
              rw [List.all_cons, Bool.and_eq_true] at hs
              exact sE_prmT hc hg hm hv ha n3 n1 (star_cons (by simpa using hs.1)) (star_any hs.2)
            split at h
            · rename_i pr _ hf
              obtain ⟨xs, e1, rfl⟩ := map_some h
              unfold fnTab at hf
              simp only [List.lookup] at hf
              repeat' split at hf
              all_goals first | (cases hf; done) | skip
              all_goals (rename_i hx; have hx := beq_iff_eq.mp hx; subst hx; cases hf)
              · exact goF (len_ok g.hK g.ok) (by decide +kernel) e1
              · exact goF (isi_ok g.hK g.ok) (by decide +kernel) e1
              · exact goF (min_ok g.calm) (by decide +kernel) e1
              · exact goF (sum_ok g.calm g.hK g.ok) (by decide +kernel) e1
            · rename_i pr _ hf
              split at h
              · rename_i y hy
                split at h
                · rename_i hx
                  have hx := beq_iff_eq.mp hx
                  subst hx
                  obtain ⟨z, e1, rfl⟩ := map_some h
                  unfold revArg at hy
                  split at hy
                  · rename_i rn p2 x2 p3 heq
                    split at hy
                    · rename_i hr
                      cases hy
                      simp only [Bool.and_eq_true, beq_iff_eq, Bool.not_eq_true'] at hr
                      obtain ⟨⟨⟨rfl, h2⟩, h3⟩, h4⟩ := hr
                      rw [heq]
                      exact sE_lrev g.hK g.ok g.calm hg hm (g.gl h3) (g.blt _ h4) (s.sE g e1) (star_cons h2)
                    · cases hy
                  · cases hy
                · cases h
              obtain ⟨xs, e1, rfl⟩ := map_some h
              unfold tyTab at hf
              simp only [List.lookup] at hf
              repeat' split at hf
              all_goals first | (cases hf; done) | skip
              all_goals (rename_i hx; have hx := beq_iff_eq.mp hx; subst hx; cases hf)
              · exact goT int_ok (by decide +kernel) e1
              · exact goT str_ok (by decide +kernel) e1
              · exact goT (tuple_ok g.hK g.ok) (by decide +kernel) e1
              · exact goT (list_ok g.hK g.ok) (by decide +kernel) e1
            · split at h
              · rename_i hx
                have hx := beq_iff_eq.mp hx
                subst hx
                split at h
                · obtain ⟨xs, e1, rfl⟩ := map_some h
                  exact goF (maxl_ok g.calm g.hK g.ok) (by decide +kernel) e1
                · obtain ⟨xs, e1, rfl⟩ := map_some h
                  exact goF (max_ok g.calm) (by decide +kernel) e1
              · cases h
        · cases h
    · cases h
  · rename_i o m apos
    split at h
    · rename_i hc
      rw [Bool.and_eq_true, Bool.and_eq_true] at hc
      have hb : isBare o = false := by simpa using hc.1.1
      have hl : as.length < 30 := of_decide_eq_true hc.2
      split at h
      · rename_i pr hf
        obtain ⟨x, xs, e1, e2, rfl⟩ := opt2_some h
        obtain ⟨hs, ha⟩ := As_ok s g e2
        have go : MOk X T G m pr → PE X (.Call (.Attribute o m apos) as [] pos) (tE T X (wE G cl cm (.mtd pr x xs))) := fun M => by
          cases as with
          | nil =>
            have : xs = [] := by
              unfold Cs.As at e2
              simp at e2
              first | exact e2 | exact e2.symm
            subst this
            exact sE_mtd0 M (s.sE g e1) (base_ok hb) hc.1.2
          | cons a as =>
            have hs' := hs
            rw [List.all_cons, Bool.and_eq_true] at hs'
            exact sE_mtd M (s.sE g e1) ha (base_ok hb) (few hs hl) hc.1.2 (star_cons (by simpa using hs'.1)) (star_any hs'.2)
        have lst : ∀ (pr : Prm), (∀ p h, mtyP G pr p h = (lstOf G h p).isSome) → (∃ id, Mth X m "list" id (rMt T (prmV G pr))) → MOk X T G m pr := fun pr hty ⟨id, M⟩ => by
          refine ⟨fun m1 h1 H1 p v hr rv ht => ⟨"list", id, M, ?_⟩⟩
          rw [hty] at ht
          obtain ⟨ys, hy⟩ := Option.isSome_iff_exists.mp ht
          obtain ⟨l, vs, rfl, hS, _⟩ := lstOf_ok g.ok hr rv hy
          exact .inl ⟨rfl, vs, by rw [g.hK]; exact hS⟩
        have txt : ∀ (pr : Prm), (∀ p h, mtyP G pr p h = match p with | .str _ => true | _ => false) → (∃ id, Mth X m "str" id (rMt T (prmV G pr))) → MOk X T G m pr := fun pr hty ⟨id, M⟩ => by
          refine ⟨fun m1 h1 H1 p v hr rv ht => ⟨"str", id, M, ?_⟩⟩
          rw [hty] at ht
          cases p with
          | str l =>
            have rv : v = _ := rv
            subst rv
            exact rfl
          | _ => cases ht
        unfold mtTab at hf
        simp only [List.lookup] at hf
        repeat' split at hf
        all_goals first | (cases hf; done) | skip
        all_goals (rename_i hx; have hx := beq_iff_eq.mp hx; subst hx; cases hf)
        · exact go (lst _ (fun _ _ => rfl) ⟨_, PySem.F.plainAttrs_list, PySem.F.slot_list_append, PySem.F.type_list_append, append_ok⟩)
        · exact go (lst _ (fun _ _ => rfl) ⟨_, PySem.F.plainAttrs_list, PySem.F.slot_list_pop, PySem.F.type_list_pop, pop_ok⟩)
        · exact go (lst _ (fun _ _ => rfl) ⟨_, PySem.F.plainAttrs_list, PySem.F.slot_list_reverse, PySem.F.type_list_reverse, reverse_ok⟩)
        · exact go (txt _ (fun _ _ => rfl) ⟨_, PySem.F.plainAttrs_str, PySem.F.slot_str_join, PySem.F.type_str_join, join_ok g.hK g.ok⟩)
        · exact go (txt _ (fun _ _ => rfl) ⟨_, PySem.F.plainAttrs_str, PySem.F.slot_str_find, PySem.F.type_str_find, find_ok⟩)
      · cases h
    · cases h
  · cases h
theorem pe_eqE {e : Expr} {t u : TE} (h : PE X e t) (k : t = u) : PE X e u := k ▸ h
theorem ks_ok (g : GoodX P T G cl cm lv X L) {x : Str} {p : PV} {pos : Pos} (hp : plainName x = true) (hg : glB L.sc x = true) (h : P.ks.lookup x = some p) : PE X (.Name x pos) (tE T X (wE G cl cm (.cst p))) := by
  obtain ⟨u, v, hm, r, rm⟩ := g.ks x p h
  exact sE_cst (pe_glob (g.gl hg) hm r (plain_nm hp).1) rm
theorem tyName_ok (g : GoodX P T G cl cm lv X L) {x : Str} {t : String} {pos : Pos} (hp : plainName x = true) (hg : glB L.sc x = true) (hb : P.blt.contains x = true) (h : tyNames.lookup x = some t) : PE X (.Name x pos) (tE T X (wE G cl cm (.cst (.ty t)))) := by
  obtain ⟨n1, n2, n3⟩ := plain_nm hp
  exact sE_cst (pe_bltn (v := .ty t) (g.gl hg) (g.blt x hb) (boot_ty x t h) rfl n3 n1) fun m => rfl
/-- the context of a comprehension's block -/
theorem GoodX.blk (g : GoodX P T G cl cm lv X L) {sc : Scope} (hk : sc.kind = .function) (s : Shared) (H : Hp) (C : Addr) (cl' : List (Str × Addr)) (fp : List Addr) : GoodX P T G cl cm lv (X.blk s H sc (compEnvC sc cl' C X.env) fp) (blkL L sc) := by
  refine ⟨g.hK, g.ok, g.calm, g.nd, g.room, PassesOwn.never, g.hN, ?_, ?_, hk, fun i x np h => ⟨⟨(g.fs i x np h).1.ex⟩, (g.fs i x np h).2⟩, g.ks, g.blt⟩
  · show (compEnvC sc cl' C X.env).scope = relS sc L.sc
    rw [← g.sc]; rfl
  · intro x hx; exact hx
theorem compIfs_ok (s : Snd P T G cl cm lv c) {X' : Cx} {L' : LEnv} (g : GoodX P T G cl cm lv X' L') : ∀ {ifs : List Expr} {ts : List IT}, compIfs c L' ifs = some ts → PTs X' ifs (tT0 T (wTs G cl cm ts))
  | [], ts, h => by
    cases h
    exact ⟨fun pins s σ H Q I ⟨m, ps, h, Qf, hs, hr, k, q⟩ => pts_nil.run pins s σ H Q I (k m h true H pre_refl hr q)⟩
  | [t], ts, h => by
    obtain ⟨x, e, rfl⟩ := map_some h
    have := pts_one (sT0 (s.sT g e))
    exact ⟨fun pins s σ H Q I q => this.run pins s σ H Q I q⟩
  | _ :: _ :: _, ts, h => by cases h
theorem lc_good (s : Snd P T G cl cm lv c) (g : GoodX P T G cl cm lv X L) {el : Expr} {gs : List Comprehension} {sc : Scope} {pos : Pos} {ie : IE} (h : compLc c L el gs sc = some ie) :
    ∃ (tg it : Expr) (ifs : List Expr) (ig : IG) (e' : IE) (i' : II) (ts : List IT), gs = [⟨tg, it, ifs, 0⟩] ∧ ie = .comp e' ig i' ts ((ownOf L.N sc).map (·.2)) ∧ BlkOk X.N X.env.scope sc (ownOf L.N sc) ∧ isSetE it = false ∧ tgSl ig ≠ [] ∧ (∀ k ∈ tgSl ig, k ∈ (ownOf L.N sc).map (·.2)) ∧
      PI X tg it (tI T X (wI G cl cm i')) ∧ (∀ (s : Shared) (H : Hp) (C : Addr) (cl : List (Str × Addr)) (fp : List Addr), PG (X.blk s H sc (compEnvC sc cl C X.env) fp) tg (tgL X.K ig)) ∧
      (∀ (s : Shared) (H : Hp) (C : Addr) (cs : List (Str × Addr)) (fp : List Addr), PTs (X.blk s H sc (compEnvC sc cs C X.env) fp) ifs (tT0 T (wTs G cl cm ts))) ∧ ∀ (s : Shared) (H : Hp) (C : Addr) (cs : List (Str × Addr)) (fp : List Addr), PE (X.blk s H sc (compEnvC sc cs C X.env) fp) el (tE0 T (wE G cl cm e')) := by
  unfold compLc at h
  split at h
  · rename_i tg it ifs
    dsimp only at h
    split at h
    · rename_i hb
      rw [Bool.and_eq_true] at hb
      split at h
      · rename_i ig hig
        split at h
        · rename_i ht
          rw [Bool.and_eq_true] at ht
          obtain ⟨e', i', ts, h1, h2, h3, rfl⟩ := opt3_some h
          have bo : BlkOk X.N X.env.scope sc (ownOf L.N sc) := by rw [g.hN, g.sc]; exact blkOk_by hb.1
          refine ⟨tg, it, ifs, ig, e', i', ts, rfl, rfl, bo, by simpa using hb.2, ?_, ?_, s.sI g h2, ?_, ?_, ?_⟩
          · intro z; rw [z] at ht; simp at ht
          · intro k hk
            have := List.all_eq_true.mp ht.1 k hk
            simpa using this
          · intro s' H C cl' fp
            exact (g.blk bo.kind s' H C cl' fp).tgl hig
          · intro s' H C cl' fp
            exact compIfs_ok s (g.blk bo.kind s' H C cl' fp) h3
          · intro s' H C cl' fp
            exact sE0 (s.sE (g.blk bo.kind s' H C cl' fp) h1)
        · cases h
      · cases h
    · cases h
  · cases h
theorem sE_lc (s : Snd P T G cl cm lv c) (g : GoodX P T G cl cm lv X L) {el : Expr} {gs : List Comprehension} {sc : Scope} {pos : Pos} {ie : IE} (h : compLc c L el gs sc = some ie) : PE X (.ListComp el gs sc pos) (tE T X (wE G cl cm ie)) := by
  obtain ⟨tg, it, ifs, ig, e', i', ts, rfl, rfl, bo, hst, hg, ho, hi, pg, pt, pe⟩ := lc_good s g (pos := pos) h
  exact pe_imp (pe_lc g.calm g.nd hi bo pg pt pe (set_free hst)) fun σ H Q hh => lc_ok g.hK g.ok hg ho hh
theorem compO_ok (s : Snd P T G cl cm lv c) (g : GoodX P T G cl cm lv X L) {o : Option Expr} {r : Option IE} (h : compO c L o = some r) : L2.PO X o (tO T X (wO G cl cm r)) := by
  cases o with
  | none => cases h; exact sO_none
  | some e =>
    obtain ⟨x, e1, rfl⟩ := map_some h
    exact sO_some (s.sE g e1)
theorem ite_none {α : Type} {b : Bool} {o : Option α} {r : α} (h : (if b = true then none else o) = some r) : b = false ∧ o = some r := by
  cases b with
  | true => cases h
  | false => exact ⟨rfl, h⟩
theorem stepE_ok (s : Snd P T G cl cm lv c) (g : GoodX P T G cl cm lv X L) {e : Expr} {ie : IE} (h : stepE P c L e = some ie) : PE X e (tE T X (wE G cl cm ie)) := by
  unfold stepE at h
  split at h
  · cases h; exact sE_cst pe_int fun m => rfl
  · cases h; exact sE_cst pe_bl fun m => rfl
  · cases h; exact sE_cst pe_non fun m => rfl
  · cases h
    rename_i x _ _
    exact sE_cst pe_str fun m => by
      show V.str x = V.str (sOf x.cps.toList)
      unfold sOf; simp
  · rename_i x pos
    split at h
    · rename_i hp
      obtain ⟨n1, n2, n3⟩ := plain_nm hp
      split at h
      · rename_i i hi
        split at h
        · rename_i hv
          cases h
          exact sE_var (g.slot hi) (g.vis hv) n1 n2
        · cases h
      · split at h
        · rename_i hg
          split at h
          · rename_i p hk
            cases h
            exact ks_ok g hp hg hk
          · split at h
            · rename_i hb
              obtain ⟨t, e1, rfl⟩ := map_some h
              exact tyName_ok g hp hg hb e1
            · cases h
        · cases h
    · cases h
  · obtain ⟨x, y, h1, h2, rfl⟩ := opt2_some h
    exact sE_bin g.hK g.ok (s.sE g h1) (s.sE g h2)
  · obtain ⟨x, h1, rfl⟩ := map_some h
    exact sE_not g.hK g.ok (s.sE g h1)
  · obtain ⟨x, h1, rfl⟩ := map_some h
    exact sE_neg (s.sE g h1)
  · rename_i op vs pos
    unfold compB at h
    split at h
    · exact pe_one (s.sE g h)
    · obtain ⟨x, y, h1, h2, rfl⟩ := opt2_some h
      cases op with
      | And => exact sE_and g.hK g.ok (s.sE g h1) (s.sE g h2)
      | Or => exact sE_or g.hK g.ok (s.sE g h1) (s.sE g h2)
    · cases h
  · obtain ⟨hb, h⟩ := ite_none h
    obtain ⟨x, y, h1, h2, rfl⟩ := opt2_some h
    exact sE_cmp g.hK g.ok g.hu (s.sE g h1) (s.sE g h2) (mark_free hb)
  · obtain ⟨x, l, u, h1, h2, h3, rfl⟩ := opt3_some h
    exact sE_slc g.hK g.ok (s.sE g h1) (compO_ok s g h2) (compO_ok s g h3)
  · obtain ⟨hb, h⟩ := ite_none h
    obtain ⟨x, y, h1, h2, rfl⟩ := opt2_some h
    exact sE_idx g.hK g.ok (s.sE g h1) (s.sE g h2) (plain_ok hb)
  · obtain ⟨xs, h1, rfl⟩ := map_some h
    exact sE_lst (As_ok s g h1).2
  · obtain ⟨xs, h1, rfl⟩ := map_some h
    exact sE_tup (As_ok s g h1).2
  · exact sE_lc s g h
  · exact call_ok s g h
  · cases h
theorem pw_one (h : PT X e (tT T X (wT G cl cm it))) {op : BoolOp} {pos : Pos} : PW X (.BoolOp op [e] pos) (tT T X (wT G cl cm it)) := by
  cases op with
  | And => exact pw_and1 h
  | Or => exact pw_or1 h
theorem stepT_ok (s : Snd P T G cl cm lv c) (sw : ∀ {X : Cx} {L : LEnv} {op : BoolOp} {vs : List Expr} {pos : Pos} {it : IT}, GoodX P T G cl cm lv X L → c.T L (.BoolOp op vs pos) = some it → PW X (.BoolOp op vs pos) (tT T X (wT G cl cm it)))
    (g : GoodX P T G cl cm lv X L) {e : Expr} {it : IT} (h : stepT c L e = some it) : PT X e (tT T X (wT G cl cm it)) := by
  unfold stepT at h
  split at h
  · obtain ⟨x, h1, rfl⟩ := map_some h
    exact sT_not (s.sT g h1)
  · rename_i op vs pos
    unfold compTB at h
    split at h
    · exact (pw_one (s.sT g h)).pt
    · obtain ⟨x, y, h1, h2, rfl⟩ := opt2_some h
      cases op with
      | And => exact (sT_and (s.sT g h1) (sw g h2)).pt
      | Or => exact (sT_or (s.sT g h1) (sw g h2)).pt
    · cases h
  · obtain ⟨hb, h⟩ := ite_none h
    obtain ⟨x, y, h1, h2, rfl⟩ := opt2_some h
    exact sT_cmp g.hK g.ok g.hu (s.sE g h1) (s.sE g h2) (mark_free hb)
  · obtain ⟨hb, h⟩ := ite_none h
    obtain ⟨x, h1, rfl⟩ := map_some h
    exact sT_tru g.hK g.ok (s.sE g h1) (test_ok hb)
theorem stepW_ok (s : Snd P T G cl cm lv c) (sw : ∀ {X : Cx} {L : LEnv} {op : BoolOp} {vs : List Expr} {pos : Pos} {it : IT}, GoodX P T G cl cm lv X L → c.T L (.BoolOp op vs pos) = some it → PW X (.BoolOp op vs pos) (tT T X (wT G cl cm it)))
    (g : GoodX P T G cl cm lv X L) {op : BoolOp} {vs : List Expr} {pos : Pos} {it : IT} (h : stepT c L (.BoolOp op vs pos) = some it) : PW X (.BoolOp op vs pos) (tT T X (wT G cl cm it)) := by
  have h : compTB c L op vs pos = some it := h
  unfold compTB at h
  split at h
  · exact pw_one (s.sT g h)
  · obtain ⟨x, y, h1, h2, rfl⟩ := opt2_some h
    cases op with
    | And => exact sT_and (s.sT g h1) (sw g h2)
    | Or => exact sT_or (s.sT g h1) (sw g h2)
  · cases h
theorem arg1_ok (s : Snd P T G cl cm lv c) (g : GoodX P T G cl cm lv X L) {a : Expr} {x : IE} (h : c.E L a = some x) (hs : isStar a = false) : PA X [a] (tA T X (wA G cl cm [x])) := sA_cons (s.sE g h) sA_nil (star_cons hs)
theorem arg2_ok (s : Snd P T G cl cm lv c) (g : GoodX P T G cl cm lv X L) {a b : Expr} {x y : IE} (h : c.E L a = some x) (h' : c.E L b = some y) (hs : isStar a = false) (hs' : isStar b = false) : PA X [a, b] (tA T X (wA G cl cm [x, y])) := sA_cons (s.sE g h) (arg1_ok s g h' hs') (star_cons hs)
theorem arg3_ok (s : Snd P T G cl cm lv c) (g : GoodX P T G cl cm lv X L) {a b d : Expr} {x y z : IE} (h : c.E L a = some x) (h' : c.E L b = some y) (h'' : c.E L d = some z) (hs : isStar a = false) (hs' : isStar b = false) (hs'' : isStar d = false) : PA X [a, b, d] (tA T X (wA G cl cm [x, y, z])) := sA_cons (s.sE g h) (arg2_ok s g h' h'' hs' hs'') (star_cons hs)
theorem stepI_ok (s : Snd P T G cl cm lv c) (g : GoodX P T G cl cm lv X L) {tg e : Expr} {ii : II} (h : stepI P c L tg e = some ii) : PI X tg e (tI T X (wI G cl cm ii)) := by
  have seq : ∀ {e : Expr} {ii : II}, (c.E L e).map .seq = some ii → PI X tg e (tI T X (wI G cl cm ii)) := fun {e ii} h => by
    obtain ⟨x, h1, rfl⟩ := map_some h
    exact sI_seq g.hK g.ok (s.sE g h1)
  unfold stepI at h
  split at h
  · rename_i x p as pos
    split at h
    · rename_i hc
      rw [Bool.and_eq_true, Bool.and_eq_true] at hc
      have hg := g.gl hc.1.1
      have hm := g.blt x hc.1.2
      have hst := hc.2
      split at h
      · rename_i hx
        have hx := beq_iff_eq.mp hx
        subst hx
        split at h
        · rename_i a
          simp at hst
          obtain ⟨x, h1, rfl⟩ := map_some h
          exact sI_rng1 hg hm (arg1_ok s g h1 hst) (star_cons hst)
        · rename_i a b
          simp at hst
          obtain ⟨x, y, h1, h2, rfl⟩ := opt2_some h
          exact sI_rng2 hg hm (arg2_ok s g h1 h2 hst.1 hst.2) (by rw [star_cons hst.1, star_cons hst.2]; rfl) (star_cons hst.2)
        · rename_i a b d
          simp at hst
          obtain ⟨x, y, z, h1, h2, h3, rfl⟩ := opt3_some h
          exact sI_rng3 hg hm (arg3_ok s g h1 h2 h3 hst.1 hst.2.1 hst.2.2) (star_cons hst.1) (star_any (by simp [hst]))
        · cases h
      · split at h
        · rename_i hx
          have hx := beq_iff_eq.mp hx
          subst hx
          split at h
          · rename_i a
            simp at hst
            obtain ⟨x, h1, rfl⟩ := map_some h
            exact sI_enum g.hK g.ok hg hm (arg1_ok s g h1 hst) (star_cons hst)
          · cases h
        · split at h
          · rename_i hx
            have hx := beq_iff_eq.mp hx
            subst hx
            split at h
            · rename_i a b
              simp at hst
              obtain ⟨x, y, h1, h2, rfl⟩ := opt2_some h
              exact sI_zip g.hK g.ok hg hm (arg2_ok s g h1 h2 hst.1 hst.2) (star_cons hst.1) (star_any (by simp [hst]))
            · cases h
          · split at h
            · rename_i hx
              have hx := beq_iff_eq.mp hx
              subst hx
              split at h
              · rename_i a
                simp at hst
                obtain ⟨x, h1, rfl⟩ := map_some h
                exact sI_rev g.hK g.ok hg hm (arg1_ok s g h1 hst) (star_cons hst)
              · cases h
            · exact seq h
    · exact seq h
  · exact seq h
structure SndW (P : PEnv) (T : Tab) (G : Pg) (cl cm : CSem) (lv : Nat) (c : Cs) : Prop extends Snd P T G cl cm lv c where
  sw : ∀ {X : Cx} {L : LEnv} {op : BoolOp} {vs : List Expr} {pos : Pos} {it : IT}, GoodX P T G cl cm lv X L → c.T L (.BoolOp op vs pos) = some it → PW X (.BoolOp op vs pos) (tT T X (wT G cl cm it))
theorem comp_ok : ∀ k : Nat, SndW P T G cl cm lv (comp P k)
  | 0 => ⟨⟨fun _ h => (by cases h), fun _ h => (by cases h), fun _ h => (by cases h)⟩, fun _ h => (by cases h)⟩
  | k + 1 => ⟨⟨fun g h => stepE_ok (comp_ok k).toSnd g h, fun g h => stepT_ok (comp_ok k).toSnd (comp_ok k).sw g h, fun g h => stepI_ok (comp_ok k).toSnd g h⟩, fun g h => stepW_ok (comp_ok k).toSnd (comp_ok k).sw g h⟩
/-! ### statements -/
theorem compG_ok (s : Snd P T G cl cm lv c) (g : GoodX P T G cl cm lv X L) {tg : Expr} {ig : IG} (h : compG c L tg = some ig) : PG X tg (tG T X (wG G cl cm ig)) := by
  unfold compG at h
  split at h
  · obtain ⟨hb, h⟩ := ite_none h
    obtain ⟨x, y, h1, h2, rfl⟩ := opt2_some h
    exact sG_sub (s.sE g h1) (s.sE g h2) (sub_ok hb)
  · exact g.tg h
theorem asg_lc (s : Snd P T G cl cm lv c) (g : GoodX P T G cl cm lv X L) {y : Str} {py pos spos : Pos} {el : Expr} {gs : List Comprehension} {sc : Scope} {i : Nat} {ie : IE} (hn : compNm L y = some i) (h : compLc c L el gs sc = some ie) (hw : swB L (.Name y py) (.ListComp el gs sc pos) spos = true) : PS X (.Assign [.Name y py] (.ListComp el gs sc pos) spos) (tS T X (wS G cl cm (.asg (.name i) ie))) := by
  obtain ⟨tg, it, ifs, ig, e', i', ts, rfl, rfl, bo, hst, hg, ho, hi, pg, pt, pe⟩ := lc_good s g (pos := pos) h
  have hw : (isLocal L.sc y && py.line == pos.line && !(sc.names.any fun (n, k) => n == y && (k == .local || k == .cell))) = true := hw
  rw [Bool.and_eq_true, Bool.and_eq_true] at hw
  have n := g.nm hn
  have hy : X.env.scope.names.lookup y = some .local := by rw [g.sc]; exact loc_of hw.1.1
  have hk : X.env.scope.kind = .function := by rw [g.sc]; exact g.kind
  refine ps_imp (ps_setLc g.calm g.nd n.hi hy (sw_true hk hy hw.1.2 (by simpa using hw.2)) hi bo pg pt pe (set_free hst)) fun D σ H hh => ?_
  obtain ⟨m, ps, h, D', Ef, hs, hr, k, tk, q⟩ := hh
  refine lc_ok g.hK g.ok hg ho ⟨m, ps, h, _, _, hs, hr, fun m1 h1 p x H1 a1 r1 rx q1 => ?_, tk.at hs, q⟩
  exact k.1 m1 _ _ h1 H1 a1 ((hs.ext a1).set rx i) r1 q1
theorem swapNo (g : GoodX P T G cl cm lv X L) {tg : Expr} {pos spos : Pos} {el : Expr} {gs : List Comprehension} {sc : Scope} (hw : swB L tg (.ListComp el gs sc pos) spos = false) : swapsWithSole [tg] (.ListComp el gs sc pos) spos.line X.env = pure false := by
  show swapsWith (.ListComp el gs sc pos) (some tg) spos.line X.env = pure false
  cases tg with
  | Name y py =>
    have hw : (isLocal L.sc y && py.line == pos.line && !(sc.names.any fun (n, k) => n == y && (k == .local || k == .cell))) = false := hw
    have e : ((X.env.kindOf y == some .local) && py.line == pos.line && !(sc.names.any fun (n, k) => n == y && (k == .local || k == .cell))) = false := by
      have : (X.env.kindOf y == some .local) = isLocal L.sc y := by
        show (X.env.scope.names.lookup y == some .local) = _
        rw [g.sc]
        unfold isLocal
        cases q : L.sc.names.lookup y with
        | none => rfl
        | some k => cases k <;> rfl
      rw [this]; exact hw
    unfold swapsWith
    show (pure (X.env.blockKind == .function && X.env.kindOf y == some .local && py.line == pos.line && !(sc.names.any fun (n, k) => n == y && (k == .local || k == .cell))) : PySem.Sem Bool) = pure false
    congr 1
    rw [Bool.and_assoc, Bool.and_assoc]
    rw [Bool.and_assoc] at e
    rw [e, Bool.and_false]
  | _ => rfl
structure SndS (P : PEnv) (T : Tab) (G : Pg) (cl cm : CSem) (lv : Nat) (f : LEnv → Stmt → Option IS) : Prop where
  s : ∀ {X : Cx} {L : LEnv} {st : Stmt} {is : IS}, GoodX P T G cl cm lv X L → f L st = some is → PS X st (tS T X (wS G cl cm is))
theorem compB2_ok {f : LEnv → Stmt → Option IS} (s : SndS P T G cl cm lv f) (g : GoodX P T G cl cm lv X L) : ∀ {b : List Stmt} {is : List IS}, compB2 f L b = some is → PSs X b (tS T X (wB G cl cm is))
  | [], is, h => by
    unfold compB2 at h
    simp at h; subst h
    exact sB_nil
  | st :: r, is, h => by
    unfold compB2 at h
    rw [List.mapM_cons] at h
    cases q : f L st with
    | none => rw [q] at h; cases h
    | some x =>
      rw [q] at h
      cases q2 : r.mapM (f L) with
      | none => rw [q2] at h; cases h
      | some xs =>
        rw [q2] at h; cases h
        exact sB_cons (s.s g q) (compB2_ok s g q2)
theorem stepS_ok (s : ∃ k, c = comp P (k + 1)) {f : LEnv → Stmt → Option IS} (sf : SndS P T G cl cm lv f) (g : GoodX P T G cl cm lv X L) {st : Stmt} {is : IS} (h : stepS c (compB2 f) L st = some is) : PS X st (tS T X (wS G cl cm is)) := by
  obtain ⟨kc, hc⟩ := s
  have s : Snd P T G cl cm lv c := hc ▸ (comp_ok (kc + 1)).toSnd
  unfold stepS at h
  split at h
  · obtain ⟨x, h1, rfl⟩ := map_some h
    exact sS_ret (s.sE g h1)
  · cases h; exact sS_retN
  · cases h; exact sS_skip
  · cases h; exact sS_brk
  · cases h; exact sS_cont
  · obtain ⟨hb, h⟩ := ite_none h
    obtain ⟨x, h1, rfl⟩ := map_some h
    exact sS_exp (s.sE g h1) (swap_free hb)
  · obtain ⟨x, y, z, h1, h2, h3, rfl⟩ := opt3_some h
    exact sS_ite (s.sT g h1) (compB2_ok sf g h2) (compB2_ok sf g h3)
  · obtain ⟨x, y, h1, h2, rfl⟩ := opt2_some h
    exact sS_whl g.po (s.sT g h1) (compB2_ok sf g h2)
  · obtain ⟨hb, h⟩ := ite_none h
    obtain ⟨x, y, z, h1, h2, h3, rfl⟩ := opt3_some h
    exact sS_for g.po g.calm (s.sI g h2) (g.tg h1) (compB2_ok sf g h3) (set_free hb)
  · rename_i tg e pos
    obtain ⟨hb, h⟩ := ite_none h
    rw [Bool.or_eq_false_iff] at hb
    have ht : isTupE tg = false ∨ isTupE e = false := by
      cases q : isTupE tg with
      | false => exact .inl rfl
      | true => rw [q] at hb; simp at hb; exact .inr hb.2
    obtain ⟨ig, x, h1, h2, rfl⟩ := opt2_some h
    have hst := asg_one (env := X.env) hb.1
    cases hcp : isComp e with
    | false => exact sS_asg (s.sE g h2) (compG_ok s g h1) (sole_free hcp) (stores_free ht) hst
    | true =>
      cases e with
      | ListComp el gs sc p =>
        cases hw : swB L tg (.ListComp el gs sc p) pos with
        | true =>
          cases tg with
          | Name y py =>
            have h1 : (compNm L y).map IG.name = some ig := h1
            obtain ⟨i, e1, rfl⟩ := map_some h1
            subst hc
            exact asg_lc (comp_ok kc).toSnd g e1 h2 hw
          | _ => cases hw
        | false => exact sS_asg (s.sE g h2) (compG_ok s g h1) (swapNo g hw) (stores_free ht) hst
      | SetComp _ _ _ _ => subst hc; cases h2
      | DictComp _ _ _ _ _ => subst hc; cases h2
      | _ => cases hcp
  · obtain ⟨hb, h⟩ := ite_none h
    obtain ⟨x, y, z, h1, h2, h3, rfl⟩ := opt3_some h
    exact sS_augS g.hK g.ok (s.sE g h1) (s.sE g h2) (s.sE g h3) (aug_free hb)
  · obtain ⟨i, y, h1, h2, rfl⟩ := opt2_some h
    exact sS_aug g.hK g.ok g.nd (g.nm h1) (s.sE g h2)
  · cases h; exact sS_raise
  · cases h
theorem compS_ok {kc : Nat} : ∀ k : Nat, SndS P T G cl cm lv (compS (comp P (kc + 1)) k)
  | 0 => ⟨fun _ h => (by cases h)⟩
  | k + 1 => ⟨fun g h => stepS_ok ⟨kc, rfl⟩ (compS_ok k) g h⟩
end
end Fw
set_option Elab.async false
set_option linter.all false
set_option maxRecDepth 100000
set_option maxHeartbeats 2000000
/-! Fw11: a whole program of defs. -/
namespace Fw
open PySem PySem.Spec PyProof.Rows L2

/-- a def of the text: its name, its statement, its names (parameters first), its parameters -/
structure Rec where
  name : Str
  st : Stmt
  N : List Str
  ps : List Str
def Rec.L (r : Rec) : LEnv := ⟨r.N, defScope r.st, fun _ => true⟩
def pEnv (rs : List Rec) (ks : List (Str × PV)) (blt : List Str) : PEnv := ⟨rs.map fun r => (r.name, r.ps.length), ks, blt⟩
/-- a def's scope is plain -/
def scB (r : Rec) : Bool := (match (defScope r.st).kind with | .function => true | _ => false) && !(defScope r.st).isCoroutine && !(defScope r.st).isGenerator && decide r.N.Nodup && decide (r.N.take r.ps.length = r.ps) &&
  r.ps.all (fun x => locB (defScope r.st) x) && (defScope r.st).names.all (fun y => match y.2 with | .free => false | _ => true)
theorem scB_ok {r : Rec} (h : scB r = true) : FnScope r.N r.ps (defScope r.st) := by
  unfold scB at h
  simp only [Bool.and_eq_true, List.all_eq_true, Bool.not_eq_true', decide_eq_true_eq] at h
  obtain ⟨⟨⟨⟨⟨⟨h1, h2⟩, h3⟩, h4⟩, h5⟩, h6⟩, h7⟩ := h
  refine ⟨?_, h2, h3, h4, h5, fun x hx => ?_, fun y hy e => ?_⟩
  · split at h1
    · assumption
    · cases h1
  · have := h6 x hx
    unfold locB at this
    split at this
    · rename_i e; exact .inl e
    · rename_i e; exact .inr e
    · cases this
  · have := h7 y hy
    rw [e] at this
    cases this
def compD (P : PEnv) (r : Rec) : Option (List IS) := compB2 (compS (comp P 60) 40) r.L (defBody r.st)
/-- the compiled program -/
def prgOf (rs : List Rec) (bs : List (List IS)) (i : Nat) : Option Fn := match rs[i]?, bs[i]? with
  | some r, some b => some ⟨r.ps.length, r.N.length, b⟩
  | _, _ => none
/-- where the defs stand -/
structure Def (K : PySem.W.Frag) (mg : Str → Option Value) (r : Rec) : Prop where
  ex : ∃ (fa : Addr) (fd : FuncData), mg r.name = some (.ref fa) ∧ Fun K r.name r.name r.st fa fd ∧ Binds K fd r.ps []
theorem sem_succ {G : Pg} {P : Nat → Option Fn} {k f : Nat} {vs : List PV} {h : PH} {Q : PV → PH → Prop} {E : PX → PH → Prop} : semF G P (k + 1) f vs h Q E = ∃ F, P f = some F ∧ vs.length = F.np ∧
      wpSs G (semF G P k) (semP G P k) (fun x _ => E x) F.body { nx := fun _ h' => Q .non h', rt := Q } (vs.map some ++ List.replicate (F.ns - F.np) none) h := rfl
section
variable {prog : Program} {w : World} {mg : Str → Option Value} {base : Heap} {T : Tab} {G : Pg} {rs : List Rec} {bs : List (List IS)} {ks : List (Str × PV)} {blt : List Str}
theorem lenF_sem {k i np : Nat} {r : Rec} (h : rs[i]? = some r) (hn : r.ps.length = np) : lenF np (semF G (prgOf rs bs) k i) := by
  intro vs h' Q E q
  cases k with
  | zero => exact False.elim (show False from q)
  | succ k =>
    rw [sem_succ] at q
    obtain ⟨F, e, hl, _⟩ := q
    unfold prgOf at e
    rw [h] at e
    cases q2 : bs[i]? with
    | none => rw [q2] at e; cases e
    | some b => rw [q2] at e; cases e; exact hl.trans hn
theorem prog_ok (ok : KOk T G) (sc : rs.all scB = true) (cb : ∀ (i : Nat) (r : Rec), rs[i]? = some r → ∃ b, bs[i]? = some b ∧ compD (pEnv rs ks blt) r = some b)
    (hks : ∀ (x : Str) (p : PV), ks.lookup x = some p → ∃ u v, mg x = some u ∧ RelV v u ∧ ∀ m, RV T m p v) (hb : ∀ x, blt.contains x = true → mg x = none) (ds : ∀ r ∈ rs, Def T.K mg r) :
    ∀ (k i : Nat) (r : Rec), rs[i]? = some r → ∃ (fa : Addr) (fd : FuncData), mg r.name = some (.ref fa) ∧ Fun T.K r.name r.name r.st fa fd ∧ Binds T.K fd r.ps [] ∧ FnOk prog w T.K mg base (L2.CX prog w) k fa fd r.ps (spOf T (semF G (prgOf rs bs) k i) r.ps.length) := by
  intro k
  induction k with
  | zero =>
    intro i r hr
    obtain ⟨fa, fd, h1, h2, h3⟩ := (ds r (List.mem_of_getElem? hr)).ex
    refine ⟨fa, fd, h1, h2, h3, fun vs H Q E h => h.1, fun A outer s H args us vs Q E hr e0 hb hv h => ?_⟩
    obtain ⟨_, m, ps, h, Qf, Ef, _, _, _, _, z⟩ := h
    exact False.elim (show False from z)
  | succ k ih =>
    intro i r hr
    obtain ⟨fa, fd, h1, h2, h3⟩ := (ds r (List.mem_of_getElem? hr)).ex
    refine ⟨fa, fd, h1, h2, h3, ?_⟩
    have S := scB_ok (List.all_eq_true.mp sc r (List.mem_of_getElem? hr))
    obtain ⟨b, hb1, hb2⟩ := cb i r hr
    refine h2.okX S (fun vs H Q E h => h.1) (fun cdv A outer s H vs Q E room h => ?_)
    obtain ⟨hl, m, ps, hp, Qf, Ef, rv, hh, kq, ke, q⟩ := h
    rw [sem_succ] at q
    obtain ⟨F, e, hl2, q⟩ := q
    unfold prgOf at e
    rw [hr, hb1] at e
    cases e
    generalize hX : cxOf (L2.CX prog w) prog w T.K mg base r.N r.name (defScope r.st) fa cdv A outer s H E = X
    have g : GoodX (pEnv rs ks blt) T G (semF G (prgOf rs bs) k) (semP G (prgOf rs bs) k) k X r.L := by
      subst hX
      refine ⟨rfl, ok, rfl, S.nd, room, passes_of rfl, rfl, rfl, fun _ _ => rfl, S.kind, fun j x np hj => ?_, hks, hb⟩
      have hj : (rs.map fun r => (r.name, r.ps.length))[j]? = some (x, np) := hj
      rw [List.getElem?_map] at hj
      cases q3 : rs[j]? with
      | none => rw [q3] at hj; cases hj
      | some r' =>
        rw [q3] at hj; cases hj
        obtain ⟨fa', fd', g1, g2, g3, g4⟩ := ih j r' q3
        exact ⟨⟨fa', fd', r'.ps, g1, g2.kp, rfl, g3, g4⟩, lenF_sem q3 rfl⟩
    have P := compB2_ok (compS_ok (kc := 59) 40) g hb2
    refine ⟨_, P, m, _, hp, _, _, ?_, hh, ⟨?_, kq, ?_, ?_⟩, ?_, q⟩
    · unfold L2.start
      rw [hl]
      exact SR.start _ rv
    · intro m' ps' σ' h' H' a s' r' z
      exact kq m' h' .non .non H' a r' rfl z
    · intro _ _ _ _ _ _ _ _ z; exact z.elim
    · intro _ _ _ _ _ _ _ _ z; exact z.elim
    · subst hX
      exact Takes.imp (takes_of rfl rfl rfl rfl) fun cls d σ' H' ⟨m', ps', h', x, a, _, r', rx, z⟩ => ke m' h' x cls d H' a r' rx z
end
end Fw
set_option Elab.async false
set_option linter.all false
set_option maxRecDepth 100000
set_option maxHeartbeats 2000000
/-! Fw12: the law's call. -/
namespace Fw
open PySem PySem.Spec PyProof.Rows L2
theorem law_sp {K : PySem.W.Frag} {cls : List Addr} {kon : List (Addr × PO)} {att : List Str} {H : Hp} {a : Addr} {ns : List Int} {f : List PV → PH → (PV → PH → Prop) → (PX → PH → Prop) → Prop} (ho : Only H) (hS : SqL K H a (ns.map V.int))
    (h : f [.loc 0] [.rol (ns.map .int)] (fun v _ => v = .bl true) (fun _ _ => False)) : spOf ⟨K, cls, kon, att⟩ f 1 [.ref a] H (fun v _ => v = .bl true) fun _ _ _ => False := by
  have hs : (∃ o, H a = some (.frz o (.lst (ns.map V.int)))) ∨ KLst K a (ns.map V.int) := by
    rcases hS with (h1 | h1) | h1
    · rcases ho a with z | ⟨o, xs, z⟩
      · rw [h1] at z; cases z
      · rw [h1] at z; cases z
    · exact .inl h1
    · exact .inr h1
  refine ⟨rfl, [a], [.loc 0], [.rol (ns.map .int)], _, _, .cons ⟨a, rfl, rfl⟩ .nil, ⟨rfl, ?_, ?_⟩, ?_, ?_, h⟩
  · intro i j b oi oj hij e1 e2 e3 e4
    have h1 := get_len e1
    have h2 := get_len e2
    simp at h1 h2
    omega
  · intro i b o e1 e2
    have h1 := get_len e1
    simp at h1
    subst h1
    cases e1; cases e2
    exact ⟨_, hs, RVs.ints ns⟩
  · intro m' h' p v H' _ _ r z
    subst z
    exact r
  · intro _ _ _ _ _ _ _ _ _ z; exact z
theorem cx_never {P : Program} {w : World} {H : Hp} {s : Shared} {e : Value} {s' : Shared} (h : L2.CX P w [] H s (fun _ _ _ => False) e s') : False := by
  obtain ⟨_, _, _, _, _, _, _, _, _, _, _, _, z⟩ := h
  exact z
end Fw
set_option Elab.async false
set_option linter.all false
set_option maxRecDepth 100000
set_option maxHeartbeats 1000000
/-! Fw13: rules for reasoning over the small language. -/
namespace Fw
open PySem PySem.Spec PyProof.Rows L2

/-- what stood stands, but what may be at the places of S -/
def Kp (S : List Nat) (h h' : PH) : Prop := h.length ≤ h'.length ∧ ∀ i o, i ∉ S → h[i]? = some o → h'[i]? = some o
abbrev Kp0 (h h' : PH) : Prop := Kp [] h h'
theorem Kp.refl {S : List Nat} {h : PH} : Kp S h h := ⟨Nat.le_refl _, fun _ _ _ e => e⟩
theorem Kp.trans {S : List Nat} {a b c : PH} (x : Kp S a b) (y : Kp S b c) : Kp S a c := ⟨Nat.le_trans x.1 y.1, fun i o n e => y.2 i o n (x.2 i o n e)⟩
theorem Kp.weak {S S' : List Nat} {a b : PH} (x : Kp S a b) (hs : ∀ i ∈ S, i ∈ S') : Kp S' a b := ⟨x.1, fun i o n e => x.2 i o (fun z => n (hs i z)) e⟩
theorem Kp.to {S : List Nat} {a b : PH} (x : Kp0 a b) : Kp S a b := x.weak fun _ z => by cases z
/-- what was made behind a need not be named -/
theorem Kp.drop {S : List Nat} {n : Nat} {a b : PH} (x : Kp (n :: S) a b) (hn : a.length ≤ n) : Kp S a b := ⟨x.1, fun i o h e => x.2 i o (fun z => by
  rcases List.mem_cons.mp z with z | z
  · subst z; have := get_len e; omega
  · exact h z) e⟩
theorem Kp.get {S : List Nat} {a b : PH} {i : Nat} {o : PO} (x : Kp S a b) (e : a[i]? = some o) (h : i ∉ S) : b[i]? = some o := x.2 i o h e
theorem Kp.get0 {a b : PH} {i : Nat} {o : PO} (x : Kp0 a b) (e : a[i]? = some o) : b[i]? = some o := x.2 i o (by simp) e
theorem Kp.snoc {S : List Nat} {h : PH} {o : PO} : Kp S h (h ++ [o]) := ⟨by simp, fun i o' _ e => by rw [List.getElem?_append_left (get_len e)]; exact e⟩
theorem Kp.app {S : List Nat} {h g : PH} : Kp S h (h ++ g) := ⟨by simp, fun i o' _ e => by rw [List.getElem?_append_left (get_len e)]; exact e⟩
theorem Kp.set {S : List Nat} {h : PH} {n : Nat} {o : PO} (hn : n ∈ S) : Kp S h (h.set n o) := ⟨by simp, fun i o' hi e => by
  rw [List.getElem?_set_ne (fun z => hi (by rw [← z]; exact hn))]; exact e⟩
theorem get_new {h : PH} {o : PO} : (h ++ [o])[h.length]? = some o := by simp
theorem get_put {h : PH} {n : Nat} {o o' : PO} (e : h[n]? = some o') : (h.set n o)[n]? = some o := List.getElem?_set_self (get_len e)

/-! ### loops -/
theorem for_inv {tg : PV → PSt → PH → (PSt → PH → Prop) → Prop} {body : PEnds → PSt → PH → Prop} {D : PEnds} {chk : PH → Prop} {its : List Item} {σ : PSt} {h : PH} (I : Nat → PSt → PH → Prop) (h0 : I 0 σ h)
    (step : ∀ (i : Nat) (x : Item) (σ : PSt) (h : PH) (K : PSt → PH → Prop), its[i]? = some x → I i σ h → (∀ σ' h', I (i + 1) σ' h' → K σ' h') → chk h ∧ tg (x.v h) σ (x.h h) fun σ2 h2 => body { nx := K, ct := K, bk := D.nx, rt := D.rt } σ2 h2)
    (done : ∀ σ h, I its.length σ h → chk h ∧ D.nx σ h) : wpFor tg body D chk its σ h := by
  have key : ∀ (r : List Item) (i : Nat) (σ : PSt) (h : PH), its.drop i = r → i ≤ its.length → I i σ h → wpFor tg body D chk r σ h := by
    intro r
    induction r with
    | nil =>
      intro i σ h e hi w
      have : i = its.length := by
        have := congrArg List.length e
        rw [List.length_drop] at this
        simp at this
        omega
      subst this
      exact done σ h w
    | cons x r ih =>
      intro i σ h e hi w
      obtain ⟨e1, e2⟩ := drop_at e
      exact step i x σ h _ e1 w fun σ' h' w' => ih (i + 1) σ' h' e2 (get_len e1) w'
  exact key its 0 σ h rfl (Nat.zero_le _) h0
theorem lc_inv {tg : PV → PSt → PH → (PSt → PH → Prop) → Prop} {tst : PSt → PH → (Bool → PH → Prop) → Prop} {el : PSt → PH → (PV → PH → Prop) → Prop} {σ0 : PSt} {d : Nat} {Q : PV → PH → Prop} {chk : PH → Prop} {its : List Item} {h : PH} (I : Nat → PH → Prop) (h0 : I 0 h)
    (step : ∀ (i : Nat) (x : Item) (h : PH) (K : PH → Prop), its[i]? = some x → I i h → (∀ h', I (i + 1) h' → K h') → chk h ∧ tg (x.v h) σ0 (x.h h) fun σ2 h2 => tst σ2 h2 fun b h3 =>
      if b = true then el σ2 h3 fun y h4 => ∃ acc, h4[d]? = some (.lst acc) ∧ acc.length < sizeLine ∧ K (h4.set d (.lst (acc ++ [y]))) else K h3)
    (done : ∀ h, I its.length h → chk h ∧ Q (.loc d) h) : wpLc tg tst el σ0 d Q chk its h := by
  have key : ∀ (r : List Item) (i : Nat) (h : PH), its.drop i = r → i ≤ its.length → I i h → wpLc tg tst el σ0 d Q chk r h := by
    intro r
    induction r with
    | nil =>
      intro i h e hi w
      have : i = its.length := by
        have := congrArg List.length e
        rw [List.length_drop] at this
        simp at this
        omega
      subst this
      exact done h w
    | cons x r ih =>
      intro i h e hi w
      obtain ⟨e1, e2⟩ := drop_at e
      exact step i x h _ e1 w fun h' w' => ih (i + 1) h' e2 (get_len e1) w'
  exact key its 0 h rfl (Nat.zero_le _) h0
/-- a comprehension that makes nothing else: element by element -/
theorem lc_map {tg : PV → PSt → PH → (PSt → PH → Prop) → Prop} {el : PSt → PH → (PV → PH → Prop) → Prop} {σ0 : PSt} {Q : PV → PH → Prop} {chk : PH → Prop} {its : List Item} {h : PH} {n : Nat} (ys : List PV) (hn : n = h.length) (hl : ys.length = its.length) (hz : its.length ≤ sizeLine)
    (hc : ∀ xs, chk (h ++ [.lst xs])) (hv : ∀ x ∈ its, ∃ v, x = .val v)
    (step : ∀ (i : Nat) (v y : PV) (h' : PH) (K : PV → PH → Prop), Kp0 h h' → its[i]? = some (.val v) → ys[i]? = some y → K y h' → tg v σ0 h' fun σ2 h2 => el σ2 h2 K)
    (done : Q (.loc n) (h ++ [.lst ys])) : wpLc tg (fun _ h Q => Q true h) el σ0 n Q chk its (h ++ [.lst []]) := by
  subst hn
  refine lc_inv (fun i h' => h' = h ++ [.lst (ys.take i)]) (by simp) ?_ ?_
  · rintro i x h' K hx rfl hK
    refine ⟨hc _, ?_⟩
    obtain ⟨v, rfl⟩ := hv x (List.mem_of_getElem? hx)
    have hi := get_len hx
    have hy : ys[i]? = some (ys[i]'(by omega)) := List.getElem?_eq_getElem _
    refine step i v _ _ _ Kp.snoc hx hy ?_
    refine ⟨ys.take i, get_new, ?_, ?_⟩
    · rw [List.length_take]; omega
    · refine hK _ ?_
      show (h ++ [PO.lst (List.take i ys)]).set h.length _ = _
      rw [List.set_append_right _ _ (Nat.le_refl _), Nat.sub_self, List.set_cons_zero, List.take_add_one, hy]
      rfl
  · rintro h' rfl
    rw [← hl, List.take_length]
    exact ⟨hc _, done⟩

/-- a comprehension whose elements may make things -/
theorem lc_gen {tg : PV → PSt → PH → (PSt → PH → Prop) → Prop} {el : PSt → PH → (PV → PH → Prop) → Prop} {σ0 : PSt} {Q : PV → PH → Prop} {chk : PH → Prop} {its : List Item} {h : PH} {n : Nat} (hn : n = h.length) (hz : its.length ≤ sizeLine) (I : Nat → List PV → PH → Prop) (h0 : I 0 [] (h ++ [.lst []]))
    (hI : ∀ i ys h' o, I i ys h' → Kp0 h h' → I i ys (h'.set n o))
    (hc : ∀ i ys h', Kp0 h h' → I i ys h' → chk h')
    (step : ∀ (i : Nat) (x : Item) (ys : List PV) (h' : PH) (K : PV → PH → Prop), Kp0 h h' → I i ys h' → its[i]? = some x → ys.length = i → (∀ y h'', Kp0 h' h'' → I (i + 1) (ys ++ [y]) h'' → K y h'') → tg (x.v h') σ0 (x.h h') fun σ2 h2 => el σ2 h2 K)
    (done : ∀ ys h', Kp0 h h' → h'[n]? = some (.lst ys) → ys.length = its.length → I its.length ys h' → Q (.loc n) h') : wpLc tg (fun _ h Q => Q true h) el σ0 n Q chk its (h ++ [.lst []]) := by
  subst hn
  refine lc_inv (fun i h' => ∃ ys, ys.length = i ∧ Kp0 h h' ∧ h'[h.length]? = some (.lst ys) ∧ I i ys h') ⟨[], rfl, Kp.snoc, get_new, h0⟩ ?_ ?_
  · rintro i x h' K hx ⟨ys, hl, kp, hd, hi⟩ hK
    refine ⟨hc i ys h' kp hi, step i x ys h' _ kp hi hx hl ?_⟩
    intro y h'' kp' hi'
    have hlt := get_len hx
    refine ⟨ys, kp'.get0 hd, by omega, hK _ ⟨ys ++ [y], by simp [hl], ?_, get_put (kp'.get0 hd), hI _ _ _ _ hi' (kp.trans kp')⟩⟩
    exact (((kp.trans kp').to).trans (Kp.set (List.mem_singleton_self _))).drop (Nat.le_refl _)
  · rintro h' ⟨ys, hl, kp, hd, hi⟩
    exact ⟨hc _ ys h' kp hi, done ys h' kp hd hl hi⟩
theorem rng_1 {n : Nat} (h : (n : Int) < 2 ^ 62) : rngOf [.int (n : Int)] = some (0, 1, n) := by
  unfold rngOf
  dsimp only
  rw [if_pos ⟨by omega, h⟩]; simp
theorem rng_1' {n : Nat} {i : Int} (e : i = n) (h : (n : Int) < 2 ^ 62) : rngOf [.int i] = some (0, 1, n) := by rw [e]; exact rng_1 h
theorem rngL_len {lo c : Int} {n : Nat} : (rngL lo c n).length = n := by simp [rngL]
theorem rngL_at {lo c : Int} {n i : Nat} (h : i < n) : (rngL lo c n)[i]? = some (.val (.int (lo + (i : Nat) * c))) := by simp [rngL, h]
theorem rngL_val {lo c : Int} {n : Nat} : ∀ x ∈ rngL lo c n, ∃ v, x = .val v := by
  intro x hx
  simp [rngL] at hx
  obtain ⟨i, _, rfl⟩ := hx
  exact ⟨_, rfl⟩
/-- the i-th number of range(n) -/
theorem rng_item {n i : Nat} {x : Item} (e : (rngL 0 1 n)[i]? = some x) : i < n ∧ x = .val (.int (i : Int)) := by
  have hl := get_len e
  rw [rngL_len] at hl
  rw [rngL_at hl] at e
  refine ⟨hl, ?_⟩
  have := (Option.some.inj e).symm
  rw [this]
  congr 2
  omega
theorem vals_val {xs : List PV} : ∀ x ∈ xs.map Item.val, ∃ v, x = .val v := by
  intro x hx
  obtain ⟨v, _, rfl⟩ := List.mem_map.mp hx
  exact ⟨v, rfl⟩
theorem val_item {xs : List PV} {i : Nat} {x : Item} (e : (xs.map Item.val)[i]? = some x) : ∃ v, xs[i]? = some v ∧ x = .val v := its_at e
/-! ### what stands at a value -/
section
variable {G : Pg} {h : PH} {n : Nat} {xs : List PV}
theorem deref_loc {o : PO} (e : h[n]? = some o) : deref G h (.loc n) = some o := e
theorem lstOf_lst (e : h[n]? = some (.lst xs)) : lstOf G h (.loc n) = some xs := by unfold lstOf; rw [deref_loc e]
theorem lstOf_rol (e : h[n]? = some (.rol xs)) : lstOf G h (.loc n) = some xs := by unfold lstOf; rw [deref_loc e]
theorem tupOf_tup (e : h[n]? = some (.tup xs)) : tupOf G h (.loc n) = some xs := by unfold tupOf; rw [deref_loc e]
theorem seqOf_lst (e : h[n]? = some (.lst xs)) : seqOf G h (.loc n) = some xs := by unfold seqOf; rw [deref_loc e]
theorem seqOf_rol (e : h[n]? = some (.rol xs)) : seqOf G h (.loc n) = some xs := by unfold seqOf; rw [deref_loc e]
theorem seqOf_tup (e : h[n]? = some (.tup xs)) : seqOf G h (.loc n) = some xs := by unfold seqOf; rw [deref_loc e]
theorem seqOf_of_lst {v : PV} (e : lstOf G h v = some xs) : seqOf G h v = some xs := by
  unfold lstOf at e; unfold seqOf
  split at e <;> simp_all
theorem seqOf_of_tup {v : PV} (e : tupOf G h v = some xs) : seqOf G h v = some xs := by
  unfold tupOf at e; unfold seqOf
  split at e <;> simp_all
theorem len_seq {v : PV} (e : seqOf G h v = some xs) : lenV G [v] h = some (.int xs.length, h) := by
  unfold lenV
  split
  · rename_i l hl; cases hl; simp [seqOf, deref] at e
  · rename_i u _ hu; cases hu; rw [e]; rfl
  · rename_i h1 h2; exact absurd rfl (h2 v)
theorem idx_seq {v : PV} {i : Int} (e : seqOf G h v = some xs) : idxP G h v (.int i) = atI xs i := by
  unfold idxP
  cases v with
  | str l => simp [seqOf, deref] at e
  | _ => dsimp only; rw [e]
theorem atI_nat' {α : Type} {xs : List α} {i : Nat} : atI xs (i : Int) = xs[i]? := by
  unfold atI ixN
  rw [if_pos (Int.natCast_nonneg _)]
  by_cases h : (i : Int) < (xs.length : Int)
  · rw [if_pos h]; simp
  · rw [if_neg h]
    have : xs.length ≤ i := by omega
    rw [List.getElem?_eq_none this]; rfl
theorem tuple_lst {v : PV} (e : lstOf G h v = some xs) : tupleV G [v] h = some (.loc h.length, h ++ [.tup xs]) := by
  unfold tupleV; dsimp only; rw [e]
theorem list_seq {v : PV} (e : seqOf G h v = some xs) : listV G [v] h = some (.loc h.length, h ++ [.lst xs]) := by
  unfold listV; dsimp only; rw [e]; rfl
theorem append_lst {y : PV} (e : h[n]? = some (.lst xs)) (hz : xs.length < sizeLine) : appendV [.loc n, y] h = some (.non, h.set n (.lst (xs ++ [y]))) := by
  unfold appendV; dsimp only; rw [e]; dsimp only; rw [if_pos hz]
theorem cat_lst {m : Nat} {ys : List PV} (e : h[n]? = some (.lst xs)) (e' : h[m]? = some (.lst ys)) (hz : xs.length + ys.length ≤ sizeLine) : binV G .Add (.loc n) (.loc m) h = some (.loc h.length, h ++ [.lst (xs ++ ys)]) := by
  unfold binV; dsimp only; rw [e, e']; dsimp only; rw [if_pos hz]
theorem slc_lst {v : PV} {a b : Option Int} (e : lstOf G h v = some xs) : slcV G v a b h = some (.loc h.length, h ++ [.lst (cutP xs a b)]) := by
  unfold slcV
  cases v with
  | str l => simp [lstOf, deref] at e
  | _ => dsimp only; rw [e]
theorem p_add {a b : Int} : binV G .Add (.int a) (.int b) h = some (.int (a + b), h) := rfl
theorem p_adds {a b : List Nat} : binV G .Add (.str a) (.str b) h = if a.length + b.length ≤ sizeLine then some (.str (a ++ b), h) else none := rfl
theorem p_sub {a b : Int} : binV G .Sub (.int a) (.int b) h = some (.int (a - b), h) := rfl
theorem p_mul {a b : Int} : binV G .Mult (.int a) (.int b) h = if a.natAbs.log2 + b.natAbs.log2 < 1000000 then some (.int (a * b), h) else none := rfl
theorem p_div {a b : Int} : binV G .FloorDiv (.int a) (.int b) h = if b ≠ 0 ∧ b.natAbs.log2 < 9000 then some (.int (a.fdiv b), h) else none := rfl
theorem p_mod {a b : Int} : binV G .Mod (.int a) (.int b) h = if b ≠ 0 then some (.int (a.fmod b), h) else none := rfl
theorem p_pow {a b : Int} : binV G .Pow (.int a) (.int b) h = if 0 ≤ b ∧ b ≤ 1000000 ∧ a.natAbs < 2 ^ 64 then some (.int (a ^ b.toNat), h) else none := rfl
theorem p_shl {a b : Int} : binV G .LShift (.int a) (.int b) h = if 0 ≤ b ∧ b ≤ 1000000 ∧ a.natAbs < 2 ^ 64 then some (.int (a * 2 ^ b.toNat), h) else none := rfl
theorem p_shr {a b : Int} : binV G .RShift (.int a) (.int b) h = if 0 ≤ b then some (.int (a / 2 ^ b.toNat), h) else none := rfl
theorem p_and {a b : Int} : binV G .BitAnd (.int a) (.int b) h = some (.int (Builtin.bitAnd a b), h) := rfl
theorem q_add {a b : Int} : iopV .Add (.int a) (.int b) h = some (.int (a + b), h) := rfl
theorem q_adds {a b : List Nat} : iopV .Add (.str a) (.str b) h = if a.length + b.length ≤ sizeLine then some (.str (a ++ b), h) else none := rfl
theorem q_sub {a b : Int} : iopV .Sub (.int a) (.int b) h = some (.int (a - b), h) := rfl
theorem q_mul {a b : Int} : iopV .Mult (.int a) (.int b) h = if a.natAbs.log2 + b.natAbs.log2 < 1000000 then some (.int (a * b), h) else none := rfl
theorem c_lt {a b : Int} : cmpV G .Lt (.int a) (.int b) h = some (decide (a < b)) := rfl
theorem c_le {a b : Int} : cmpV G .LtE (.int a) (.int b) h = some (decide (a ≤ b)) := rfl
theorem c_gt {a b : Int} : cmpV G .Gt (.int a) (.int b) h = some (decide (b < a)) := rfl
theorem c_ge {a b : Int} : cmpV G .GtE (.int a) (.int b) h = some (decide (b ≤ a)) := rfl
theorem c_eq {a b : Int} : cmpV G .Eq (.int a) (.int b) h = some (decide (a = b)) := rfl
theorem c_ne {a b : Int} : cmpV G .NotEq (.int a) (.int b) h = some (!decide (a = b)) := rfl
theorem c_eqs {a b : List Nat} : cmpV G .Eq (.str a) (.str b) h = some (decide (a = b)) := rfl
theorem c_nes {a b : List Nat} : cmpV G .NotEq (.str a) (.str b) h = some (!decide (a = b)) := rfl
theorem c_is {a : PV} : cmpV G .Is a .non h = some (decide (a = .non)) := by cases a <;> rfl
theorem c_isnt {a : PV} : cmpV G .IsNot a .non h = some (!decide (a = .non)) := by cases a <;> rfl
theorem c_isb {a b : Bool} : cmpV G .Is (.bl a) (.bl b) h = some (decide (a = b)) := rfl
theorem c_isntb {a b : Bool} : cmpV G .IsNot (.bl a) (.bl b) h = some (!decide (a = b)) := rfl
theorem c_eqb {a b : Bool} : cmpV G .Eq (.bl a) (.bl b) h = some (a == b) := rfl
theorem c_neb {a b : Bool} : cmpV G .NotEq (.bl a) (.bl b) h = some (!(a == b)) := rfl
theorem t_bl {b : Bool} : truP G h (.bl b) = some b := rfl
theorem t_int {i : Int} : truP G h (.int i) = some (decide (i ≠ 0)) := rfl
theorem i_int {i : Int} : intV [.int i] h = some (.int i, h) := rfl
theorem i_bl {b : Bool} : intV [.bl b] h = some (.int (if b then 1 else 0), h) := rfl
theorem m_two {a b : Int} : maxV [.int a, .int b] h = some (.int (max a b), h) := rfl
theorem m_three {a b c : Int} : maxV [.int a, .int b, .int c] h = some (.int (max (max a b) c), h) := rfl
theorem m_four {a b c d : Int} : maxV [.int a, .int b, .int c, .int d] h = some (.int (max (max (max a b) c) d), h) := rfl
theorem m_min {a b : Int} : minV [.int a, .int b] h = some (.int (min a b), h) := rfl
theorem is_int {t : String} {i : Int} : isiV G [.int i, .ty t] h = (kitB "int" t).map fun b => (.bl b, h) := rfl
theorem is_bl {t : String} {i : Bool} : isiV G [.bl i, .ty t] h = (kitB "bool" t).map fun b => (.bl b, h) := rfl
theorem is_non {t : String} : isiV G [.non, .ty t] h = (kitB "NoneType" t).map fun b => (.bl b, h) := rfl
theorem is_str {t : String} {i : List Nat} : isiV G [.str i, .ty t] h = (kitB "str" t).map fun b => (.bl b, h) := rfl
theorem is_tup {t : String} {v : PV} (e : tupOf G h v = some xs) : isiV G [v, .ty t] h = (kitB "tuple" t).map fun b => (.bl b, h) := by
  unfold tupOf at e
  have : tyP G h v = some "tuple" := by
    unfold tyP
    cases v with
    | loc n => split at e <;> simp_all
    | kon n => split at e <;> simp_all
    | _ => simp [deref] at e
  unfold isiV isiP
  dsimp only
  rw [this]; rfl
theorem is_lst {t : String} {v : PV} (e : lstOf G h v = some xs) : isiV G [v, .ty t] h = (kitB "list" t).map fun b => (.bl b, h) := by
  unfold lstOf at e
  have : tyP G h v = some "list" := by
    unfold tyP
    cases v with
    | loc n => split at e <;> simp_all
    | kon n => split at e <;> simp_all
    | _ => simp [deref] at e
  unfold isiV isiP
  dsimp only
  rw [this]; rfl
theorem ki_ii : kitB "int" "int" = some true := by decide +kernel
theorem ki_ib : kitB "int" "bool" = some false := by decide +kernel
theorem ki_is : kitB "int" "str" = some false := by decide +kernel
theorem ki_it : kitB "int" "tuple" = some false := by decide +kernel
theorem ki_bi : kitB "bool" "int" = some true := by decide +kernel
theorem ki_bb : kitB "bool" "bool" = some true := by decide +kernel
theorem ki_bs : kitB "bool" "str" = some false := by decide +kernel
theorem ki_bt : kitB "bool" "tuple" = some false := by decide +kernel
theorem ki_si : kitB "str" "int" = some false := by decide +kernel
theorem ki_sb : kitB "str" "bool" = some false := by decide +kernel
theorem ki_ss : kitB "str" "str" = some true := by decide +kernel
theorem ki_st : kitB "str" "tuple" = some false := by decide +kernel
theorem ki_ni : kitB "NoneType" "int" = some false := by decide +kernel
theorem ki_nb : kitB "NoneType" "bool" = some false := by decide +kernel
theorem ki_ns : kitB "NoneType" "str" = some false := by decide +kernel
theorem ki_nt : kitB "NoneType" "tuple" = some false := by decide +kernel
theorem ki_ti : kitB "tuple" "int" = some false := by decide +kernel
theorem ki_tb : kitB "tuple" "bool" = some false := by decide +kernel
theorem ki_ts : kitB "tuple" "str" = some false := by decide +kernel
theorem ki_tt : kitB "tuple" "tuple" = some true := by decide +kernel
theorem ki_li : kitB "list" "int" = some false := by decide +kernel
theorem ki_ls : kitB "list" "str" = some false := by decide +kernel
theorem ki_lt : kitB "list" "tuple" = some false := by decide +kernel
theorem log_lt {n b : Nat} (h : n < 2 ^ b) (hb : 0 < b) : n.log2 < b := PySem.Flt.log2_lt_of hb h
/-- a product of two numbers of known size -/
theorem mul_fit {a b : Int} (k l : Nat) (ha : a.natAbs < 2 ^ k) (hb : b.natAbs < 2 ^ l) (hk : 0 < k) (hl : 0 < l) (h : k + l ≤ 1000000) : binV G .Mult (.int a) (.int b) h' = some (.int (a * b), h') := by
  rw [show binV G .Mult (.int a) (.int b) h' = if a.natAbs.log2 + b.natAbs.log2 < 1000000 then some (.int (a * b), h') else none from rfl]
  have := log_lt ha hk
  have := log_lt hb hl
  rw [if_pos (by omega)]
theorem imul_fit {a b : Int} (k l : Nat) (ha : a.natAbs < 2 ^ k) (hb : b.natAbs < 2 ^ l) (hk : 0 < k) (hl : 0 < l) (h : k + l ≤ 1000000) : iopV .Mult (.int a) (.int b) h' = some (.int (a * b), h') := by
  rw [show iopV .Mult (.int a) (.int b) h' = if a.natAbs.log2 + b.natAbs.log2 < 1000000 then some (.int (a * b), h') else none from rfl]
  have := log_lt ha hk
  have := log_lt hb hl
  rw [if_pos (by omega)]
theorem line_eq : sizeLine = 16777216 := sizeLine_eq
end
end Fw
set_option Elab.async false
set_option linter.all false
set_option maxRecDepth 100000
set_option maxHeartbeats 2000000
namespace K90
open PySem Fw L2
/-- the program's statements by their places -/
def topS (i : Nat) : Stmt := PySem.Challenge.pw_onlylength_k90_notes_read_back.main.body.getD i (.Pass ⟨0, 0, 0, 0⟩)
def r_first_odd : Rec := ⟨"first_odd", topS 5, ["string", "place", "character"], ["string"]⟩
def b_first_odd : List IS := [.for_ (.names [1, 2]) (.enum (.var 0)) [.ite (.tru (.cmp .NotIn (.var 2) (.cst (.str [48, 49, 50, 51, 52, 53, 54, 55, 56, 57, 97, 98, 99, 111, 117, 35, 34, 110, 116, 113, 43, 45, 47, 126, 61, 60, 115, 114, 38, 63, 64, 33, 46])))) [.ret (.var 1)] []],
    .ret (.cst .non)]
def r_digits_end : Rec := ⟨"digits_end", topS 8, ["text", "place", "end"], ["text", "place"]⟩
def b_digits_end : List IS := [.asg (.name 2) (.var 1),
    .whl (.and (.tru (.cmp .Lt (.var 2) (.prm .len [.var 0]))) (.tru (.cmp .In (.idx (.var 0) (.var 2)) (.cst (.str [48, 49, 50, 51, 52, 53, 54, 55, 56, 57]))))) [.aug 2 .Add (.cst (.int 1))],
    .ret (.var 2)]
def r_letters_end : Rec := ⟨"letters_end", topS 11, ["line", "place", "end"], ["line", "place"]⟩
def b_letters_end : List IS := [.asg (.name 2) (.var 1),
    .whl (.and (.tru (.cmp .Lt (.var 2) (.prm .len [.var 0]))) (.tru (.cmp .In (.idx (.var 0) (.var 2)) (.cst (.str [97, 98, 99, 100, 101, 102, 103, 104, 105, 106, 107, 108, 109, 110, 111, 112, 113, 114, 115, 116, 117, 118, 119, 120, 121, 122]))))) [.aug 2 .Add (.cst (.int 1))],
    .ret (.var 2)]
def r_number_piece : Rec := ⟨"number_piece", topS 13, ["line", "at", "start", "end", "digits"], ["line", "at"]⟩
def b_number_piece : List IS := [.asg (.name 2) (.var 1),
    .ite (.tru (.cmp .Eq (.idx (.var 0) (.var 1)) (.cst (.str [45])))) [.asg (.name 2) (.bin .Add (.var 1) (.cst (.int 1)))] [],
    .asg (.name 3) (.call 1 [.var 0, .var 2]),
    .asg (.name 4) (.slc (.var 0) (some (.var 2)) (some (.var 3))),
    .ite (.or (.tru (.cmp .Eq (.var 4) (.cst (.str [])))) (.or (.tru (.cmp .Gt (.prm .len [.var 4]) (.cst (.int 18)))) (.and (.tru (.cmp .Eq (.idx (.var 4) (.cst (.int 0))) (.cst (.str [48])))) (.tru (.cmp .Gt (.prm .len [.var 4]) (.cst (.int 1))))))) [.raise 0 []] [],
    .ite (.tru (.cmp .Gt (.var 2) (.var 1))) [.ite (.tru (.cmp .Eq (.var 4) (.cst (.str [48])))) [.raise 0 []] [],
    .ret (.tup [.neg (.prm .int [.var 4]), .var 3])] [],
    .ret (.tup [.prm .int [.var 4], .var 3])]
def r_text_piece : Rec := ⟨"text_piece", topS 14, ["line", "at", "end"], ["line", "at"]⟩
def b_text_piece : List IS := [.asg (.name 2) (.mtd .find2 (.var 0) [.cst (.str [39]), .bin .Add (.var 1) (.cst (.int 1))]),
    .ite (.or (.tru (.cmp .Lt (.var 2) (.cst (.int 0)))) (.tru (.cmp .IsNot (.call 0 [.slc (.var 0) (some (.bin .Add (.var 1) (.cst (.int 1)))) (some (.var 2))]) (.cst .non)))) [.raise 0 []] [],
    .ret (.tup [.slc (.var 0) (some (.bin .Add (.var 1) (.cst (.int 1)))) (some (.var 2)), .bin .Add (.var 2) (.cst (.int 1))])]
def r_item_piece : Rec := ⟨"item_piece", topS 15, ["line", "at", "first", "character", "end", "word"], ["line", "at", "first"]⟩
def b_item_piece : List IS := [.asg (.name 3) (.idx (.var 0) (.var 1)),
    .ite (.or (.tru (.cmp .In (.var 3) (.cst (.str [48, 49, 50, 51, 52, 53, 54, 55, 56, 57])))) (.tru (.cmp .Eq (.var 3) (.cst (.str [45]))))) [.ret (.call 3 [.var 0, .var 1])] [],
    .ite (.tru (.cmp .Eq (.var 3) (.cst (.str [39])))) [.ret (.call 4 [.var 0, .var 1])] [],
    .ite (.tru (.cmp .In (.var 3) (.cst (.str [97, 98, 99, 100, 101, 102, 103, 104, 105, 106, 107, 108, 109, 110, 111, 112, 113, 114, 115, 116, 117, 118, 119, 120, 121, 122])))) [.asg (.name 4) (.call 2 [.var 0, .var 1]),
    .asg (.name 5) (.slc (.var 0) (some (.var 1)) (some (.var 4))),
    .ite (.tru (.cmp .Eq (.var 5) (.cst (.str [110, 111, 110, 101])))) [.ret (.tup [.cst .non, .var 4])] [],
    .ite (.tru (.var 2)) [.ret (.tup [.var 5, .var 4])] []] [],
    .raise 0 []]
def r_behind_item : Rec := ⟨"behind_item", topS 16, ["line", "at", "waiting"], ["line", "at", "waiting"]⟩
def b_behind_item : List IS := [.ite (.tru (.cmp .Eq (.idx (.var 0) (.var 1)) (.cst (.str [41])))) [.ret (.tup [.bin .Add (.var 1) (.cst (.int 1)), .cst (.bl true)])] [],
    .ite (.tru (.cmp .Eq (.idx (.var 0) (.var 1)) (.cst (.str [44])))) [.ite (.and (.tru (.cmp .Lt (.bin .Add (.var 1) (.cst (.int 1))) (.prm .len [.var 0]))) (.tru (.cmp .NotEq (.idx (.var 0) (.bin .Add (.var 1) (.cst (.int 1)))) (.cst (.str [32]))))) [.raise 0 []] [],
    .ret (.tup [.prm .min [.bin .Add (.var 1) (.cst (.int 2)), .prm .len [.var 0]], .cst (.bl false)])] [],
    .raise 0 []]
def r_parse_paper : Rec := ⟨"parse_paper", topS 17, ["line", "waiting", "state", "value", "at", "ended"], ["line"]⟩
def b_parse_paper : List IS := [.asg (.name 1) (.lst []),
    .asg (.name 2) (.cst (.str [105, 116, 101, 109])),
    .asg (.name 3) (.cst .non),
    .asg (.name 4) (.cst (.int 0)),
    .whl (.tru (.cmp .Lt (.var 4) (.prm .len [.var 0]))) [.ite (.tru (.cmp .Eq (.var 2) (.cst (.str [100, 111, 110, 101])))) [.raise 0 []] [],
    .ite (.tru (.cmp .NotEq (.var 2) (.cst (.str [98, 101, 104, 105, 110, 100])))) [.ite (.tru (.cmp .Eq (.idx (.var 0) (.var 4)) (.cst (.str [40])))) [.exp (.mtd .append (.var 1) [.lst []]),
    .asg (.name 2) (.cst (.str [102, 105, 114, 115, 116])),
    .aug 4 .Add (.cst (.int 1))] [.ite (.and (.tru (.cmp .Eq (.var 2) (.cst (.str [102, 105, 114, 115, 116])))) (.tru (.cmp .Eq (.idx (.var 0) (.var 4)) (.cst (.str [41]))))) [.asg (.name 3) (.prm .tuple [.mtd .pop (.var 1) []]),
    .asg (.name 2) (.cst (.str [118, 97, 108, 117, 101])),
    .aug 4 .Add (.cst (.int 1))] [.ite (.not (.tru (.var 1))) [.raise 0 []] [.asg (.names [3, 4]) (.call 5 [.var 0, .var 4, .cmp .Eq (.var 2) (.cst (.str [102, 105, 114, 115, 116]))]),
    .asg (.name 2) (.cst (.str [118, 97, 108, 117, 101]))]]]] [.asg (.names [4, 5]) (.call 6 [.var 0, .var 4, .var 1]),
    .asg (.name 2) (.cst (.str [105, 116, 101, 109])),
    .ite (.tru (.var 5)) [.asg (.name 3) (.prm .tuple [.mtd .pop (.var 1) []]),
    .asg (.name 2) (.cst (.str [118, 97, 108, 117, 101]))] []],
    .ite (.tru (.cmp .Eq (.var 2) (.cst (.str [118, 97, 108, 117, 101])))) [.asg (.name 2) (.cst (.str [100, 111, 110, 101])),
    .ite (.tru (.var 1)) [.exp (.mtd .append (.idx (.var 1) (.neg (.cst (.int 1)))) [.var 3]),
    .asg (.name 2) (.cst (.str [98, 101, 104, 105, 110, 100]))] []] []],
    .ite (.tru (.cmp .NotEq (.var 2) (.cst (.str [100, 111, 110, 101])))) [.raise 0 []] [],
    .ret (.var 3)]
def r_frozen : Rec := ⟨"frozen", topS 19, ["value", "item"], ["value"]⟩
def b_frozen : List IS := [.ite (.tru (.prm .isi [.var 0, .tup [.cst (.ty "list"), .cst (.ty "tuple")]])) [.ret (.prm .tuple [.comp (.call 8 [.var 1]) (.name 1) (.seq (.var 0)) [] [1]])] [],
    .ret (.var 0)]
def r_holds_words : Rec := ⟨"holds_words", topS 21, ["paper", "index"], ["paper", "index"]⟩
def b_holds_words : List IS := [.ite (.tru (.cmp .Eq (.idx (.var 0) (.cst (.int 0))) (.cst (.str [112, 97, 105, 114])))) [.ret (.cmp .Eq (.var 1) (.cst (.int 3)))] [],
    .ret (.and (.cmp .Eq (.var 1) (.cst (.int 1))) (.or (.cmp .Eq (.idx (.var 0) (.cst (.int 0))) (.cst (.str [119, 97, 105, 116, 105, 110, 103]))) (.cmp .Eq (.idx (.var 0) (.cst (.int 0))) (.cst (.str [97, 103, 114, 101, 101, 100])))))]
def r_line_of : Rec := ⟨"line_of", topS 22, ["value", "worded", "items", "index", "item"], ["value", "worded"]⟩
def b_line_of : List IS := [.ite (.tru (.cmp .Is (.var 0) (.cst .non))) [.ret (.cst (.str [110, 111, 110, 101]))] [],
    .ite (.tru (.prm .isi [.var 0, .cst (.ty "str")])) [.ret (.bin .Add (.bin .Add (.cst (.str [39])) (.var 0)) (.cst (.str [39])))] [],
    .ite (.not (.tru (.prm .isi [.var 0, .cst (.ty "tuple")]))) [.ret (.prm .str [.var 0])] [],
    .asg (.name 2) (.lst []),
    .for_ (.names [3, 4]) (.enum (.var 0)) [.ite (.and (.tru (.var 1)) (.tru (.cmp .Eq (.var 3) (.cst (.int 0))))) [.exp (.mtd .append (.var 2) [.var 4])] [.exp (.mtd .append (.var 2) [.call 10 [.var 4, .and (.var 1) (.call 9 [.var 0, .var 3])]])]],
    .ret (.bin .Add (.bin .Add (.cst (.str [40])) (.mtd .join (.cst (.str [44, 32])) [.var 2])) (.cst (.str [41])))]
def r_format_paper : Rec := ⟨"format_paper", topS 23, ["paper"], ["paper"]⟩
def b_format_paper : List IS := [.ret (.call 10 [.call 8 [.var 0], .cst (.bl true)])]
def r__law_cell : Rec := ⟨"_law_cell", topS 25, ["script", "k", "seed", "cell"], ["script", "k"]⟩
def b__law_cell : List IS := [.ite (.tru (.cmp .Lt (.var 1) (.prm .len [.var 0]))) [.ret (.idx (.var 0) (.var 1))] [],
    .asg (.name 2) (.cst (.int 17)),
    .for_ (.name 3) (.seq (.var 0)) [.asg (.name 2) (.bin .Mod (.prm .int [.bin .Add (.bin .Mult (.var 2) (.cst (.int 31))) (.bin .Mod (.prm .int [.var 3]) (.cst (.int 1000003)))]) (.cst (.int 1000003)))],
    .ret (.bin .Mod (.prm .int [.bin .Mult (.bin .Mult (.bin .Add (.var 2) (.cst (.int 7))) (.bin .Add (.var 1) (.cst (.int 3)))) (.cst (.int 69621))]) (.cst (.int 2147483647)))]
def r__law_digits : Rec := ⟨"_law_digits", topS 26, ["cell", "sizes", "row", "rest", "seed", "k", "size", "twice"], ["cell", "sizes"]⟩
def b__law_digits : List IS := [.asg (.name 2) (.lst []),
    .asg (.name 3) (.prm .int [.var 0]),
    .ite (.tru (.cmp .GtE (.var 3) (.bin .Pow (.cst (.int 10)) (.cst (.int 18))))) [.asg (.name 3) (.bin .Sub (.var 3) (.bin .Pow (.cst (.int 10)) (.cst (.int 18)))),
    .for_ (.name 6) (.seq (.var 1)) [.exp (.mtd .append (.var 2) [.bin .Mod (.prm .int [.var 3]) (.var 6)]),
    .asg (.name 3) (.bin .FloorDiv (.prm .int [.var 3]) (.var 6))],
    .ret (.var 2)] [],
    .asg (.name 4) (.bin .Mod (.prm .int [.var 3]) (.cst (.int 2147483629))),
    .for_ (.name 5) (.rng1 (.prm .len [.var 1])) [.asg (.name 4) (.bin .Mod (.prm .int [.bin .Add (.bin .Add (.bin .Mult (.var 4) (.cst (.int 48271))) (.bin .Mult (.cst (.int 974711)) (.var 5))) (.cst (.int 12345))]) (.cst (.int 2147483647))),
    .asg (.name 7) (.bin .Mod (.prm .int [.bin .Mult (.var 4) (.bin .Add (.bin .FloorDiv (.var 4) (.cst (.int 65537))) (.cst (.int 3)))]) (.cst (.int 2147483629))),
    .exp (.mtd .append (.var 2) [.bin .Mod (.bin .FloorDiv (.var 7) (.cst (.int 19))) (.idx (.var 1) (.var 5))])],
    .ret (.var 2)]
def r__law_signs : Rec := ⟨"_law_signs", topS 27, [], []⟩
def b__law_signs : List IS := [.ret (.cst (.str [48, 49, 50, 51, 52, 53, 54, 55, 56, 57, 97, 98, 99, 111, 117, 35, 34, 110, 116, 113, 43, 45, 47, 126, 61, 60, 115, 114, 38, 63, 64, 33, 46]))]
def r__law_text_of : Rec := ⟨"_law_text_of", topS 28, ["number", "signs", "rest", "row", "k"], ["number"]⟩
def b__law_text_of : List IS := [.asg (.name 1) (.call 14 []),
    .asg (.name 2) (.var 0),
    .asg (.name 3) (.lst []),
    .for_ (.name 4) (.rng1 (.cst (.int 5901))) [.ite (.tru (.cmp .Eq (.var 2) (.cst (.int 0)))) [.ret (.mtd .join (.cst (.str [])) [.prm .lrev [.var 3]])] [],
    .exp (.mtd .append (.var 3) [.idx (.var 1) (.bin .Mod (.prm .int [.bin .Sub (.var 2) (.cst (.int 1))]) (.cst (.int 33)))]),
    .asg (.name 2) (.bin .FloorDiv (.bin .Sub (.var 2) (.cst (.int 1))) (.cst (.int 33)))],
    .ret (.cst .non)]
def r__law_quote : Rec := ⟨"_law_quote", topS 29, ["text"], ["text"]⟩
def b__law_quote : List IS := [.ret (.bin .Add (.bin .Add (.bin .Add (.cst (.str [34])) (.prm .str [.prm .len [.var 0]])) (.cst (.str [46]))) (.var 0))]
def r__law_literal : Rec := ⟨"_law_literal", topS 30, ["value", "text"], ["value"]⟩
def b__law_literal : List IS := [.ite (.tru (.prm .isi [.var 0, .cst (.ty "str")])) [.ret (.call 16 [.var 0])] [],
    .ite (.tru (.cmp .Lt (.var 0) (.cst (.int 10)))) [.ret (.prm .str [.var 0])] [],
    .ite (.tru (.cmp .Lt (.var 0) (.bin .Pow (.cst (.int 10)) (.cst (.int 18))))) [.ret (.bin .Add (.bin .Add (.cst (.str [35])) (.prm .str [.var 0])) (.cst (.str [46])))] [],
    .asg (.name 1) (.call 15 [.var 0]),
    .ite (.tru (.cmp .Is (.var 1) (.cst .non))) [.ret (.cst .non)] [],
    .ret (.bin .Add (.cst (.str [110])) (.call 16 [.var 1]))]
def r__law_row_number : Rec := ⟨"_law_row_number", topS 31, ["values", "number", "place", "value"], ["values"]⟩
def b__law_row_number : List IS := [.asg (.name 1) (.cst (.int 0)),
    .asg (.name 2) (.cst (.int 0)),
    .for_ (.name 3) (.seq (.var 0)) [.asg (.name 2) (.bin .Add (.var 2) (.var 3)),
    .asg (.name 1) (.bin .Add (.var 1) (.bin .LShift (.cst (.int 1)) (.var 2))),
    .asg (.name 2) (.bin .Add (.var 2) (.cst (.int 1)))],
    .ret (.var 1)]
def r__law_table : Rec := ⟨"_law_table", topS 32, ["values"], ["values"]⟩
def b__law_table : List IS := [.ret (.bin .Add (.bin .Add (.cst (.str [114])) (.call 17 [.call 18 [.var 0]])) (.cst (.str [97])))]
def r__law_part : Rec := ⟨"_law_part", topS 33, ["pairs", "pair"], ["pairs"]⟩
def b__law_part : List IS := [.ret (.bin .Add (.mtd .join (.cst (.str [])) [.comp (.bin .Add (.bin .Add (.cst (.str [63, 61, 97])) (.call 17 [.idx (.var 1) (.cst (.int 0))])) (.call 17 [.idx (.var 1) (.cst (.int 1))])) (.name 1) (.seq (.var 0)) [] [1]]) (.cst (.str [117])))]
def r__law_put_in : Rec := ⟨"_law_put_in", topS 34, ["text", "value"], ["text", "value"]⟩
def b__law_put_in : List IS := [.ret (.bin .Add (.bin .Add (.bin .Add (.cst (.str [64])) (.call 16 [.var 0])) (.call 17 [.var 1])) (.cst (.str [97, 98])))]
def r__law_padded : Rec := ⟨"_law_padded", topS 35, ["text", "number"], ["text", "number"]⟩
def b__law_padded : List IS := [.ret (.bin .Add (.bin .Add (.bin .Add (.cst (.str [63, 49, 64])) (.call 16 [.var 0])) (.cst (.str [97, 48, 48]))) (.call 17 [.var 1]))]
def r__law_slowed : Rec := ⟨"_law_slowed", topS 36, ["text", "number"], ["text", "number"]⟩
def b__law_slowed : List IS := [.ret (.bin .Add (.bin .Add (.bin .Add (.bin .Add (.cst (.str [64])) (.call 16 [.bin .Add (.bin .Add (.cst (.str [63, 98, 64, 111, 97, 45, 98, 49, 48, 64])) (.call 16 [.var 0])) (.cst (.str [97, 48, 48]))])) (.cst (.str [97]))) (.call 17 [.var 1])) (.cst (.str [48])))]
def r__law_steady : Rec := ⟨"_law_steady", topS 37, ["row", "count", "values", "table", "kind", "k"], ["row"]⟩
def b__law_steady : List IS := [.asg (.name 1) (.idx (.var 0) (.cst (.int 1))),
    .asg (.name 2) (.comp (.idx (.var 0) (.bin .Add (.cst (.int 2)) (.var 5))) (.name 5) (.rng1 (.var 1)) [] [5]),
    .ite (.and (.tru (.cmp .Eq (.idx (.var 0) (.cst (.int 8))) (.cst (.int 5)))) (.tru (.cmp .Gt (.var 1) (.cst (.int 0))))) [.asg (.sub (.var 2) (.neg (.cst (.int 1)))) (.bin .Add (.idx (.var 2) (.neg (.cst (.int 1)))) (.cst (.int 31)))] [],
    .asg (.name 3) (.call 19 [.var 2]),
    .asg (.name 4) (.idx (.var 0) (.cst (.int 0))),
    .ite (.tru (.cmp .Lt (.var 4) (.cst (.int 4)))) [.ret (.var 3)] [],
    .ite (.tru (.cmp .Eq (.var 4) (.cst (.int 4)))) [.ret (.call 22 [.var 3, .idx (.var 0) (.cst (.int 7))])] [],
    .ite (.tru (.cmp .Eq (.var 4) (.cst (.int 5)))) [.ret (.call 23 [.var 3, .idx (.var 0) (.cst (.int 8))])] [],
    .ite (.tru (.cmp .Eq (.var 4) (.cst (.int 6)))) [.ret (.bin .Add (.idx (.lst [.cst (.str [43, 97]), .cst (.str [45, 97]), .cst (.str [126, 97]), .cst (.str [47, 97]), .cst (.str [61, 97]), .cst (.str [60, 97])]) (.idx (.var 0) (.cst (.int 8)))) (.prm .str [.idx (.var 0) (.cst (.int 2))]))] [],
    .ite (.tru (.cmp .Eq (.var 4) (.cst (.int 7)))) [.ret (.bin .Add (.bin .Add (.cst (.str [64])) (.call 16 [.bin .Add (.bin .Add (.cst (.str [63, 97, 64, 111, 45, 97, 49, 43, 98])) (.prm .str [.idx (.var 0) (.cst (.int 2))])) (.cst (.str [48, 98]))])) (.cst (.str [97, 48, 48])))] [],
    .ite (.tru (.cmp .Eq (.var 4) (.cst (.int 8)))) [.ret (.bin .Add (.bin .Add (.bin .Add (.cst (.str [63, 61, 97])) (.prm .str [.idx (.var 0) (.cst (.int 7))])) (.prm .str [.idx (.var 0) (.cst (.int 2))])) (.var 3))] [],
    .ite (.tru (.cmp .Eq (.var 4) (.cst (.int 9)))) [.ret (.bin .Add (.bin .Add (.bin .Add (.cst (.str [63, 60, 97])) (.prm .str [.idx (.var 0) (.cst (.int 8))])) (.cst (.str [64, 111, 43, 97, 49, 48, 48]))) (.var 3))] [],
    .ite (.tru (.cmp .Eq (.var 4) (.cst (.int 10)))) [.ret (.call 21 [.cst (.str [43, 97, 98]), .idx (.var 0) (.cst (.int 7))])] [],
    .ret (.prm .str [.idx (.var 0) (.cst (.int 2))])]
def r__law_any_text : Rec := ⟨"_law_any_text", topS 38, ["row", "kind", "values", "pairs", "k"], ["row"]⟩
def b__law_any_text : List IS := [.asg (.name 1) (.idx (.var 0) (.cst (.int 0))),
    .ite (.tru (.cmp .Lt (.var 1) (.cst (.int 8)))) [.ret (.call 24 [.bin .Add (.lst [.idx (.lst [.cst (.int 0), .cst (.int 5), .cst (.int 6), .cst (.int 7), .cst (.int 9), .cst (.int 4), .cst (.int 1), .cst (.int 8)]) (.var 1)]) (.slc (.var 0) (some (.cst (.int 1))) none)])] [],
    .asg (.name 2) (.comp (.idx (.var 0) (.bin .Add (.cst (.int 2)) (.var 4))) (.name 4) (.rng1 (.idx (.var 0) (.cst (.int 1)))) [] [4]),
    .ite (.tru (.cmp .Lt (.var 1) (.cst (.int 11)))) [.asg (.name 3) (.comp (.lst [.bin .Add (.var 4) (.prm .int [.cmp .GtE (.var 4) (.idx (.var 0) (.cst (.int 8)))]), .idx (.var 2) (.var 4)]) (.name 4) (.rng1 (.prm .len [.var 2])) [] [4]),
    .ret (.call 20 [.var 3])] [],
    .ite (.tru (.cmp .Eq (.var 1) (.cst (.int 11)))) [.ret (.bin .Add (.bin .Add (.bin .Add (.cst (.str [63, 60, 97])) (.prm .str [.idx (.var 0) (.cst (.int 7))])) (.call 19 [.var 2])) (.cst (.str [117])))] [],
    .ite (.tru (.cmp .Eq (.var 1) (.cst (.int 12)))) [.ret (.bin .Add (.bin .Add (.bin .Add (.cst (.str [63, 61, 97])) (.prm .str [.idx (.var 0) (.cst (.int 8))])) (.cst (.str [64, 111, 97, 48, 48]))) (.call 19 [.var 2]))] [],
    .ite (.tru (.cmp .Eq (.var 1) (.cst (.int 13)))) [.ret (.idx (.lst [.cst (.str [111]), .cst (.str [34, 51, 46, 43, 97, 49]), .cst (.str [63, 97, 34, 50, 46, 126, 97, 111]), .cst (.str [117]), .cst (.str [64, 111, 97, 48, 48]), .cst (.str [113, 43, 97, 50])]) (.idx (.var 0) (.cst (.int 8))))] [],
    .ite (.tru (.cmp .Eq (.var 1) (.cst (.int 14)))) [.ret (.bin .Add (.bin .Add (.bin .Add (.bin .Add (.cst (.str [63, 126, 97, 50])) (.prm .str [.idx (.var 0) (.cst (.int 2))])) (.cst (.str [64]))) (.call 16 [.call 19 [.var 2]])) (.cst (.str [47, 97, 50, 48, 48])))] [],
    .ret (.idx (.lst [.cst (.str []), .cst (.str [43, 97]), .cst (.str [46]), .cst (.str [48, 48]), .cst (.str [35, 48, 55, 46]), .cst (.str [64, 111, 97, 48])]) (.idx (.var 0) (.cst (.int 8))))]
def r__law_expression : Rec := ⟨"_law_expression", topS 39, ["row", "atoms", "words", "need", "told", "k", "word"], ["row"]⟩
def b__law_expression : List IS := [.asg (.name 1) (.lst [.cst (.str [97]), .cst (.str [98]), .cst (.str [48]), .cst (.str [49]), .cst (.str [50]), .cst (.str [97]), .cst (.str [98]), .cst (.str [51]), .cst (.str [111]), .cst (.str [34, 50, 46, 126, 97]), .cst (.str [99]), .cst (.str [35, 49, 50, 46])]),
    .asg (.name 2) (.lst [.cst (.str [64, 97]), .cst (.str [64, 97]), .cst (.str [64, 97]), .cst (.str [43]), .cst (.str [45]), .cst (.str [126]), .cst (.str [60]), .cst (.str [61]), .cst (.str [63]), .cst (.str [63]), .cst (.str [115]), .cst (.str [38]), .cst (.str [110]), .cst (.str [113]), .cst (.str [116]), .cst (.str [114]), .cst (.str [47]), .cst (.str [33, 97]), .cst (.str [33, 97]), .cst (.str [64, 97]), .cst (.str [64, 97]), .cst (.str [43]), .cst (.str [63]), .cst (.str [61]), .cst (.str [126]), .cst (.str [110])]),
    .asg (.name 3) (.cst (.int 1)),
    .asg (.name 4) (.cst (.str [])),
    .for_ (.name 5) (.rng1 (.prm .len [.var 0])) [.ite (.tru (.cmp .Eq (.var 3) (.cst (.int 0)))) [.brk] [],
    .ite (.or (.tru (.cmp .Lt (.idx (.var 0) (.var 5)) (.cst (.int 12)))) (.tru (.cmp .GtE (.bin .Add (.var 5) (.var 3)) (.prm .len [.var 0])))) [.asg (.name 4) (.bin .Add (.var 4) (.idx (.var 1) (.bin .Mod (.prm .int [.idx (.var 0) (.var 5)]) (.cst (.int 12))))),
    .asg (.name 3) (.bin .Sub (.var 3) (.cst (.int 1)))] [.asg (.name 6) (.idx (.var 2) (.bin .Sub (.idx (.var 0) (.var 5)) (.cst (.int 12)))),
    .asg (.name 4) (.bin .Add (.var 4) (.var 6)),
    .asg (.name 3) (.bin .Add (.bin .Add (.bin .Sub (.var 3) (.cst (.int 1))) (.idx (.lst [.idx (.lst [.cst (.int 2), .cst (.int 1)]) (.prm .int [.cmp .In (.var 6) (.cst (.str [110, 116, 113]))]), .cst (.int 3)]) (.prm .int [.cmp .In (.var 6) (.cst (.str [63, 64, 97, 33, 97]))]))) (.prm .int [.cmp .Eq (.var 6) (.cst (.str [33, 97]))]))]],
    .ret (.bin .Add (.var 4) (.bin .Mult (.cst (.str [48])) (.var 3)))]
def r__law_asker : Rec := ⟨"_law_asker", topS 40, ["kind", "total", "count", "first", "askers"], ["kind"]⟩
def b__law_asker : List IS := [.asg (.name 1) (.bin .Add (.bin .Add (.cst (.str [64])) (.call 16 [.cst (.str [63, 97, 64, 111, 45, 97, 49, 98, 43, 99, 64, 98, 45, 97, 49, 48, 48, 99])])) (.cst (.str [98, 97, 48]))),
    .asg (.name 2) (.bin .Add (.bin .Add (.cst (.str [64])) (.call 16 [.cst (.str [63, 97, 64, 111, 45, 97, 49, 98, 43, 99, 60, 48, 64, 98, 45, 97, 49, 48, 48, 99])])) (.cst (.str [98, 97, 48]))),
    .asg (.name 3) (.bin .Add (.bin .Add (.cst (.str [64])) (.call 16 [.cst (.str [63, 61, 64, 98, 97, 48, 48, 48, 97, 64, 111, 43, 97, 49, 98, 48])])) (.cst (.str [98, 97, 48]))),
    .asg (.name 4) (.lst [.cst (.str [126, 64, 97, 98, 48, 48, 50]), .cst (.str [64, 97, 98, 48, 48]), .cst (.str [43, 64, 97, 48, 48, 48, 64, 97, 98, 48, 48]), .cst (.str [61, 64, 97, 48, 48, 48, 64, 97, 98, 48, 48]), .cst (.str [60, 64, 97, 48, 48, 48, 64, 97, 98, 48, 48]), .cst (.str [63, 60, 64, 97, 48, 48, 48, 64, 97, 98, 48, 48, 64, 97, 98, 48, 48, 64, 97, 48, 48, 48])]),
    .asg (.name 4) (.bin .Add (.var 4) (.lst [.cst (.str [64, 97, 43, 48, 64, 97, 98, 48, 48, 48, 48]), .var 1, .var 2, .var 3, .cst (.str [55])])),
    .ret (.idx (.var 4) (.var 0))]
def r__law_looker : Rec := ⟨"_law_looker", topS 41, ["kind", "pace"], ["kind"]⟩
def b__law_looker : List IS := [.asg (.name 1) (.bin .Add (.bin .Add (.cst (.str [64])) (.call 16 [.cst (.str [63, 33, 98, 99, 48, 48, 97, 97, 64, 111, 43, 97, 49, 98, 99])])) (.cst (.str [48, 97, 98]))),
    .ret (.idx (.lst [.cst (.str [126, 97, 50]), .cst (.str [60, 97, 35, 52, 48, 46]), .cst (.str [115, 97, 98]), .cst (.str [126, 110, 97, 51]), .cst (.str [61, 97, 111]), .var 1, .cst (.str [33, 97, 48, 48, 48, 98]), .cst (.str [63, 60, 97, 35, 54, 48, 46, 64, 97, 48, 48, 48, 64, 97, 49, 48, 48])]) (.var 0))]
def r__law_reader : Rec := ⟨"_law_reader", topS 42, ["row", "text", "sign"], ["row"]⟩
def b__law_reader : List IS := [.ite (.tru (.cmp .Lt (.idx (.var 0) (.cst (.int 0))) (.cst (.int 10)))) [.ret (.lst [.call 27 [.idx (.var 0) (.cst (.int 0))], .idx (.var 0) (.cst (.int 1))])] [],
    .ite (.tru (.cmp .Lt (.idx (.var 0) (.cst (.int 0))) (.cst (.int 18)))) [.ret (.lst [.call 28 [.bin .Sub (.idx (.var 0) (.cst (.int 0))) (.cst (.int 10))], .idx (.var 0) (.cst (.int 1))])] [],
    .asg (.name 1) (.call 26 [.slc (.var 0) (some (.cst (.int 2))) none]),
    .ite (.tru (.cmp .Gt (.prm .len [.comp (.var 2) (.name 2) (.seq (.var 1)) [.tru (.cmp .In (.var 2) (.cst (.str [110, 116, 113, 115, 114, 38])))] [2]]) (.cst (.int 2)))) [.asg (.name 1) (.bin .Add (.bin .Add (.cst (.str [63, 126, 64, 97, 98, 48, 48, 50])) (.call 28 [.bin .Mod (.prm .int [.idx (.var 0) (.cst (.int 2))]) (.cst (.int 8))])) (.cst (.str [64, 97, 48, 48, 48])))] [],
    .ret (.lst [.var 1, .idx (.var 0) (.cst (.int 1))])]
def r__law_is : Rec := ⟨"_law_is", topS 43, ["shown", "due", "waiting", "turn", "pair", "k"], ["shown", "due"]⟩
def b__law_is : List IS := [.asg (.name 2) (.lst [.lst [.var 0, .var 1]]),
    .for_ (.name 3) (.rng1 (.cst (.int 1000000))) [.ite (.tru (.cmp .Eq (.prm .len [.var 2]) (.cst (.int 0)))) [.ret (.cst (.bl true))] [],
    .asg (.name 4) (.mtd .pop (.var 2) []),
    .ite (.tru (.prm .isi [.idx (.var 4) (.cst (.int 1)), .cst (.ty "tuple")])) [.ite (.or (.not (.tru (.prm .isi [.idx (.var 4) (.cst (.int 0)), .cst (.ty "tuple")]))) (.tru (.cmp .NotEq (.prm .len [.idx (.var 4) (.cst (.int 0))]) (.prm .len [.idx (.var 4) (.cst (.int 1))])))) [.ret (.cst (.bl false))] [],
    .for_ (.name 5) (.rng1 (.prm .len [.idx (.var 4) (.cst (.int 1))])) [.exp (.mtd .append (.var 2) [.lst [.idx (.idx (.var 4) (.cst (.int 0))) (.var 5), .idx (.idx (.var 4) (.cst (.int 1))) (.var 5)]])]] [.ite (.tru (.cmp .Is (.idx (.var 4) (.cst (.int 1))) (.cst .non))) [.ite (.tru (.cmp .IsNot (.idx (.var 4) (.cst (.int 0))) (.cst .non))) [.ret (.cst (.bl false))] []] [.ite (.tru (.prm .isi [.idx (.var 4) (.cst (.int 1)), .cst (.ty "str")])) [.ite (.or (.not (.tru (.prm .isi [.idx (.var 4) (.cst (.int 0)), .cst (.ty "str")]))) (.tru (.cmp .NotEq (.idx (.var 4) (.cst (.int 0))) (.idx (.var 4) (.cst (.int 1)))))) [.ret (.cst (.bl false))] []] [.ite (.or (.not (.tru (.prm .isi [.idx (.var 4) (.cst (.int 0)), .cst (.ty "int")]))) (.or (.tru (.cmp .NotEq (.prm .isi [.idx (.var 4) (.cst (.int 0)), .cst (.ty "bool")]) (.prm .isi [.idx (.var 4) (.cst (.int 1)), .cst (.ty "bool")]))) (.tru (.cmp .NotEq (.idx (.var 4) (.cst (.int 0))) (.idx (.var 4) (.cst (.int 1))))))) [.ret (.cst (.bl false))] []]]]],
    .ret (.cst (.bl false))]
def r__law_line : Rec := ⟨"_law_line", topS 44, ["value", "words", "items", "k", "inner"], ["value", "words"]⟩
def b__law_line : List IS := [.ite (.tru (.cmp .Is (.var 0) (.cst .non))) [.ret (.cst (.str [110, 111, 110, 101]))] [],
    .ite (.tru (.prm .isi [.var 0, .cst (.ty "str")])) [.ret (.bin .Add (.bin .Add (.cst (.str [39])) (.var 0)) (.cst (.str [39])))] [],
    .ite (.tru (.prm .isi [.var 0, .cst (.ty "int")])) [.ret (.prm .str [.var 0])] [],
    .asg (.name 2) (.lst []),
    .for_ (.name 3) (.rng1 (.prm .len [.var 0])) [.ite (.and (.tru (.var 1)) (.tru (.cmp .Eq (.var 3) (.cst (.int 0))))) [.exp (.mtd .append (.var 2) [.idx (.var 0) (.cst (.int 0))])] [.asg (.name 4) (.and (.var 1) (.or (.and (.cmp .Eq (.idx (.var 0) (.cst (.int 0))) (.cst (.str [112, 97, 105, 114]))) (.cmp .Eq (.var 3) (.cst (.int 3)))) (.and (.cmp .In (.idx (.var 0) (.cst (.int 0))) (.lst [.cst (.str [119, 97, 105, 116, 105, 110, 103]), .cst (.str [97, 103, 114, 101, 101, 100])])) (.cmp .Eq (.var 3) (.cst (.int 1)))))),
    .exp (.mtd .append (.var 2) [.call 31 [.idx (.var 0) (.var 3), .var 4]])]],
    .ret (.bin .Add (.bin .Add (.cst (.str [40])) (.mtd .join (.cst (.str [44, 32])) [.var 2])) (.cst (.str [41])))]
def r__law_reason : Rec := ⟨"_law_reason", topS 45, ["kind", "text", "other", "number", "table", "reasons"], ["kind", "text", "other", "number", "table"]⟩
def b__law_reason : List IS := [.asg (.name 5) (.lst [.tup [.cst (.str [99, 117, 116])], .tup [.cst (.str [115, 116, 97, 121, 115]), .var 4, .var 1], .tup [.cst (.str [103, 114, 111, 119, 115]), .var 4], .tup [.cst (.str [116, 117, 114, 110, 101, 100]), .var 2], .tup [.cst (.str [102, 111, 117, 110, 100]), .var 1, .var 2, .var 3, .cst (.int 2)]]),
    .asg (.name 5) (.bin .Add (.var 5) (.lst [.tup [.cst (.str [97, 104, 101, 97, 100]), .var 1, .var 2, .cst (.int 3), .var 3], .tup [.cst (.str [115, 119, 105, 116, 99, 104, 101, 100]), .var 1], .tup [.cst (.str [114, 101, 97, 99, 104, 101, 100]), .var 2, .var 3], .tup [.cst (.str [112, 97, 100, 100, 101, 100]), .var 3]])),
    .ret (.idx (.bin .Add (.var 5) (.lst [.tup [.cst (.str [115, 108, 111, 119, 101, 100]), .var 3], .tup [.cst (.str [99, 111, 110, 116, 114, 97, 114, 121]), .var 1], .tup [.cst (.str [115, 116, 117, 98, 98, 111, 114, 110]), .var 2]])) (.var 0))]
def r__law_paper : Rec := ⟨"_law_paper", topS 46, ["kind", "reader", "z", "text", "other", "value", "number", "table", "reason", "pair", "part", "papers"], ["kind", "reader", "z", "text", "other", "value", "number", "table", "reason"]⟩
def b__law_paper : List IS := [.asg (.name 9) (.tup [.cst (.str [112, 97, 105, 114]), .var 1, .var 2, .var 8, .var 3, .var 4, .var 5, .var 6]),
    .asg (.name 10) (.tup [.cst (.str [112, 97, 114, 116]), .var 1, .var 2, .var 3, .var 5, .var 4, .var 6]),
    .asg (.name 11) (.lst [.var 9, .var 10, .tup [.cst (.str [111, 112, 101, 110]), .var 1, .var 2, .var 3], .tup [.cst (.str [108, 97, 99, 107, 115]), .var 7, .var 3, .var 6], .tup [.cst (.str [103, 114, 111, 119, 110]), .var 1, .var 2, .var 7, .var 3, .var 5]]),
    .asg (.name 11) (.bin .Add (.var 11) (.lst [.tup [.cst (.str [119, 97, 105, 116, 105, 110, 103]), .var 10, .var 6], .tup [.cst (.str [97, 103, 114, 101, 101, 100]), .var 10, .var 6, .cst (.int 2)], .tup [.cst (.str [119, 97, 105, 116, 105, 110, 103]), .var 9, .cst (.int 0)], .tup [.cst (.str [97, 108, 105, 107, 101]), .var 1, .var 2, .var 3, .var 4, .var 5]])),
    .asg (.name 11) (.bin .Add (.var 11) (.lst [.tup [.cst (.str [115, 116, 101, 97, 100, 102, 97, 115, 116]), .var 1, .var 2, .var 3, .var 5, .var 6], .tup [.cst (.str [109, 111, 100, 117, 108, 117, 115]), .var 1, .var 2, .var 3, .var 4, .var 5, .var 3, .var 6, .cst (.int 3)]])),
    .asg (.name 11) (.bin .Add (.var 11) (.lst [.tup [.cst (.str [100, 105, 102, 102, 101, 114]), .var 1, .var 2, .var 3, .var 4, .var 6, .cst (.int 9)], .tup [.cst (.str [97, 112, 97, 114, 116]), .var 1, .var 2, .var 3, .var 4, .var 6, .cst (.int 7), .cst (.int 8)]])),
    .asg (.name 11) (.bin .Add (.var 11) (.lst [.tup [.cst (.str [108, 105, 115, 116, 101, 100]), .var 1, .var 2, .tup [.var 3, .var 4, .cst (.str [])], .cst (.int 1), .var 6, .tup [.cst (.int 0), .cst (.int 2)], .cst (.int 5)], .tup [.cst (.str [117, 110, 104, 101, 97, 114, 100]), .var 1, .var 2, .tup [.var 3], .cst (.int 0), .tup [], .var 6]])),
    .asg (.name 11) (.bin .Add (.var 11) (.lst [.tup [.cst (.str [113, 117, 105, 101, 116]), .var 1, .var 2, .var 6], .tup [.cst (.str [98, 101, 97, 116, 101, 110]), .var 1, .var 2, .var 4, .var 6, .cst (.int 2), .cst (.int 1), .var 3, .cst (.int 4)], .tup [.cst (.str [109, 111, 100, 101, 115, 116]), .var 1, .var 2, .var 3, .var 6, .cst (.int 3)]])),
    .asg (.name 11) (.bin .Add (.var 11) (.lst [.tup [.cst (.str [115, 104, 111, 114, 116, 101, 114]), .var 1, .var 2, .var 4, .var 6, .cst (.int 0), .var 3, .var 6, .var 4], .tup [.cst (.str [116, 111, 103, 101, 116, 104, 101, 114]), .var 1, .var 2, .var 3, .var 4, .var 5, .var 6, .cst (.int 0)]])),
    .asg (.name 11) (.bin .Add (.var 11) (.lst [.tup [.cst (.str [114, 111, 117, 110, 100]), .var 1, .var 2, .var 6, .var 3, .var 5, .cst (.int 3)], .tup [.cst (.str [108, 101, 100]), .var 1, .var 2, .var 3, .var 5, .var 4, .var 6], .tup [.cst (.str [108, 101, 97, 115, 116]), .var 1, .var 2, .var 3, .var 5, .var 7]])),
    .ret (.idx (.bin .Add (.var 11) (.lst [.tup [.cst (.str [108, 105, 115, 116, 101, 100]), .cst .non, .neg (.var 6), .tup [.tup [], .tup [.var 7, .tup []]], .cst (.int 0)]])) (.var 0))]
def r__law_thawed : Rec := ⟨"_law_thawed", topS 47, ["value", "item"], ["value"]⟩
def b__law_thawed : List IS := [.ite (.tru (.prm .isi [.var 0, .cst (.ty "tuple")])) [.ret (.comp (.call 34 [.var 1]) (.name 1) (.seq (.var 0)) [] [1])] [],
    .ret (.var 0)]
def r_law : Rec := ⟨"law", topS 48, ["script", "row", "reader", "text", "signs", "other", "number", "question", "value", "table", "kind", "reason", "paper", "line", "k"], ["script"]⟩
def b_law : List IS := [.asg (.name 1) (.call 13 [.call 12 [.var 0, .cst (.int 0)], .lst [.cst (.int 24), .cst (.int 12), .bin .Pow (.cst (.int 10)) (.cst (.int 6)), .cst (.int 4), .bin .Pow (.cst (.int 10)) (.cst (.int 9)), .cst (.int 24)]]),
    .asg (.name 2) (.call 29 [.call 13 [.call 12 [.var 0, .cst (.int 1)], .bin .Add (.lst [.cst (.int 24), .cst (.int 6)]) (.bin .Mult (.lst [.cst (.int 38)]) (.cst (.int 14)))]]),
    .asg (.name 3) (.call 25 [.call 13 [.call 12 [.var 0, .cst (.int 2)], .bin .Add (.bin .Add (.lst [.cst (.int 16), .cst (.int 7)]) (.bin .Mult (.lst [.cst (.int 10)]) (.cst (.int 6)))) (.lst [.cst (.int 6)])]]),
    .asg (.name 4) (.call 13 [.call 12 [.var 0, .cst (.int 3)], .bin .Mult (.lst [.cst (.int 33)]) (.cst (.int 20))]),
    .asg (.name 5) (.mtd .join (.cst (.str [])) [.comp (.idx (.call 14 []) (.var 14)) (.name 14) (.seq (.var 4)) [] [14]]),
    .asg (.name 6) (.idx (.lst [.idx (.var 1) (.cst (.int 2)), .bin .Mult (.idx (.var 1) (.cst (.int 2))) (.idx (.var 1) (.cst (.int 4))), .bin .Add (.bin .Pow (.cst (.int 10)) (.cst (.int 17))) (.idx (.var 1) (.cst (.int 2))), .cst (.int 3)]) (.idx (.var 1) (.cst (.int 3)))),
    .asg (.name 7) (.idx (.lst [.idx (.var 2) (.cst (.int 1)), .var 5, .var 6, .cst (.str [])]) (.idx (.var 1) (.cst (.int 3)))),
    .asg (.name 8) (.idx (.lst [.var 6, .var 3, .cst (.int 0), .cst (.str [117])]) (.bin .Mod (.prm .int [.idx (.var 1) (.cst (.int 2))]) (.cst (.int 4)))),
    .asg (.name 9) (.slc (.tup [.tup [.cst (.int 0), .cst (.int 5)], .tup [.cst (.int 2), .var 3], .tup [.var 6, .var 5]]) none (some (.bin .Mod (.prm .int [.idx (.var 1) (.cst (.int 2))]) (.cst (.int 4))))),
    .for_ (.name 10) (.seq (.lst [.idx (.var 1) (.cst (.int 0)), .idx (.var 1) (.cst (.int 5)), .cst (.int 0), .cst (.int 5), .cst (.int 6)])) [.asg (.name 11) (.call 32 [.idx (.var 1) (.cst (.int 1)), .var 3, .var 5, .var 6, .var 9]),
    .asg (.name 12) (.call 33 [.var 10, .idx (.var 2) (.cst (.int 0)), .var 7, .var 3, .var 5, .var 8, .var 6, .var 9, .var 11]),
    .asg (.name 13) (.call 31 [.var 12, .cst (.bl true)]),
    .ite (.or (.not (.tru (.call 30 [.call 11 [.var 12], .var 13]))) (.not (.tru (.call 30 [.call 7 [.var 13], .var 12])))) [.ret (.cst (.bl false))] [],
    .ite (.not (.tru (.call 30 [.call 11 [.call 34 [.var 12]], .var 13]))) [.ret (.cst (.bl false))] []],
    .ret (.cst (.bl true))]
def recs : List Rec := [r_first_odd, r_digits_end, r_letters_end, r_number_piece, r_text_piece, r_item_piece, r_behind_item, r_parse_paper, r_frozen, r_holds_words, r_line_of, r_format_paper, r__law_cell, r__law_digits, r__law_signs, r__law_text_of, r__law_quote, r__law_literal, r__law_row_number, r__law_table, r__law_part, r__law_put_in, r__law_padded, r__law_slowed, r__law_steady, r__law_any_text, r__law_expression, r__law_asker, r__law_looker, r__law_reader, r__law_is, r__law_line, r__law_reason, r__law_paper, r__law_thawed, r_law]
def bodies : List (List IS) := [b_first_odd, b_digits_end, b_letters_end, b_number_piece, b_text_piece, b_item_piece, b_behind_item, b_parse_paper, b_frozen, b_holds_words, b_line_of, b_format_paper, b__law_cell, b__law_digits, b__law_signs, b__law_text_of, b__law_quote, b__law_literal, b__law_row_number, b__law_table, b__law_part, b__law_put_in, b__law_padded, b__law_slowed, b__law_steady, b__law_any_text, b__law_expression, b__law_asker, b__law_looker, b__law_reader, b__law_is, b__law_line, b__law_reason, b__law_paper, b__law_thawed, b_law]
def kst : List (Str × PV) := [("SIGNS", .str [48, 49, 50, 51, 52, 53, 54, 55, 56, 57, 97, 98, 99, 111, 117, 35, 34, 110, 116, 113, 43, 45, 47, 126, 61, 60, 115, 114, 38, 63, 64, 33, 46]), ("DIGITS", .str [48, 49, 50, 51, 52, 53, 54, 55, 56, 57]), ("LETTERS", .str [97, 98, 99, 100, 101, 102, 103, 104, 105, 106, 107, 108, 109, 110, 111, 112, 113, 114, 115, 116, 117, 118, 119, 120, 121, 122])]
def blt : List Str := ["len", "isinstance", "int", "range", "tuple", "list", "min", "reversed", "enumerate", "bool", "str"]
def penv : PEnv := pEnv recs kst blt
theorem c_first_odd : compD penv r_first_odd = some b_first_odd := by kernel_rfl
theorem c_digits_end : compD penv r_digits_end = some b_digits_end := by kernel_rfl
theorem c_letters_end : compD penv r_letters_end = some b_letters_end := by kernel_rfl
theorem c_number_piece : compD penv r_number_piece = some b_number_piece := by kernel_rfl
theorem c_text_piece : compD penv r_text_piece = some b_text_piece := by kernel_rfl
theorem c_item_piece : compD penv r_item_piece = some b_item_piece := by kernel_rfl
theorem c_behind_item : compD penv r_behind_item = some b_behind_item := by kernel_rfl
theorem c_parse_paper : compD penv r_parse_paper = some b_parse_paper := by kernel_rfl
theorem c_frozen : compD penv r_frozen = some b_frozen := by kernel_rfl
theorem c_holds_words : compD penv r_holds_words = some b_holds_words := by kernel_rfl
theorem c_line_of : compD penv r_line_of = some b_line_of := by kernel_rfl
theorem c_format_paper : compD penv r_format_paper = some b_format_paper := by kernel_rfl
theorem c__law_cell : compD penv r__law_cell = some b__law_cell := by kernel_rfl
theorem c__law_digits : compD penv r__law_digits = some b__law_digits := by kernel_rfl
theorem c__law_signs : compD penv r__law_signs = some b__law_signs := by kernel_rfl
theorem c__law_text_of : compD penv r__law_text_of = some b__law_text_of := by kernel_rfl
theorem c__law_quote : compD penv r__law_quote = some b__law_quote := by kernel_rfl
theorem c__law_literal : compD penv r__law_literal = some b__law_literal := by kernel_rfl
theorem c__law_row_number : compD penv r__law_row_number = some b__law_row_number := by kernel_rfl
theorem c__law_table : compD penv r__law_table = some b__law_table := by kernel_rfl
theorem c__law_part : compD penv r__law_part = some b__law_part := by kernel_rfl
theorem c__law_put_in : compD penv r__law_put_in = some b__law_put_in := by kernel_rfl
theorem c__law_padded : compD penv r__law_padded = some b__law_padded := by kernel_rfl
theorem c__law_slowed : compD penv r__law_slowed = some b__law_slowed := by kernel_rfl
theorem c__law_steady : compD penv r__law_steady = some b__law_steady := by kernel_rfl
theorem c__law_any_text : compD penv r__law_any_text = some b__law_any_text := by kernel_rfl
theorem c__law_expression : compD penv r__law_expression = some b__law_expression := by kernel_rfl
theorem c__law_asker : compD penv r__law_asker = some b__law_asker := by kernel_rfl
theorem c__law_looker : compD penv r__law_looker = some b__law_looker := by kernel_rfl
theorem c__law_reader : compD penv r__law_reader = some b__law_reader := by kernel_rfl
theorem c__law_is : compD penv r__law_is = some b__law_is := by kernel_rfl
theorem c__law_line : compD penv r__law_line = some b__law_line := by kernel_rfl
theorem c__law_reason : compD penv r__law_reason = some b__law_reason := by kernel_rfl
theorem c__law_paper : compD penv r__law_paper = some b__law_paper := by kernel_rfl
theorem c__law_thawed : compD penv r__law_thawed = some b__law_thawed := by kernel_rfl
theorem c_law : compD penv r_law = some b_law := by kernel_rfl
theorem sc_all : recs.all scB = true := by decide +kernel
end K90
set_option Elab.async false
set_option linter.all false
set_option maxRecDepth 100000
set_option maxHeartbeats 4000000
namespace K90
open PySem PySem.Spec PyProof.Rows Fw L2
def G0 : Pg := ⟨[], fun _ _ => none, fun _ => none, fun _ _ => false⟩
abbrev S (k : Nat) : CSem := semF G0 (prgOf recs bodies) k
abbrev Sp (k : Nat) : CSem := semP G0 (prgOf recs bodies) k
theorem e_first_odd {k : Nat} {a0 : PV} {h : PH} {Q : PV → PH → Prop} {E : PX → PH → Prop} (w : wpSs G0 (S k) (Sp k) (fun x _ => E x) b_first_odd { nx := fun _ h' => Q .non h', rt := Q } [some a0, none, none] h) : S (k + 1) 0 [a0] h Q E := ⟨_, rfl, rfl, w⟩
theorem e_digits_end {k : Nat} {a0 a1 : PV} {h : PH} {Q : PV → PH → Prop} {E : PX → PH → Prop} (w : wpSs G0 (S k) (Sp k) (fun x _ => E x) b_digits_end { nx := fun _ h' => Q .non h', rt := Q } [some a0, some a1, none] h) : S (k + 1) 1 [a0, a1] h Q E := ⟨_, rfl, rfl, w⟩
theorem e_letters_end {k : Nat} {a0 a1 : PV} {h : PH} {Q : PV → PH → Prop} {E : PX → PH → Prop} (w : wpSs G0 (S k) (Sp k) (fun x _ => E x) b_letters_end { nx := fun _ h' => Q .non h', rt := Q } [some a0, some a1, none] h) : S (k + 1) 2 [a0, a1] h Q E := ⟨_, rfl, rfl, w⟩
theorem e_number_piece {k : Nat} {a0 a1 : PV} {h : PH} {Q : PV → PH → Prop} {E : PX → PH → Prop} (w : wpSs G0 (S k) (Sp k) (fun x _ => E x) b_number_piece { nx := fun _ h' => Q .non h', rt := Q } [some a0, some a1, none, none, none] h) : S (k + 1) 3 [a0, a1] h Q E := ⟨_, rfl, rfl, w⟩
theorem e_text_piece {k : Nat} {a0 a1 : PV} {h : PH} {Q : PV → PH → Prop} {E : PX → PH → Prop} (w : wpSs G0 (S k) (Sp k) (fun x _ => E x) b_text_piece { nx := fun _ h' => Q .non h', rt := Q } [some a0, some a1, none] h) : S (k + 1) 4 [a0, a1] h Q E := ⟨_, rfl, rfl, w⟩
theorem e_item_piece {k : Nat} {a0 a1 a2 : PV} {h : PH} {Q : PV → PH → Prop} {E : PX → PH → Prop} (w : wpSs G0 (S k) (Sp k) (fun x _ => E x) b_item_piece { nx := fun _ h' => Q .non h', rt := Q } [some a0, some a1, some a2, none, none, none] h) : S (k + 1) 5 [a0, a1, a2] h Q E := ⟨_, rfl, rfl, w⟩
theorem e_behind_item {k : Nat} {a0 a1 a2 : PV} {h : PH} {Q : PV → PH → Prop} {E : PX → PH → Prop} (w : wpSs G0 (S k) (Sp k) (fun x _ => E x) b_behind_item { nx := fun _ h' => Q .non h', rt := Q } [some a0, some a1, some a2] h) : S (k + 1) 6 [a0, a1, a2] h Q E := ⟨_, rfl, rfl, w⟩
theorem e_parse_paper {k : Nat} {a0 : PV} {h : PH} {Q : PV → PH → Prop} {E : PX → PH → Prop} (w : wpSs G0 (S k) (Sp k) (fun x _ => E x) b_parse_paper { nx := fun _ h' => Q .non h', rt := Q } [some a0, none, none, none, none, none] h) : S (k + 1) 7 [a0] h Q E := ⟨_, rfl, rfl, w⟩
theorem e_frozen {k : Nat} {a0 : PV} {h : PH} {Q : PV → PH → Prop} {E : PX → PH → Prop} (w : wpSs G0 (S k) (Sp k) (fun x _ => E x) b_frozen { nx := fun _ h' => Q .non h', rt := Q } [some a0, none] h) : S (k + 1) 8 [a0] h Q E := ⟨_, rfl, rfl, w⟩
theorem e_holds_words {k : Nat} {a0 a1 : PV} {h : PH} {Q : PV → PH → Prop} {E : PX → PH → Prop} (w : wpSs G0 (S k) (Sp k) (fun x _ => E x) b_holds_words { nx := fun _ h' => Q .non h', rt := Q } [some a0, some a1] h) : S (k + 1) 9 [a0, a1] h Q E := ⟨_, rfl, rfl, w⟩
theorem e_line_of {k : Nat} {a0 a1 : PV} {h : PH} {Q : PV → PH → Prop} {E : PX → PH → Prop} (w : wpSs G0 (S k) (Sp k) (fun x _ => E x) b_line_of { nx := fun _ h' => Q .non h', rt := Q } [some a0, some a1, none, none, none] h) : S (k + 1) 10 [a0, a1] h Q E := ⟨_, rfl, rfl, w⟩
theorem e_format_paper {k : Nat} {a0 : PV} {h : PH} {Q : PV → PH → Prop} {E : PX → PH → Prop} (w : wpSs G0 (S k) (Sp k) (fun x _ => E x) b_format_paper { nx := fun _ h' => Q .non h', rt := Q } [some a0] h) : S (k + 1) 11 [a0] h Q E := ⟨_, rfl, rfl, w⟩
theorem e__law_cell {k : Nat} {a0 a1 : PV} {h : PH} {Q : PV → PH → Prop} {E : PX → PH → Prop} (w : wpSs G0 (S k) (Sp k) (fun x _ => E x) b__law_cell { nx := fun _ h' => Q .non h', rt := Q } [some a0, some a1, none, none] h) : S (k + 1) 12 [a0, a1] h Q E := ⟨_, rfl, rfl, w⟩
theorem e__law_digits {k : Nat} {a0 a1 : PV} {h : PH} {Q : PV → PH → Prop} {E : PX → PH → Prop} (w : wpSs G0 (S k) (Sp k) (fun x _ => E x) b__law_digits { nx := fun _ h' => Q .non h', rt := Q } [some a0, some a1, none, none, none, none, none, none] h) : S (k + 1) 13 [a0, a1] h Q E := ⟨_, rfl, rfl, w⟩
theorem e__law_signs {k : Nat} {h : PH} {Q : PV → PH → Prop} {E : PX → PH → Prop} (w : wpSs G0 (S k) (Sp k) (fun x _ => E x) b__law_signs { nx := fun _ h' => Q .non h', rt := Q } [] h) : S (k + 1) 14 [] h Q E := ⟨_, rfl, rfl, w⟩
theorem e__law_text_of {k : Nat} {a0 : PV} {h : PH} {Q : PV → PH → Prop} {E : PX → PH → Prop} (w : wpSs G0 (S k) (Sp k) (fun x _ => E x) b__law_text_of { nx := fun _ h' => Q .non h', rt := Q } [some a0, none, none, none, none] h) : S (k + 1) 15 [a0] h Q E := ⟨_, rfl, rfl, w⟩
theorem e__law_quote {k : Nat} {a0 : PV} {h : PH} {Q : PV → PH → Prop} {E : PX → PH → Prop} (w : wpSs G0 (S k) (Sp k) (fun x _ => E x) b__law_quote { nx := fun _ h' => Q .non h', rt := Q } [some a0] h) : S (k + 1) 16 [a0] h Q E := ⟨_, rfl, rfl, w⟩
theorem e__law_literal {k : Nat} {a0 : PV} {h : PH} {Q : PV → PH → Prop} {E : PX → PH → Prop} (w : wpSs G0 (S k) (Sp k) (fun x _ => E x) b__law_literal { nx := fun _ h' => Q .non h', rt := Q } [some a0, none] h) : S (k + 1) 17 [a0] h Q E := ⟨_, rfl, rfl, w⟩
theorem e__law_row_number {k : Nat} {a0 : PV} {h : PH} {Q : PV → PH → Prop} {E : PX → PH → Prop} (w : wpSs G0 (S k) (Sp k) (fun x _ => E x) b__law_row_number { nx := fun _ h' => Q .non h', rt := Q } [some a0, none, none, none] h) : S (k + 1) 18 [a0] h Q E := ⟨_, rfl, rfl, w⟩
theorem e__law_table {k : Nat} {a0 : PV} {h : PH} {Q : PV → PH → Prop} {E : PX → PH → Prop} (w : wpSs G0 (S k) (Sp k) (fun x _ => E x) b__law_table { nx := fun _ h' => Q .non h', rt := Q } [some a0] h) : S (k + 1) 19 [a0] h Q E := ⟨_, rfl, rfl, w⟩
theorem e__law_part {k : Nat} {a0 : PV} {h : PH} {Q : PV → PH → Prop} {E : PX → PH → Prop} (w : wpSs G0 (S k) (Sp k) (fun x _ => E x) b__law_part { nx := fun _ h' => Q .non h', rt := Q } [some a0, none] h) : S (k + 1) 20 [a0] h Q E := ⟨_, rfl, rfl, w⟩
theorem e__law_put_in {k : Nat} {a0 a1 : PV} {h : PH} {Q : PV → PH → Prop} {E : PX → PH → Prop} (w : wpSs G0 (S k) (Sp k) (fun x _ => E x) b__law_put_in { nx := fun _ h' => Q .non h', rt := Q } [some a0, some a1] h) : S (k + 1) 21 [a0, a1] h Q E := ⟨_, rfl, rfl, w⟩
theorem e__law_padded {k : Nat} {a0 a1 : PV} {h : PH} {Q : PV → PH → Prop} {E : PX → PH → Prop} (w : wpSs G0 (S k) (Sp k) (fun x _ => E x) b__law_padded { nx := fun _ h' => Q .non h', rt := Q } [some a0, some a1] h) : S (k + 1) 22 [a0, a1] h Q E := ⟨_, rfl, rfl, w⟩
theorem e__law_slowed {k : Nat} {a0 a1 : PV} {h : PH} {Q : PV → PH → Prop} {E : PX → PH → Prop} (w : wpSs G0 (S k) (Sp k) (fun x _ => E x) b__law_slowed { nx := fun _ h' => Q .non h', rt := Q } [some a0, some a1] h) : S (k + 1) 23 [a0, a1] h Q E := ⟨_, rfl, rfl, w⟩
theorem e__law_steady {k : Nat} {a0 : PV} {h : PH} {Q : PV → PH → Prop} {E : PX → PH → Prop} (w : wpSs G0 (S k) (Sp k) (fun x _ => E x) b__law_steady { nx := fun _ h' => Q .non h', rt := Q } [some a0, none, none, none, none, none] h) : S (k + 1) 24 [a0] h Q E := ⟨_, rfl, rfl, w⟩
theorem e__law_any_text {k : Nat} {a0 : PV} {h : PH} {Q : PV → PH → Prop} {E : PX → PH → Prop} (w : wpSs G0 (S k) (Sp k) (fun x _ => E x) b__law_any_text { nx := fun _ h' => Q .non h', rt := Q } [some a0, none, none, none, none] h) : S (k + 1) 25 [a0] h Q E := ⟨_, rfl, rfl, w⟩
theorem e__law_expression {k : Nat} {a0 : PV} {h : PH} {Q : PV → PH → Prop} {E : PX → PH → Prop} (w : wpSs G0 (S k) (Sp k) (fun x _ => E x) b__law_expression { nx := fun _ h' => Q .non h', rt := Q } [some a0, none, none, none, none, none, none] h) : S (k + 1) 26 [a0] h Q E := ⟨_, rfl, rfl, w⟩
theorem e__law_asker {k : Nat} {a0 : PV} {h : PH} {Q : PV → PH → Prop} {E : PX → PH → Prop} (w : wpSs G0 (S k) (Sp k) (fun x _ => E x) b__law_asker { nx := fun _ h' => Q .non h', rt := Q } [some a0, none, none, none, none] h) : S (k + 1) 27 [a0] h Q E := ⟨_, rfl, rfl, w⟩
theorem e__law_looker {k : Nat} {a0 : PV} {h : PH} {Q : PV → PH → Prop} {E : PX → PH → Prop} (w : wpSs G0 (S k) (Sp k) (fun x _ => E x) b__law_looker { nx := fun _ h' => Q .non h', rt := Q } [some a0, none] h) : S (k + 1) 28 [a0] h Q E := ⟨_, rfl, rfl, w⟩
theorem e__law_reader {k : Nat} {a0 : PV} {h : PH} {Q : PV → PH → Prop} {E : PX → PH → Prop} (w : wpSs G0 (S k) (Sp k) (fun x _ => E x) b__law_reader { nx := fun _ h' => Q .non h', rt := Q } [some a0, none, none] h) : S (k + 1) 29 [a0] h Q E := ⟨_, rfl, rfl, w⟩
theorem e__law_is {k : Nat} {a0 a1 : PV} {h : PH} {Q : PV → PH → Prop} {E : PX → PH → Prop} (w : wpSs G0 (S k) (Sp k) (fun x _ => E x) b__law_is { nx := fun _ h' => Q .non h', rt := Q } [some a0, some a1, none, none, none, none] h) : S (k + 1) 30 [a0, a1] h Q E := ⟨_, rfl, rfl, w⟩
theorem e__law_line {k : Nat} {a0 a1 : PV} {h : PH} {Q : PV → PH → Prop} {E : PX → PH → Prop} (w : wpSs G0 (S k) (Sp k) (fun x _ => E x) b__law_line { nx := fun _ h' => Q .non h', rt := Q } [some a0, some a1, none, none, none] h) : S (k + 1) 31 [a0, a1] h Q E := ⟨_, rfl, rfl, w⟩
theorem e__law_reason {k : Nat} {a0 a1 a2 a3 a4 : PV} {h : PH} {Q : PV → PH → Prop} {E : PX → PH → Prop} (w : wpSs G0 (S k) (Sp k) (fun x _ => E x) b__law_reason { nx := fun _ h' => Q .non h', rt := Q } [some a0, some a1, some a2, some a3, some a4, none] h) : S (k + 1) 32 [a0, a1, a2, a3, a4] h Q E := ⟨_, rfl, rfl, w⟩
theorem e__law_paper {k : Nat} {a0 a1 a2 a3 a4 a5 a6 a7 a8 : PV} {h : PH} {Q : PV → PH → Prop} {E : PX → PH → Prop} (w : wpSs G0 (S k) (Sp k) (fun x _ => E x) b__law_paper { nx := fun _ h' => Q .non h', rt := Q } [some a0, some a1, some a2, some a3, some a4, some a5, some a6, some a7, some a8, none, none, none] h) : S (k + 1) 33 [a0, a1, a2, a3, a4, a5, a6, a7, a8] h Q E := ⟨_, rfl, rfl, w⟩
theorem e__law_thawed {k : Nat} {a0 : PV} {h : PH} {Q : PV → PH → Prop} {E : PX → PH → Prop} (w : wpSs G0 (S k) (Sp k) (fun x _ => E x) b__law_thawed { nx := fun _ h' => Q .non h', rt := Q } [some a0, none] h) : S (k + 1) 34 [a0] h Q E := ⟨_, rfl, rfl, w⟩
theorem e_law {k : Nat} {a0 : PV} {h : PH} {Q : PV → PH → Prop} {E : PX → PH → Prop} (w : wpSs G0 (S k) (Sp k) (fun x _ => E x) b_law { nx := fun _ h' => Q .non h', rt := Q } [some a0, none, none, none, none, none, none, none, none, none, none, none, none, none, none] h) : S (k + 1) 35 [a0] h Q E := ⟨_, rfl, rfl, w⟩
end K90
set_option Elab.async false
set_option linter.all false
set_option maxRecDepth 100000
set_option maxHeartbeats 4000000
namespace K90
open PySem PySem.Spec PyProof.Rows Fw L2
local macro_rules | `(tactic| walk_at "wp") => `(tactic| try simp only [wpSs, wpSt, wpE, wpEs, wpT, wpTs, wpG, wpI, wpO, List.getElem?_cons_zero, List.getElem?_cons_succ, Option.some.injEq, exists_eq_left', exists_eq_left, Nat.reduceAdd, List.set_cons_zero, List.set_cons_succ, setAll, wipeP, prmV, mtyP, partP, ite_true, ite_false, if_true, if_false, Bool.false_eq_true, true_and, exists_const, List.length_cons, List.length_nil, p_add, p_sub, p_and, q_add, q_sub, c_lt, c_le, c_gt, c_ge, c_eq, c_ne, c_eqs, c_nes, c_is, c_isnt, c_isb, c_isntb, t_bl, t_int, i_int, i_bl, m_two, m_three, m_four, m_min, Item.v, Item.h, PV.int.injEq, PV.bl.injEq, PV.str.injEq, PV.loc.injEq, is_int, is_bl, is_non, is_str, ki_ii, ki_ib, ki_is, ki_it, ki_bi, ki_bb, ki_bs, ki_bt, ki_si, ki_sb, ki_ss, ki_st, ki_ni, ki_nb, ki_ns, ki_nt, Option.map_some, Bool.not_true, Bool.not_false, c_eqb, c_neb])
abbrev IL (ns : List Int) : List PV := ns.map .int
theorem IL_get {ns : List Int} {i : Nat} : (IL ns)[i]? = (ns[i]?).map .int := List.getElem?_map
theorem seqOf_kp {h h' : PH} {v : PV} {xs : List PV} (kp : Kp0 h h') (e : seqOf G0 h v = some xs) : seqOf G0 h' v = some xs := by
  unfold seqOf at e ⊢
  have d : ∀ o, deref G0 h v = some o → deref G0 h' v = some o := fun o e => by
    cases v with
    | loc n => exact kp.get0 e
    | kon n => exact e
    | _ => cases e
  split at e
  · rename_i q; cases e; rw [d _ q]
  · rename_i q; cases e; rw [d _ q]
  · rename_i q; cases e; rw [d _ q]
  · cases e
/-- the bound on all numbers that are multiplied -/
def Sm (b : Nat) (i : Int) : Prop := i.natAbs < 2 ^ b
theorem Sm.mono {a b : Nat} {i : Int} (h : Sm a i) (l : a ≤ b) : Sm b i := Nat.lt_of_lt_of_le h (Nat.pow_le_pow_right (by decide) l)
theorem Sm.mul {a b : Nat} {i j : Int} (h : Sm a i) (h' : Sm b j) : Sm (a + b) (i * j) := by
  unfold Sm
  rw [Int.natAbs_mul, Nat.pow_add]
  exact Nat.mul_lt_mul'' h h'
theorem Sm.add {a : Nat} {i j : Int} (h : Sm a i) (h' : Sm a j) : Sm (a + 1) (i + j) := by
  have h : i.natAbs < 2 ^ a := h
  have h' : j.natAbs < 2 ^ a := h'
  show (i + j).natAbs < 2 ^ (a + 1)
  rw [Nat.pow_succ]
  omega
theorem Sm.sub {a : Nat} {i j : Int} (h : Sm a i) (h' : Sm a j) : Sm (a + 1) (i - j) := by
  have h : i.natAbs < 2 ^ a := h
  have h' : j.natAbs < 2 ^ a := h'
  show (i - j).natAbs < 2 ^ (a + 1)
  rw [Nat.pow_succ]
  omega
theorem Sm.get {b : Nat} {p : List Int} (h : ∀ c ∈ p, Sm b c) (i : Nat) : Sm b (p.getD i 0) := by
  rw [List.getD_eq_getElem?_getD]
  cases e : p[i]? with
  | none => exact Nat.two_pow_pos b
  | some x => exact h x (List.mem_of_getElem? e)
theorem Sm.zero {b : Nat} : Sm b 0 := Nat.two_pow_pos b
theorem getD_of {a : List Int} {i : Nat} {c : Int} (h : a[i]? = some c) : a.getD i 0 = c := by
  rw [List.getD_eq_getElem?_getD, h]; rfl
theorem get_getD {a : List Int} {i : Nat} (h : i < a.length) : a[i]? = some (a.getD i 0) := by
  rw [List.getD_eq_getElem?_getD, List.getElem?_eq_getElem h]; rfl
theorem set_at {h : PH} {n i : Nat} {xs : List PV} {v : PV} (e : h[n]? = some (.lst xs)) (hi : i < xs.length) : setP (.loc n) (.int (i : Int)) v h = some (h.set n (.lst (xs.set i v))) := by
  unfold setP
  dsimp only
  rw [e]
  dsimp only
  unfold ixN
  rw [if_pos (by omega), if_pos (by omega)]
  rfl
theorem p_smul {h : PH} {a b : Int} (k l : Nat) (ha : Sm k a) (hb : Sm l b) (hk : 0 < k) (hl : 0 < l) (w : k + l ≤ 1000000) {P : PV × PH → Prop} (hP : P (.int (a * b), h)) : ∃ r, binV G0 .Mult (.int a) (.int b) h = some r ∧ P r := ⟨_, mul_fit k l ha hb hk hl w, hP⟩
theorem p_smod {h : PH} {a b : Int} (hb : b ≠ 0) {P : PV × PH → Prop} (hP : P (.int (a.fmod b), h)) : ∃ r, binV G0 .Mod (.int a) (.int b) h = some r ∧ P r := ⟨_, by rw [p_mod, if_pos hb], hP⟩
theorem p_sdiv {h : PH} {a b : Int} (hb : b ≠ 0) (hs : Sm 100 b) {P : PV × PH → Prop} (hP : P (.int (a.fdiv b), h)) : ∃ r, binV G0 .FloorDiv (.int a) (.int b) h = some r ∧ P r :=
  ⟨_, by rw [p_div, if_pos ⟨hb, Nat.lt_of_lt_of_le (log_lt hs (by omega)) (by omega)⟩], hP⟩
theorem sm_lit {b n : Nat} {i : Int} (h : i.natAbs ≤ n) (hn : n < 2 ^ b) : Sm b i := Nat.lt_of_le_of_lt h hn
theorem fmod_rng {a b : Int} (hb : 0 < b) : 0 ≤ a.fmod b ∧ a.fmod b < b := ⟨Int.fmod_nonneg_of_pos a hb, Int.fmod_lt_of_pos a hb⟩
/-- the script -/
def Scr (h : PH) (ns : List Int) : Prop := h[0]? = some (.rol (IL ns)) ∧ ns.length ≤ 63
theorem Scr.kp {h h' : PH} {ns : List Int} (s : Scr h ns) (kp : Kp0 h h') : Scr h' ns := ⟨kp.get0 s.1, s.2⟩
theorem cell_ok {k : Nat} {h : PH} {ns : List Int} {c : Nat} {Q : PV → PH → Prop} {E : PX → PH → Prop} (hs : Scr h ns) (hc : c ≤ 20) (hq : ∀ i, Q (.int i) h) : S (k + 1) 12 [.loc 0, .int (c : Int)] h Q E := by
  refine e__law_cell ?_
  unfold b__law_cell
  walk_at "wp"
  have sq : seqOf G0 h (.loc 0) = some (IL ns) := seqOf_rol hs.1
  rw [len_seq sq]
  walk_at "wp"
  rw [List.length_map]
  by_cases lt : c < ns.length
  · rw [if_pos (by rw [decide_eq_true_eq]; omega)]
    rw [idx_seq sq, atI_nat', IL_get, get_getD lt]
    exact ⟨_, rfl, hq _⟩
  rw [if_neg (by rw [decide_eq_true_eq]; omega)]
  refine ⟨_, _, deref_loc hs.1, rfl, ?_⟩
  refine for_inv (fun i σ h' => h' = h ∧ ∃ s y, σ = [some (.loc 0), some (.int (c : Int)), some (.int s), y] ∧ 0 ≤ s ∧ s < 1000003) ⟨rfl, 17, none, rfl, by decide, by decide⟩ ?_ ?_
  · rintro i x σ h' K hx ⟨rfl, s, y, rfl, h1, h2⟩ hK
    obtain ⟨w, hw, rfl⟩ := val_item hx
    rw [IL_get] at hw
    obtain ⟨e, he, rfl⟩ := Option.map_eq_some_iff.mp hw
    refine ⟨deref_loc hs.1, ?_⟩
    walk_at "wp"
    refine p_smul 20 5 (sm_lit (n := 1000003) (by omega) (by decide)) (sm_lit (n := 31) (by decide) (by decide)) (by omega) (by omega) (by omega) ?_
    refine p_smod (by decide) ?_
    walk_at "wp"
    refine p_smod (by decide) ?_
    exact hK _ _ ⟨rfl, _, _, rfl, (fmod_rng (by decide)).1, (fmod_rng (by decide)).2⟩
  · rintro σ h' ⟨rfl, s, y, rfl, h1, h2⟩
    refine ⟨deref_loc hs.1, ?_⟩
    walk_at "wp"
    refine p_smul 21 6 (sm_lit (n := 1000010) (by omega) (by decide)) (sm_lit (n := 30) (by omega) (by decide)) (by omega) (by omega) (by omega) ?_
    refine p_smul 27 20 ?_ (sm_lit (n := 69621) (by decide) (by decide)) (by omega) (by omega) (by omega) ?_
    · exact Sm.mul (a := 21) (b := 6) (sm_lit (n := 1000010) (by omega) (by decide)) (sm_lit (n := 30) (by omega) (by decide))
    walk_at "wp"
    refine p_smod (by decide) ?_
    exact hq _
/-- digits under sizes -/
def Dig (ds ss : List Int) : Prop := ds.length = ss.length ∧ ∀ i, i < ss.length → 0 ≤ ds.getD i 0 ∧ ds.getD i 0 < ss.getD i 0
def Siz (ss : List Int) : Prop := ss.length ≤ 64 ∧ ∀ s ∈ ss, 0 < s ∧ Sm 100 s
theorem Siz.at {ss : List Int} (h : Siz ss) {i : Nat} (hi : i < ss.length) : 0 < ss.getD i 0 ∧ Sm 100 (ss.getD i 0) := h.2 _ (List.mem_of_getElem? (get_getD hi))
/-- the digits so far -/
def Dg (ds ss : List Int) (n : Nat) : Prop := ds.length = n ∧ ∀ i, i < n → 0 ≤ ds.getD i 0 ∧ ds.getD i 0 < ss.getD i 0
theorem getD_app {a : List Int} {i : Nat} {c : Int} (h : i < a.length) : (a ++ [c]).getD i 0 = a.getD i 0 := by
  rw [List.getD_eq_getElem?_getD, List.getD_eq_getElem?_getD, List.getElem?_append_left h]
theorem getD_new {a : List Int} {c : Int} {i : Nat} (h : i = a.length) : (a ++ [c]).getD i 0 = c := by
  subst h; rw [List.getD_eq_getElem?_getD]; simp
theorem Dg.snoc {ds ss : List Int} {n : Nat} (h : Dg ds ss n) {c : Int} (hc : 0 ≤ c ∧ c < ss.getD n 0) : Dg (ds ++ [c]) ss (n + 1) := by
  refine ⟨by simp [h.1], fun i hi => ?_⟩
  by_cases e : i < n
  · rw [getD_app (by rw [h.1]; exact e)]; exact h.2 i e
  · have : i = n := by omega
    subst this
    rw [getD_new h.1.symm]; exact hc
theorem _root_.Fw.Kp.put {h h' : PH} {n : Nat} {o : PO} (x : Kp0 h h') (hn : h.length ≤ n) : Kp0 h (h'.set n o) := Kp.drop (x.to.trans (Kp.set (S := [n]) (List.mem_singleton.mpr rfl))) hn
theorem IL_snoc {ns : List Int} {c : Int} : IL ns ++ [.int c] = IL (ns ++ [c]) := by simp [IL]
theorem digits_ok {k : Nat} {h : PH} {c : Int} {m : Nat} {ss : List Int} {Q : PV → PH → Prop} {E : PX → PH → Prop} (hs : h[m]? = some (.lst (IL ss))) (hz : Siz ss)
    (hq : ∀ h' n ds, Kp0 h h' → h.length ≤ n → Dig ds ss → h'[n]? = some (.lst (IL ds)) → Q (.loc n) h') : S (k + 1) 13 [.int c, .loc m] h Q E := by
  refine e__law_digits ?_
  unfold b__law_digits
  walk_at "wp"
  refine ⟨by rw [line_eq]; decide, ?_⟩
  have hm := get_len hs
  have pw : ∀ {P : PV × PH → Prop} {h : PH}, P (.int (10 ^ 18), h) → ∃ r, binV G0 .Pow (.int 10) (.int 18) h = some r ∧ P r := fun {P h} hP => ⟨_, by rw [p_pow, if_pos (by decide)]; rfl, hP⟩
  refine pw ?_
  dsimp only
  walk_at "wp"
  by_cases hb : (10 : Int) ^ 18 ≤ c
  · rw [if_pos (by rw [decide_eq_true_eq]; exact hb)]
    refine pw ?_
    walk_at "wp"
    refine ⟨_, _, deref_loc (Kp.snoc.get0 hs), rfl, ?_⟩
    refine for_inv (fun i σ h' => ∃ r ds y4 y5 y6 y7, σ = [some (.int c), some (.loc m), some (.loc h.length), some (.int r), y4, y5, y6, y7] ∧ Kp0 h h' ∧ Dg ds ss i ∧ h'[h.length]? = some (.lst (IL ds))) ⟨_, [], none, none, none, none, rfl, Kp.snoc, ⟨rfl, fun i hi => absurd hi (Nat.not_lt_zero _)⟩, get_new⟩ ?_ ?_
    · rintro i x σ h' K hx ⟨r, ds, y4, y5, y6, y7, rfl, kp, hd, e⟩ hK
      obtain ⟨w, hw, rfl⟩ := val_item hx
      rw [IL_get] at hw
      obtain ⟨s, he, rfl⟩ := Option.map_eq_some_iff.mp hw
      refine ⟨deref_loc (kp.get0 hs), ?_⟩
      have hi := get_len he
      have hz' := hz.at hi
      rw [getD_of he] at hz'
      walk_at "wp"
      refine ⟨by rw [lstOf_lst e]; rfl, ?_⟩
      refine p_smod (by omega) ?_
      rw [append_lst e (by rw [List.length_map, hd.1, line_eq]; have := hz.1; omega)]
      walk_at "wp"
      refine p_sdiv (by omega) hz'.2 ?_
      refine hK _ _ ⟨_, ds ++ [r.fmod s], _, _, _, _, rfl, kp.put (Nat.le_refl _), hd.snoc (by rw [getD_of he]; exact fmod_rng hz'.1), ?_⟩
      rw [get_put e, IL_snoc]
    · rintro σ h' ⟨r, ds, y4, y5, y6, y7, rfl, kp, hd, e⟩
      refine ⟨deref_loc (kp.get0 hs), ?_⟩
      rw [List.length_map, List.length_map] at hd
      walk_at "wp"
      exact hq h' _ ds kp (Nat.le_refl _) ⟨hd.1, hd.2⟩ e
  · rw [if_neg (by rw [decide_eq_true_eq]; exact hb)]
    refine p_smod (by decide) ?_
    walk_at "wp"
    rw [len_seq (seqOf_lst ((Kp.snoc (S := [])).get0 hs))]
    walk_at "wp"
    refine ⟨_, rng_1' (n := ss.length) (by simp) (by have := hz.1; omega), ?_⟩
    dsimp only
    refine for_inv (fun i σ h' => ∃ r ds s y5 y6 y7, σ = [some (.int c), some (.loc m), some (.loc h.length), some (.int r), some (.int s), y5, y6, y7] ∧ 0 ≤ s ∧ s < 2147483647 ∧ Kp0 h h' ∧ Dg ds ss i ∧ h'[h.length]? = some (.lst (IL ds))) ⟨_, [], _, none, none, none, rfl, (fmod_rng (by decide)).1, Int.lt_trans (fmod_rng (by decide)).2 (by decide), Kp.snoc, ⟨rfl, fun i hi => absurd hi (Nat.not_lt_zero _)⟩, get_new⟩ ?_ ?_
    · rintro i x σ h' K hx ⟨r, ds, s, y5, y6, y7, rfl, s0, s1, kp, hd, e⟩ hK
      obtain ⟨hi, rfl⟩ := rng_item hx
      replace hi : i < ss.length := hi
      have hz' := hz.at hi
      have hzl := hz.1
      refine ⟨trivial, ?_⟩
      walk_at "wp"
      refine p_smul 32 16 (sm_lit (n := 2147483647) (by omega) (by decide)) (sm_lit (n := 48271) (by decide) (by decide)) (by omega) (by omega) (by omega) ?_
      refine p_smul 20 10 (sm_lit (n := 974711) (by decide) (by decide)) (sm_lit (n := 64) (by omega) (by decide)) (by omega) (by omega) (by omega) ?_
      walk_at "wp"
      refine p_smod (by decide) ?_
      have r1 := fmod_rng (a := s * 48271 + 974711 * (i : Int) + 12345) (b := 2147483647) (by decide)
      generalize (s * 48271 + 974711 * (i : Int) + 12345).fmod 2147483647 = s' at r1
      walk_at "wp"
      refine p_sdiv (by decide) (sm_lit (n := 65537) (by decide) (by decide)) ?_
      have r2 : 0 ≤ s'.fdiv 65537 ∧ s'.fdiv 65537 ≤ s' := by
        rw [Int.fdiv_eq_ediv_of_nonneg _ (by decide)]; omega
      walk_at "wp"
      refine p_smul 32 33 (sm_lit (n := 2147483647) (by omega) (by decide)) (sm_lit (n := 2147483650) (by omega) (by decide)) (by omega) (by omega) (by omega) ?_
      walk_at "wp"
      refine p_smod (by decide) ?_
      walk_at "wp"
      refine ⟨by rw [lstOf_lst e]; rfl, ?_⟩
      refine p_sdiv (by decide) (sm_lit (n := 19) (by decide) (by decide)) ?_
      rw [idx_seq (seqOf_lst (kp.get0 hs)), atI_nat', IL_get, get_getD hi]
      refine ⟨_, rfl, ?_⟩
      refine p_smod (by omega) ?_
      rw [append_lst e (by rw [List.length_map, hd.1, line_eq]; omega)]
      walk_at "wp"
      refine hK _ _ ⟨_, ds ++ [(((s' * (s'.fdiv 65537 + 3)).fmod 2147483629).fdiv 19).fmod (ss.getD i 0)], s', _, _, _, rfl, r1.1, r1.2, kp.put (Nat.le_refl _), hd.snoc (fmod_rng hz'.1), ?_⟩
      rw [get_put e, IL_snoc]
    · rintro σ h' ⟨r, ds, s, y5, y6, y7, rfl, s0, s1, kp, hd, e⟩
      refine ⟨trivial, ?_⟩
      rw [rngL_len] at hd
      walk_at "wp"
      exact hq h' _ ds kp (Nat.le_refl _) ⟨hd.1, hd.2⟩ e
theorem rep_lst {h : PH} {n : Nat} {ns : List Int} {k : Int} {P : PV × PH → Prop} (e : h[n]? = some (.lst (IL ns))) (h0 : 0 ≤ k) (h1 : k ≤ 100) (hl : ns.length ≤ 100) (hP : P (.loc h.length, h ++ [.lst (IL (List.replicate k.toNat ns).flatten)])) : ∃ r, binV G0 .Mult (.loc n) (.int k) h = some r ∧ P r := by
  refine ⟨_, ?_, hP⟩
  unfold binV
  dsimp only
  rw [e]
  dsimp only
  have : ns.length * k.toNat ≤ 100 * 100 := Nat.mul_le_mul hl (by omega)
  rw [if_pos ⟨by omega, by omega, by rw [List.length_map, line_eq]; omega⟩]
  simp [IL, List.map_flatten]
theorem cat_ints {h : PH} {n m : Nat} {ns ms : List Int} {P : PV × PH → Prop} (e : h[n]? = some (.lst (IL ns))) (e' : h[m]? = some (.lst (IL ms))) (hl : ns.length + ms.length ≤ 1000) (hP : P (.loc h.length, h ++ [.lst (IL (ns ++ ms))])) : ∃ r, binV G0 .Add (.loc n) (.loc m) h = some r ∧ P r := by
  refine ⟨_, cat_lst e e' (by rw [List.length_map, List.length_map, line_eq]; omega), ?_⟩
  have : IL ns ++ IL ms = IL (ns ++ ms) := by simp [IL]
  rw [this]; exact hP
theorem cut_IL {ns : List Int} {a b : Option Int} : cutP (IL ns) a b = IL (cutP ns a b) := by
  unfold cutP
  simp [IL, List.map_take, List.map_drop]
theorem cut_mem {ns : List Int} {a b : Option Int} {c : Int} (h : c ∈ cutP ns a b) : c ∈ ns := List.mem_of_mem_drop (List.mem_of_mem_take h)
theorem cut_len {ns : List Int} {a b : Option Int} : (cutP ns a b).length ≤ ns.length := by
  unfold cutP
  rw [List.length_take, List.length_drop]; omega
theorem idx_at {h : PH} {n i : Nat} {ns : List Int} (e : h[n]? = some (.lst (IL ns))) (hi : i < ns.length) : idxP G0 h (.loc n) (.int (i : Int)) = some (.int (ns.getD i 0)) := by
  rw [idx_seq (seqOf_lst e), atI_nat', IL_get, get_getD hi]; rfl
theorem setP_int {h : PH} {n i : Nat} {ns : List Int} {c : Int} {P : PH → Prop} (e : h[n]? = some (.lst (IL ns))) (hi : i < ns.length) (hP : P (h.set n (.lst (IL (ns.set i c))))) : ∃ h', setP (.loc n) (.int (i : Int)) (.int c) h = some h' ∧ P h' := by
  refine ⟨_, set_at e (by rw [List.length_map]; exact hi), ?_⟩
  have : (IL ns).set i (.int c) = IL (ns.set i c) := by simp [IL, List.map_set]
  rw [this]; exact hP
theorem mem_set' {ns : List Int} {i : Nat} {v c : Int} (h : c ∈ ns.set i v) : c = v ∨ c ∈ ns := (List.mem_or_eq_of_mem_set h).symm
theorem sm_rng {b n : Nat} {i : Int} (h0 : -(n : Int) ≤ i) (h1 : i ≤ n) (hn : n < 2 ^ b) : Sm b i := Nat.lt_of_le_of_lt (show i.natAbs ≤ n by omega) hn
theorem dig_at {ds ss : List Int} (h : Dig ds ss) {i : Nat} (hi : i < ss.length) {g : PH} {n : Nat} (e : g[n]? = some (.lst (IL ds))) : idxP G0 g (.loc n) (.int (i : Int)) = some (.int (ds.getD i 0)) := idx_at e (by rw [h.1]; exact hi)
theorem siz_rep {m : Int} {n : Nat} (h0 : 0 < m) (h1 : m < 2 ^ 90) (hn : n ≤ 64) : Siz (List.replicate n [m]).flatten := by
  refine ⟨by simp; exact hn, fun s hs => ?_⟩
  simp at hs
  rw [hs.2]
  exact ⟨h0, sm_rng (n := 2 ^ 90) (by omega) (by omega) (by decide)⟩
theorem rep_at {m : Int} {n i : Nat} (h : i < n) : (List.replicate n [m]).flatten.getD i 0 = m := by
  have e : (List.replicate n [m]).flatten = List.replicate n m := by
    clear h
    induction n with
    | zero => rfl
    | succ n ih => rw [List.replicate_succ, List.flatten_cons, ih]; rfl
  rw [e]
  exact getD_of (by rw [List.getElem?_replicate, if_pos h])
end K90
set_option Elab.async false
set_option linter.all false
set_option maxRecDepth 100000
set_option maxHeartbeats 4000000
namespace K90
open PySem PySem.Spec PyProof.Rows Fw L2
local macro_rules | `(tactic| walk_at "wp") => `(tactic| try simp only [wpSs, wpSt, wpE, wpEs, wpT, wpTs, wpG, wpI, wpO, List.getElem?_cons_zero, List.getElem?_cons_succ, Option.some.injEq, exists_eq_left', exists_eq_left, Nat.reduceAdd, List.set_cons_zero, List.set_cons_succ, setAll, wipeP, prmV, mtyP, partP, ite_true, ite_false, if_true, if_false, Bool.false_eq_true, true_and, exists_const, List.length_cons, List.length_nil, p_add, p_sub, p_and, q_add, q_sub, c_lt, c_le, c_gt, c_ge, c_eq, c_ne, c_eqs, c_nes, c_is, c_isnt, c_isb, c_isntb, t_bl, t_int, i_int, i_bl, m_two, m_three, m_four, m_min, Item.v, Item.h, PV.int.injEq, PV.bl.injEq, PV.str.injEq, PV.loc.injEq, is_int, is_bl, is_non, is_str, ki_ii, ki_ib, ki_is, ki_it, ki_bi, ki_bb, ki_bs, ki_bt, ki_si, ki_sb, ki_ss, ki_st, ki_ni, ki_nb, ki_ns, ki_nt, Option.map_some, Bool.not_true, Bool.not_false, c_eqb, c_neb])
/-! texts over the signs -/
def SGL : List Nat := [48, 49, 50, 51, 52, 53, 54, 55, 56, 57, 97, 98, 99, 111, 117, 35, 34, 110, 116, 113, 43, 45, 47, 126, 61, 60, 115, 114, 38, 63, 64, 33, 46]
def Tx (b : Nat) (l : List Nat) : Prop := (∀ c ∈ l, c ∈ SGL) ∧ l.length ≤ b
theorem Tx.mono {a b : Nat} {l : List Nat} (h : Tx a l) (k : a ≤ b) : Tx b l := ⟨h.1, Nat.le_trans h.2 k⟩
theorem Tx.app {a b : Nat} {l m : List Nat} (h : Tx a l) (k : Tx b m) : Tx (a + b) (l ++ m) := by
  refine ⟨fun c hc => ?_, by rw [List.length_append]; have := h.2; have := k.2; omega⟩
  rcases List.mem_append.mp hc with hc | hc
  · exact h.1 c hc
  · exact k.1 c hc
theorem Tx.lit {l : List Nat} (h : l.all (fun c => decide (c ∈ SGL)) = true) : Tx l.length l := ⟨fun c hc => of_decide_eq_true (List.all_eq_true.mp h c hc), Nat.le_refl _⟩
theorem Tx.nil {b : Nat} : Tx b [] := ⟨fun c hc => by simp at hc, Nat.zero_le _⟩
theorem dig_sg : ∀ c, 48 ≤ c → c ≤ 57 → c ∈ SGL := by
  intro c h1 h2
  have : c = 48 ∨ c = 49 ∨ c = 50 ∨ c = 51 ∨ c = 52 ∨ c = 53 ∨ c = 54 ∨ c = 55 ∨ c = 56 ∨ c = 57 := by omega
  rcases this with rfl | rfl | rfl | rfl | rfl | rfl | rfl | rfl | rfl | rfl <;> decide
theorem tx_num {n k : Nat} (hk : 0 < k) (h : n < 10 ^ k) : Tx k (TL.numL n) := ⟨fun c hc => by
  have := TL.numL_digits n c hc
  exact dig_sg c this.1 this.2, TL.numL_len hk h⟩
theorem strI_nat (n : Nat) : strI (n : Int) = TL.numL n := (TL.tl_ofString _).symm.trans (TL.tl_num n)
theorem p_str {h : PH} {n k : Nat} (hk : 0 < k) (hn : n < 10 ^ k) (hk2 : k ≤ 400) {P : PV × PH → Prop} (hP : P (.str (TL.numL n), h)) : ∃ r, strV [.int (n : Int)] h = some r ∧ P r := by
  refine ⟨_, ?_, hP⟩
  unfold strV
  dsimp only
  have h1 : n < 2 ^ 1900 := Nat.lt_of_lt_of_le hn (Nat.le_trans (Nat.pow_le_pow_right (by decide) hk2) (by decide))
  rw [if_pos (by rw [Int.natAbs_natCast]; exact Nat.lt_of_lt_of_le (log_lt h1 (by decide)) (by decide)), strI_nat]
theorem p_cat {h : PH} {a b : Nat} {l m : List Nat} (hl : Tx a l) (hm : Tx b m) (w : a + b ≤ 10000000) {P : PV × PH → Prop} (hP : P (.str (l ++ m), h)) : ∃ r, binV G0 .Add (.str l) (.str m) h = some r ∧ P r := by
  refine ⟨_, ?_, hP⟩
  rw [p_adds, if_pos (by have := hl.2; have := hm.2; rw [line_eq]; omega)]
theorem len_str {h : PH} {b : Nat} {l : List Nat} (hl : Tx b l) (w : b ≤ 10000000) {P : PV × PH → Prop} (hP : P (.int (l.length : Int), h)) : ∃ r, lenV G0 [.str l] h = some r ∧ P r := by
  refine ⟨_, ?_, hP⟩
  unfold lenV
  dsimp only
  rw [if_pos (by have := hl.2; rw [line_eq]; omega)]
theorem signs_ok {k : Nat} {h : PH} {Q : PV → PH → Prop} {E : PX → PH → Prop} (hq : Q (.str SGL) h) : S (k + 1) 14 [] h Q E := by
  refine e__law_signs ?_
  unfold b__law_signs
  walk_at "wp"
  exact hq
theorem quote_ok {k b : Nat} {h : PH} {l : List Nat} {Q : PV → PH → Prop} {E : PX → PH → Prop} (hl : Tx b l) (hb : b ≤ 1000000) (hq : ∀ l', Tx (b + 12) l' → Q (.str l') h) : S (k + 1) 16 [.str l] h Q E := by
  refine e__law_quote ?_
  unfold b__law_quote
  walk_at "wp"
  refine len_str hl (by omega) ?_
  have hn : l.length < 10 ^ 8 := by have := hl.2; omega
  refine p_str (k := 8) (by decide) hn (by decide) ?_
  have t1 : Tx 1 [34] := .lit (by decide)
  have t2 := t1.app (tx_num (by decide) hn)
  have t3 := t2.app (show Tx 1 [46] from .lit (by decide))
  refine p_cat t1 (tx_num (by decide) hn) (by omega) ?_
  refine p_cat t2 (show Tx 1 [46] from .lit (by decide)) (by omega) ?_
  refine p_cat t3 hl (by omega) ?_
  exact hq _ ((t3.app hl).mono (by omega))
theorem mem_sgl {i : Nat} (h : i < 33) : ∃ c, SGL[i]? = some c ∧ c ∈ SGL := ⟨SGL[i], List.getElem?_eq_getElem h, List.getElem_mem h⟩
theorem idx_str {h : PH} {l : List Nat} {i : Nat} {c : Nat} (hl : l.length ≤ 10000000) (e : l[i]? = some c) : idxP G0 h (.str l) (.int (i : Int)) = some (.str [c]) := by
  unfold idxP
  dsimp only
  rw [atI_nat', e, if_pos (by rw [line_eq]; omega)]; rfl
theorem strs_map : ∀ l : List Nat, strsOf (l.map fun c => PV.str [c]) = some (l.map fun c => [c])
  | [] => rfl
  | c :: r => by
    show (strsOf (r.map fun c => PV.str [c])).map ([c] :: ·) = _
    rw [strs_map r]; rfl
theorem join_sing : ∀ l : List Nat, joinL [] (l.map fun c => [c]) = l
  | [] => rfl
  | [_] => rfl
  | a :: b :: r => by
    show [a] ++ [] ++ joinL [] ((b :: r).map fun c => [c]) = _
    rw [join_sing (b :: r)]; rfl
theorem sum_ones : ∀ l : List Nat, ((l.map fun c => [c]).map (·.length)).sum = l.length
  | [] => rfl
  | a :: r => by
    show 1 + ((r.map fun c => [c]).map (·.length)).sum = r.length + 1
    rw [sum_ones r]; omega
theorem textof_ok {k : Nat} {h : PH} {n : Nat} {Q : PV → PH → Prop} {E : PX → PH → Prop} (hn : n < 2 ^ 5000) (hq : ∀ l' h', Kp0 h h' → Tx 6000 l' → Q (.str l') h') : S (k + 2) 15 [.int (n : Int)] h Q E := by
  refine e__law_text_of ?_
  unfold b__law_text_of
  walk_at "wp"
  refine signs_ok ?_
  walk_at "wp"
  refine ⟨by rw [line_eq]; decide, ?_⟩
  refine ⟨_, rng_1' (n := 5901) (by decide) (by decide), ?_⟩
  dsimp only
  refine for_inv (fun i σ h' => Kp0 h h' ∧ ∃ (r : Nat) (l : List Nat) (y : Option PV), σ = [some (.int (n : Int)), some (.str SGL), some (.int (r : Int)), some (.loc h.length), y] ∧ r < 2 ^ (5000 - i) ∧ i ≤ 5000 ∧ (∀ c ∈ l, c ∈ SGL) ∧ l.length = i ∧ h'[h.length]? = some (.lst (l.map fun c => .str [c]))) ⟨Kp.snoc, n, [], none, rfl, hn, Nat.zero_le _, fun c hc => by simp at hc, rfl, get_new⟩ ?_ ?_
  · rintro i x σ h' K hx ⟨kp, r, l, y, rfl, hr, hi5, hl, hi, e⟩ hK
    obtain ⟨hi', rfl⟩ := rng_item hx
    replace hi' : i < 5901 := hi'
    refine ⟨trivial, ?_⟩
    walk_at "wp"
    by_cases z : r = 0
    · rw [if_pos (by rw [z]; rfl)]
      have el : lrevV G0 [.loc h.length] h' = some (.loc h'.length, h' ++ [.lst ((l.map fun c => PV.str [c]).reverse)]) := by
        unfold lrevV; dsimp only; rw [lstOf_lst e]; rfl
      rw [el]
      walk_at "wp"
      have ej : joinV G0 [.str [], .loc h'.length] (h' ++ [.lst ((l.map fun c => PV.str [c]).reverse)]) = some (.str l.reverse, h' ++ [.lst ((l.map fun c => PV.str [c]).reverse)]) := by
        unfold joinV
        dsimp only
        rw [seqOf_lst get_new, ← List.map_reverse]
        show (match (strsOf (l.reverse.map fun c => PV.str [c])) with | some ys => _ | none => _) = _
        rw [strs_map]
        dsimp only
        rw [if_pos (by rw [sum_ones, List.length_reverse]; simp; omega), join_sing]
      rw [ej]
      walk_at "wp"
      refine hq _ _ (kp.trans Kp.snoc) ⟨fun c hc => hl c (List.mem_reverse.mp hc), by rw [List.length_reverse]; omega⟩
    · rw [if_neg (by rw [decide_eq_true_eq]; omega)]
      have zi : i + 1 ≤ 5000 := by
        by_cases z5 : i = 5000
        · subst z5; rw [Nat.sub_self] at hr; omega
        · omega
      refine ⟨by rw [lstOf_lst e]; rfl, ?_⟩
      refine p_smod (by decide) ?_
      obtain ⟨j, hj⟩ : ∃ j : Nat, ((r : Int) - 1).fmod 33 = (j : Int) := ⟨_, (Int.toNat_of_nonneg (fmod_rng (by decide)).1).symm⟩
      have hj33 : j < 33 := by
        have := (fmod_rng (a := (r : Int) - 1) (b := 33) (by decide)).2
        rw [hj] at this; omega
      obtain ⟨c, hc, hcm⟩ := mem_sgl hj33
      rw [hj]
      refine ⟨_, idx_str (by decide) hc, ?_⟩
      rw [append_lst e (by rw [List.length_map, line_eq]; omega)]
      walk_at "wp"
      refine p_sdiv (by decide) (sm_lit (n := 33) (by decide) (by decide)) ?_
      obtain ⟨q, hq'⟩ : ∃ q : Nat, ((r : Int) - 1).fdiv 33 = (q : Int) := ⟨(((r : Int) - 1).fdiv 33).toNat, by rw [Int.fdiv_eq_ediv_of_nonneg _ (by decide)]; omega⟩
      have hqr : q * 33 ≤ r - 1 := by
        rw [Int.fdiv_eq_ediv_of_nonneg _ (by decide)] at hq'; omega
      rw [hq']
      refine hK _ _ ⟨kp.put (Nat.le_refl _), q, l ++ [c], _, rfl, ?_, zi, ?_, by simp [hi], ?_⟩
      · have e2 : 2 ^ (5000 - i) = 2 ^ (5000 - (i + 1)) * 2 := by rw [← Nat.pow_succ]; congr 1; omega
        omega
      · intro d hd
        rcases List.mem_append.mp hd with hd | hd
        · exact hl d hd
        · have : d = c := by simpa using hd
          rw [this]; exact hcm
      · rw [get_put e]; simp
  · rintro σ h' ⟨kp, r, l, y, rfl, hr, hi5, hl, hi, e⟩
    rw [rngL_len] at hi5
    exact absurd hi5 (by decide)
theorem shl_ok {h : PH} {p : Nat} (hp : p ≤ 1000000) {P : PV × PH → Prop} (hP : P (.int ((2 ^ p : Nat) : Int), h)) : ∃ r, binV G0 .LShift (.int 1) (.int (p : Int)) h = some r ∧ P r := by
  refine ⟨_, by rw [p_shl, if_pos ⟨by omega, by omega, by decide⟩], ?_⟩
  have e : (1 : Int) * 2 ^ (p : Int).toNat = ((2 ^ p : Nat) : Int) := by rw [Int.toNat_natCast, Int.one_mul]; simp
  rw [e]; exact hP
theorem pow18 {h : PH} {P : PV × PH → Prop} (hP : P (.int (10 ^ 18), h)) : ∃ r, binV G0 .Pow (.int 10) (.int 18) h = some r ∧ P r := ⟨_, by rw [p_pow, if_pos (by decide)]; rfl, hP⟩
/-- a value of the tongue that has a literal -/
def LV (b : Nat) (v : PV) : Prop := (∃ l, v = .str l ∧ Tx b l) ∨ ∃ n : Nat, v = .int (n : Int) ∧ n < 2 ^ 5000
theorem literal_ok {k b : Nat} {h : PH} {v : PV} {Q : PV → PH → Prop} {E : PX → PH → Prop} (hv : LV b v) (hb : b ≤ 900000) (hq : ∀ l' h', Kp0 h h' → Tx (b + 7000) l' → Q (.str l') h') : S (k + 3) 17 [v] h Q E := by
  refine e__law_literal ?_
  unfold b__law_literal
  rcases hv with ⟨l, rfl, hl⟩ | ⟨n, rfl, hn⟩
  · walk_at "wp"
    refine quote_ok hl (by omega) ?_
    intro l' hl'
    exact hq l' h Kp.refl (hl'.mono (by omega))
  · walk_at "wp"
    by_cases z : n < 10
    · rw [if_pos (by rw [decide_eq_true_eq]; omega)]
      refine p_str (k := 1) (by decide) (by omega) (by decide) ?_
      exact hq _ h Kp.refl ((tx_num (k := 1) (by decide) (by omega)).mono (by omega))
    · rw [if_neg (by rw [decide_eq_true_eq]; omega)]
      refine pow18 ?_
      dsimp only
      generalize hT : (10 : Int) ^ 18 = T
      have hT2 : T = 1000000000000000000 := by rw [← hT]; decide
      walk_at "wp"
      by_cases z2 : n < 1000000000000000000
      · have z3 : n < 10 ^ 18 := z2
        rw [if_pos (by rw [decide_eq_true_eq]; omega)]
        refine p_str (k := 18) (by decide) z3 (by decide) ?_
        have t1 : Tx 1 [35] := .lit (by decide)
        have t2 := t1.app (tx_num (by decide) z3)
        refine p_cat t1 (tx_num (by decide) z3) (by omega) ?_
        refine p_cat t2 (show Tx 1 [46] from .lit (by decide)) (by omega) ?_
        exact hq _ h Kp.refl ((t2.app (show Tx 1 [46] from .lit (by decide))).mono (by omega))
      · rw [if_neg (by rw [decide_eq_true_eq]; omega)]
        refine textof_ok hn ?_
        intro l' h' kp hl'
        walk_at "wp"
        rw [if_neg (by simp)]
        refine quote_ok hl' (by omega) ?_
        intro l2 hl2
        have t1 : Tx 1 [110] := .lit (by decide)
        refine p_cat t1 hl2 (by omega) ?_
        exact hq _ h' kp ((t1.app hl2).mono (by omega))
theorem rownum_ok {k : Nat} {h : PH} {n : Nat} {vs : List Nat} {Q : PV → PH → Prop} {E : PX → PH → Prop} (hs : h[n]? = some (.lst (IL (vs.map Int.ofNat)))) (hl : vs.length ≤ 20) (hv : ∀ v ∈ vs, v ≤ 100) (hq : ∀ m : Nat, m < 2 ^ 5000 → Q (.int (m : Int)) h) : S (k + 1) 18 [.loc n] h Q E := by
  refine e__law_row_number ?_
  unfold b__law_row_number
  walk_at "wp"
  refine ⟨_, _, deref_loc hs, rfl, ?_⟩
  refine for_inv (fun i σ h' => h' = h ∧ ∃ (a p : Nat) (y : Option PV), σ = [some (.loc n), some (.int (a : Int)), some (.int (p : Int)), y] ∧ p ≤ 101 * i ∧ a < 2 ^ p + 0 * i) ⟨rfl, 0, 0, none, rfl, Nat.zero_le _, by decide⟩ ?_ ?_
  · rintro i x σ h' K hx ⟨rfl, a, p, y, rfl, hp, ha⟩ hK
    obtain ⟨w, hw, rfl⟩ := val_item hx
    rw [IL_get, List.getElem?_map] at hw
    have hi := get_len hx
    rw [List.length_map, List.length_map, List.length_map] at hi
    rw [List.getElem?_eq_getElem hi] at hw
    have hw : some (PV.int (Int.ofNat vs[i])) = some w := hw
    cases hw
    have hvi := hv vs[i] (List.getElem_mem hi)
    generalize vs[i] = v at hvi
    refine ⟨deref_loc hs, ?_⟩
    walk_at "wp"
    have e1 : ((p : Int) + Int.ofNat v) = ((p + v : Nat) : Int) := rfl
    rw [e1]
    refine shl_ok (by omega) ?_
    walk_at "wp"
    have e2 : ((a : Int) + ((2 ^ (p + v) : Nat) : Int)) = ((a + 2 ^ (p + v) : Nat) : Int) := rfl
    have e3 : (((p + v : Nat) : Int) + 1) = ((p + v + 1 : Nat) : Int) := rfl
    rw [e2, e3]
    refine hK _ _ ⟨rfl, _, _, _, rfl, by rw [Nat.mul_succ]; omega, ?_⟩
    have h1 : 2 ^ p ≤ 2 ^ (p + v) := Nat.pow_le_pow_right (by decide) (by omega)
    rw [Nat.pow_succ]; omega
  · rintro σ h' ⟨rfl, a, p, y, rfl, hp, ha⟩
    refine ⟨deref_loc hs, ?_⟩
    rw [List.length_map, List.length_map, List.length_map] at hp
    walk_at "wp"
    refine hq a (Nat.lt_of_lt_of_le (show a < 2 ^ p by omega) (Nat.pow_le_pow_right (by decide) (by omega)))
theorem table_ok {k : Nat} {h : PH} {n : Nat} {vs : List Nat} {Q : PV → PH → Prop} {E : PX → PH → Prop} (hs : h[n]? = some (.lst (IL (vs.map Int.ofNat)))) (hl : vs.length ≤ 20) (hv : ∀ v ∈ vs, v ≤ 100) (hq : ∀ l' h', Kp0 h h' → Tx 8000 l' → Q (.str l') h') : S (k + 4) 19 [.loc n] h Q E := by
  refine e__law_table ?_
  unfold b__law_table
  walk_at "wp"
  refine rownum_ok hs hl hv ?_
  intro m hm
  refine literal_ok (b := 0) (.inr ⟨m, rfl, hm⟩) (by omega) ?_
  intro l' h' kp hl'
  have t1 : Tx 1 [114] := .lit (by decide)
  have t2 := t1.app hl'
  refine p_cat t1 hl' (by omega) ?_
  refine p_cat t2 (show Tx 1 [97] from .lit (by decide)) (by omega) ?_
  exact hq _ h' kp ((t2.app (show Tx 1 [97] from .lit (by decide))).mono (by omega))
theorem putin_ok {k b : Nat} {h : PH} {l : List Nat} {v : PV} {Q : PV → PH → Prop} {E : PX → PH → Prop} (hl : Tx b l) (hv : LV b v) (hb : b ≤ 100000) (hq : ∀ l' h', Kp0 h h' → Tx (2 * b + 8000) l' → Q (.str l') h') : S (k + 4) 21 [.str l, v] h Q E := by
  refine e__law_put_in ?_
  unfold b__law_put_in
  walk_at "wp"
  refine quote_ok hl (by omega) ?_
  intro l1 h1
  have t1 : Tx 1 [64] := .lit (by decide)
  refine p_cat t1 h1 (by omega) ?_
  walk_at "wp"
  refine literal_ok hv (by omega) ?_
  intro l2 h' kp h2
  have t2 := t1.app h1
  have t3 := t2.app h2
  refine p_cat t2 h2 (by omega) ?_
  refine p_cat t3 (show Tx 2 [97, 98] from .lit (by decide)) (by omega) ?_
  exact hq _ h' kp ((t3.app (show Tx 2 [97, 98] from .lit (by decide))).mono (by omega))
theorem padded_ok {k b : Nat} {h : PH} {l : List Nat} {v : PV} {Q : PV → PH → Prop} {E : PX → PH → Prop} (hl : Tx b l) (hv : LV b v) (hb : b ≤ 100000) (hq : ∀ l' h', Kp0 h h' → Tx (2 * b + 8000) l' → Q (.str l') h') : S (k + 4) 22 [.str l, v] h Q E := by
  refine e__law_padded ?_
  unfold b__law_padded
  walk_at "wp"
  refine quote_ok hl (by omega) ?_
  intro l1 h1
  have t1 : Tx 3 [63, 49, 64] := .lit (by decide)
  have t2 := t1.app h1
  have t3 := t2.app (show Tx 3 [97, 48, 48] from .lit (by decide))
  refine p_cat t1 h1 (by omega) ?_
  refine p_cat t2 (show Tx 3 [97, 48, 48] from .lit (by decide)) (by omega) ?_
  walk_at "wp"
  refine literal_ok hv (by omega) ?_
  intro l2 h' kp h2
  refine p_cat t3 h2 (by omega) ?_
  exact hq _ h' kp ((t3.app h2).mono (by omega))
theorem slowed_ok {k b : Nat} {h : PH} {l : List Nat} {v : PV} {Q : PV → PH → Prop} {E : PX → PH → Prop} (hl : Tx b l) (hv : LV b v) (hb : b ≤ 100000) (hq : ∀ l' h', Kp0 h h' → Tx (2 * b + 8000) l' → Q (.str l') h') : S (k + 4) 23 [.str l, v] h Q E := by
  refine e__law_slowed ?_
  unfold b__law_slowed
  walk_at "wp"
  refine quote_ok hl (by omega) ?_
  intro l1 h1
  have t1 : Tx 10 [63, 98, 64, 111, 97, 45, 98, 49, 48, 64] := .lit (by decide)
  have t2 := t1.app h1
  have t3 := t2.app (show Tx 3 [97, 48, 48] from .lit (by decide))
  refine p_cat t1 h1 (by omega) ?_
  refine p_cat t2 (show Tx 3 [97, 48, 48] from .lit (by decide)) (by omega) ?_
  walk_at "wp"
  refine quote_ok t3 (by omega) ?_
  intro l2 h2
  have s1 : Tx 1 [64] := .lit (by decide)
  have s2 := s1.app h2
  have s3 := s2.app (show Tx 1 [97] from .lit (by decide))
  refine p_cat s1 h2 (by omega) ?_
  refine p_cat s2 (show Tx 1 [97] from .lit (by decide)) (by omega) ?_
  walk_at "wp"
  refine literal_ok hv (by omega) ?_
  intro l3 h' kp h3
  have s4 := s3.app h3
  refine p_cat s3 h3 (by omega) ?_
  refine p_cat s4 (show Tx 1 [48] from .lit (by decide)) (by omega) ?_
  exact hq _ h' kp ((s4.app (show Tx 1 [48] from .lit (by decide))).mono (by omega))
end K90
set_option Elab.async false
set_option linter.all false
set_option maxRecDepth 100000
set_option maxHeartbeats 4000000
namespace K90
open PySem PySem.Spec PyProof.Rows Fw L2
local macro_rules | `(tactic| walk_at "wp") => `(tactic| try simp only [wpSs, wpSt, wpE, wpEs, wpT, wpTs, wpG, wpI, wpO, List.getElem?_cons_zero, List.getElem?_cons_succ, Option.some.injEq, exists_eq_left', exists_eq_left, Nat.reduceAdd, List.set_cons_zero, List.set_cons_succ, setAll, wipeP, prmV, mtyP, partP, ite_true, ite_false, if_true, if_false, Bool.false_eq_true, true_and, exists_const, List.length_cons, List.length_nil, p_add, p_sub, p_and, q_add, q_sub, c_lt, c_le, c_gt, c_ge, c_eq, c_ne, c_eqs, c_nes, c_is, c_isnt, c_isb, c_isntb, t_bl, t_int, i_int, i_bl, m_two, m_three, m_four, m_min, Item.v, Item.h, PV.int.injEq, PV.bl.injEq, PV.str.injEq, PV.loc.injEq, is_int, is_bl, is_non, is_str, ki_ii, ki_ib, ki_is, ki_it, ki_bi, ki_bb, ki_bs, ki_bt, ki_si, ki_sb, ki_ss, ki_st, ki_ni, ki_nb, ki_ns, ki_nt, Option.map_some, Bool.not_true, Bool.not_false, c_eqb, c_neb])
/-! rows of texts -/
def txB (b : Nat) (v : PV) : Bool := match v with
  | .str l => l.all (fun c => decide (c ∈ SGL)) && decide (l.length ≤ b)
  | _ => false
theorem txB_ok {b : Nat} {v : PV} (h : txB b v = true) : ∃ l, v = .str l ∧ Tx b l := by
  cases v with
  | str l =>
    have h : (l.all (fun c => decide (c ∈ SGL)) && decide (l.length ≤ b)) = true := h
    rw [Bool.and_eq_true] at h
    exact ⟨l, rfl, (Tx.lit h.1).1, of_decide_eq_true h.2⟩
  | _ => cases h
theorem pick {h : PH} {n i b : Nat} {vs : List PV} (e : h[n]? = some (.lst vs)) (hv : ∀ v ∈ vs, ∃ l, v = .str l ∧ Tx b l) (hi : i < vs.length) : ∃ l, idxP G0 h (.loc n) (.int (i : Int)) = some (.str l) ∧ Tx b l := by
  obtain ⟨l, hl, t⟩ := hv _ (List.getElem_mem hi)
  refine ⟨l, ?_, t⟩
  rw [idx_seq (seqOf_lst e), atI_nat', List.getElem?_eq_getElem hi, hl]
theorem pickB {h : PH} {n i b : Nat} {vs : List PV} (e : h[n]? = some (.lst vs)) (hv : vs.all (txB b) = true) (hi : i < vs.length) : ∃ l, idxP G0 h (.loc n) (.int (i : Int)) = some (.str l) ∧ Tx b l :=
  pick e (fun v hm => txB_ok (List.all_eq_true.mp hv v hm)) hi
theorem p_cat' {h : PH} {a b : Nat} {l m : List Nat} (hl : Tx a l) (hm : Tx b m) (w : a + b ≤ 10000000) {P : PV × PH → Prop} (hP : ∀ r, Tx (a + b) r → P (.str r, h)) : ∃ r, binV G0 .Add (.str l) (.str m) h = some r ∧ P r := p_cat hl hm w (hP _ (hl.app hm))
theorem catL {h : PH} {n m : Nat} {xs ys : List PV} {P : PV × PH → Prop} (e : h[n]? = some (.lst xs)) (e' : h[m]? = some (.lst ys)) (hl : xs.length + ys.length ≤ 1000) (hP : P (.loc h.length, h ++ [.lst (xs ++ ys)])) : ∃ r, binV G0 .Add (.loc n) (.loc m) h = some r ∧ P r :=
  ⟨_, cat_lst e e' (by rw [line_eq]; omega), hP⟩
theorem asker_ok {k i : Nat} {h : PH} {Q : PV → PH → Prop} {E : PX → PH → Prop} (hi : i < 11) (hq : ∀ l' h', Kp0 h h' → Tx 100 l' → Q (.str l') h') : S (k + 2) 27 [.int (i : Int)] h Q E := by
  refine e__law_asker ?_
  unfold b__law_asker
  walk_at "wp"
  refine quote_ok (b := 18) (.lit (by decide)) (by omega) ?_
  intro q1 t1
  refine p_cat' (show Tx 1 [64] from .lit (by decide)) t1 (by omega) fun a1 s1 => ?_
  refine p_cat' s1 (show Tx 3 [98, 97, 48] from .lit (by decide)) (by omega) fun a2 s2 => ?_
  walk_at "wp"
  refine quote_ok (b := 20) (.lit (by decide)) (by omega) ?_
  intro q2 t2
  refine p_cat' (show Tx 1 [64] from .lit (by decide)) t2 (by omega) fun b1 u1 => ?_
  refine p_cat' u1 (show Tx 3 [98, 97, 48] from .lit (by decide)) (by omega) fun b2 u2 => ?_
  walk_at "wp"
  refine quote_ok (b := 17) ((Tx.lit (by decide)).mono (by decide)) (by omega) ?_
  intro q3 t3
  refine p_cat' (show Tx 1 [64] from .lit (by decide)) t3 (by omega) fun d1 v1 => ?_
  refine p_cat' v1 (show Tx 3 [98, 97, 48] from .lit (by decide)) (by omega) fun d2 v2 => ?_
  walk_at "wp"
  refine ⟨by rw [line_eq]; decide, by rw [line_eq]; decide, ?_⟩
  refine catL (Kp.snoc.get0 get_new) get_new (by simp) ?_
  walk_at "wp"
  refine Exists.elim (pick (b := 100) (i := i) get_new ?_ ?_) fun l ⟨e, t⟩ => ⟨_, e, hq _ _ (Kp.snoc.trans (Kp.snoc.trans Kp.snoc)) t⟩
  rotate_left
  · exact hi
  · intro v hv
    rcases List.mem_append.mp hv with hv | hv
    · exact txB_ok (b := 100) (List.all_eq_true.mp (show List.all _ (txB 100) = true by decide) v hv)
    · simp only [List.mem_cons, List.not_mem_nil, or_false] at hv
      rcases hv with rfl | rfl | rfl | rfl | rfl
      · exact txB_ok (by decide)
      · exact ⟨_, rfl, s2.mono (by omega)⟩
      · exact ⟨_, rfl, u2.mono (by omega)⟩
      · exact ⟨_, rfl, v2.mono (by omega)⟩
      · exact txB_ok (by decide)
theorem looker_ok {k i : Nat} {h : PH} {Q : PV → PH → Prop} {E : PX → PH → Prop} (hi : i < 8) (hq : ∀ l' h', Kp0 h h' → Tx 100 l' → Q (.str l') h') : S (k + 2) 28 [.int (i : Int)] h Q E := by
  refine e__law_looker ?_
  unfold b__law_looker
  walk_at "wp"
  refine quote_ok (b := 20) ((Tx.lit (by decide)).mono (by decide)) (by omega) ?_
  intro q1 t1
  refine p_cat' (show Tx 1 [64] from .lit (by decide)) t1 (by omega) fun a1 s1 => ?_
  refine p_cat' s1 (show Tx 3 [48, 97, 98] from .lit (by decide)) (by omega) fun a2 s2 => ?_
  walk_at "wp"
  refine ⟨by rw [line_eq]; decide, ?_⟩
  refine Exists.elim (pick (b := 100) (i := i) get_new ?_ ?_) fun l ⟨e, t⟩ => ⟨_, e, hq _ _ Kp.snoc t⟩
  rotate_left
  · exact hi
  · intro v hv
    simp only [List.mem_cons, List.not_mem_nil, or_false] at hv
    rcases hv with rfl | rfl | rfl | rfl | rfl | rfl | rfl | rfl
    · exact txB_ok (by decide)
    · exact txB_ok (by decide)
    · exact txB_ok (by decide)
    · exact txB_ok (by decide)
    · exact txB_ok (by decide)
    · exact ⟨_, rfl, s2.mono (by omega)⟩
    · exact txB_ok (by decide)
    · exact txB_ok (by decide)
/-- the numbers of a drawn text -/
structure Row9 (rs : List Nat) : Prop where
  len : rs.length = 9
  cnt : rs.getD 1 0 ≤ 6
  low : ∀ i, 2 ≤ i → i ≤ 7 → rs.getD i 0 < 10
  six : rs.getD 8 0 < 6
abbrev NL (rs : List Nat) : List PV := IL (rs.map Int.ofNat)
theorem nl_at {h : PH} {n i : Nat} {rs : List Nat} {j : Int} (e : h[n]? = some (.lst (NL rs))) (hj : j = (i : Int)) (hi : i < rs.length) : idxP G0 h (.loc n) (.int j) = some (.int ((rs.getD i 0 : Nat) : Int)) := by
  rw [hj, idx_seq (seqOf_lst e), atI_nat', IL_get, List.getElem?_map, List.getElem?_eq_getElem hi, List.getD_eq_getElem?_getD, List.getElem?_eq_getElem hi]
  rfl
def d24 (n : Nat) : List IS := b__law_steady.drop n
theorem dig1 {h : PH} {n : Nat} (hn : n < 10) {P : PV × PH → Prop} (hP : ∀ l, Tx 1 l → P (.str l, h)) : ∃ r, strV [.int (n : Int)] h = some r ∧ P r :=
  p_str (k := 1) (by decide) (by omega) (by decide) (hP _ (tx_num (by decide) (by omega)))
theorem lv_num {n : Nat} (h : n < 100) : LV 0 (.int (n : Int)) := .inr ⟨n, rfl, Nat.lt_of_lt_of_le h (Nat.le_trans (show 100 ≤ 2 ^ 7 by decide) (Nat.pow_le_pow_right (by decide) (by omega)))⟩
theorem LV.mono {a b : Nat} {v : PV} (h : LV a v) (k : a ≤ b) : LV b v := by
  rcases h with ⟨l, rfl, t⟩ | h
  · exact .inl ⟨l, rfl, t.mono k⟩
  · exact .inr h
end K90
set_option Elab.async false
set_option linter.all false
set_option maxRecDepth 100000
set_option maxHeartbeats 4000000
namespace K90
open PySem PySem.Spec PyProof.Rows Fw L2
local macro_rules | `(tactic| walk_at "wp") => `(tactic| try simp only [wpSs, wpSt, wpE, wpEs, wpT, wpTs, wpG, wpI, wpO, List.getElem?_cons_zero, List.getElem?_cons_succ, Option.some.injEq, exists_eq_left', exists_eq_left, Nat.reduceAdd, List.set_cons_zero, List.set_cons_succ, setAll, wipeP, prmV, mtyP, partP, ite_true, ite_false, if_true, if_false, Bool.false_eq_true, true_and, exists_const, List.length_cons, List.length_nil, p_add, p_sub, p_and, q_add, q_sub, c_lt, c_le, c_gt, c_ge, c_eq, c_ne, c_eqs, c_nes, c_is, c_isnt, c_isb, c_isntb, t_bl, t_int, i_int, i_bl, m_two, m_three, m_four, m_min, Item.v, Item.h, PV.int.injEq, PV.bl.injEq, PV.str.injEq, PV.loc.injEq, is_int, is_bl, is_non, is_str, ki_ii, ki_ib, ki_is, ki_it, ki_bi, ki_bb, ki_bs, ki_bt, ki_si, ki_sb, ki_ss, ki_st, ki_ni, ki_nb, ki_ns, ki_nt, Option.map_some, Bool.not_true, Bool.not_false, c_eqb, c_neb])
theorem at_last {α : Type} {xs : List α} (h : 0 < xs.length) : L2.atI xs (-1) = xs[xs.length - 1]? := by
  unfold L2.atI L2.ixN
  rw [if_neg (by omega), if_pos (by omega)]
  show xs[((-1 : Int) + (xs.length : Int)).toNat]? = _
  congr 1
  omega
theorem nl_last {h : PH} {n : Nat} {rs : List Nat} (e : h[n]? = some (.lst (NL rs))) (hl : 0 < rs.length) : idxP G0 h (.loc n) (.int (-1)) = some (.int ((rs.getD (rs.length - 1) 0 : Nat) : Int)) := by
  rw [idx_seq (seqOf_lst e), at_last (by simp; exact hl), List.length_map, List.length_map]
  have hi : rs.length - 1 < rs.length := by omega
  rw [IL_get, List.getElem?_map, List.getElem?_eq_getElem hi, List.getD_eq_getElem?_getD, List.getElem?_eq_getElem hi]
  rfl
theorem set_last {h : PH} {n : Nat} {rs : List Nat} {c : Nat} {P : PH → Prop} (e : h[n]? = some (.lst (NL rs))) (hl : 0 < rs.length) (hP : P (h.set n (.lst (NL (rs.set (rs.length - 1) c))))) : ∃ h', setP (.loc n) (.int (-1)) (.int (c : Int)) h = some h' ∧ P h' := by
  refine ⟨_, ?_, hP⟩
  unfold setP
  dsimp only
  rw [e]
  dsimp only
  have e2 : L2.ixN (NL rs).length (-1) = some (rs.length - 1) := by
    unfold L2.ixN
    rw [if_neg (by omega), if_pos (by simp; omega)]
    simp; omega
  rw [e2]
  simp [IL, List.map_set]
theorem vals_row {rs : List Nat} {c : Nat} (R : Row9 rs) (hc : c ≤ 6) : (((List.range c).map fun k => rs.getD (2 + k) 0).length = c) ∧ ∀ v ∈ (List.range c).map fun k => rs.getD (2 + k) 0, v ≤ 9 := by
  refine ⟨by simp, fun v hv => ?_⟩
  obtain ⟨k, hk, rfl⟩ := List.mem_map.mp hv
  have := List.mem_range.mp hk
  have := R.low (2 + k) (by omega) (by omega)
  omega
/-- [row[2 + k] for k in range(c)] -/
theorem vals_ok {h g : PH} {n c : Nat} {rs : List Nat} {tg : PV → PSt → PH → (PSt → PH → Prop) → Prop} {el : PSt → PH → (PV → PH → Prop) → Prop} {σ0 : PSt} {Q : PV → PH → Prop} (hs : h[n]? = some (.lst (NL rs))) (R : Row9 rs) (hc : c ≤ 6)
    (st : ∀ (i : Nat) (h' : PH) (K : PV → PH → Prop), (idxP G0 h' (.loc n) (.int (2 + (i : Int))) = some (.int ((rs.getD (2 + i) 0 : Nat) : Int))) → K (.int ((rs.getD (2 + i) 0 : Nat) : Int)) h' → tg (.int (i : Int)) σ0 h' fun σ2 h2 => el σ2 h2 K)
    (hq : Q (.loc h.length) (h ++ [.lst (NL ((List.range c).map fun k => rs.getD (2 + k) 0))])) :
    wpLc tg (fun _ h Q => Q true h) el σ0 h.length Q (fun _ => True) (rngL 0 1 c) (h ++ [.lst []]) := by
  refine lc_map (NL ((List.range c).map fun k => rs.getD (2 + k) 0)) rfl (by simp [rngL_len]) (by rw [rngL_len, line_eq]; omega) (fun _ => trivial) rngL_val ?_ hq
  intro i x y h' K kp hx hy hK
  obtain ⟨hi, e⟩ := rng_item hx
  cases e
  have e2 := nl_at (j := 2 + (i : Int)) (kp.get0 hs) (by omega) (show 2 + i < rs.length by rw [R.len]; omega)
  rw [IL_get, List.getElem?_map, List.getElem?_map, List.getElem?_range hi] at hy
  cases hy
  exact st i h' K e2 hK
theorem steady_ok {k : Nat} {h : PH} {n : Nat} {rs : List Nat} {Q : PV → PH → Prop} {E : PX → PH → Prop} (hs : h[n]? = some (.lst (NL rs))) (R : Row9 rs) (hq : ∀ l' h', Kp0 h h' → Tx 30000 l' → Q (.str l') h') : S (k + 5) 24 [.loc n] h Q E := by
  refine e__law_steady ?_
  show wpSs G0 (S (k + 4)) (Sp (k + 4)) (fun x _ => E x) (d24 0) _ _ _
  have ln := R.len
  rw [show d24 0 = _ :: d24 1 from rfl]
  walk_at "wp"
  rw [nl_at (i := 1) (j := 1) hs rfl (by omega)]
  refine ⟨_, rfl, ?_⟩
  generalize hc : rs.getD 1 0 = c
  have c6 : c ≤ 6 := hc ▸ R.cnt
  rw [show d24 1 = _ :: d24 2 from rfl]
  walk_at "wp"
  refine ⟨_, rng_1' (n := c) rfl (by omega), ?_⟩
  dsimp only
  refine vals_ok (g := h) hs R c6 ?_ ?_
  · intro i h' K e hK
    walk_at "wp"
    rw [e]
    exact ⟨_, rfl, hK⟩
  obtain ⟨vl, vb⟩ := vals_row R c6
  generalize ((List.range c).map fun k => rs.getD (2 + k) 0) = V at vl vb
  have st3 : ∀ {g : PH} {V' : List Nat}, Kp0 h g → g[h.length]? = some (.lst (NL V')) → V'.length = c → (∀ v ∈ V', v ≤ 100) → wpSs G0 (S (k + 4)) (Sp (k + 4)) (fun x _ => E x) (d24 3) { nx := fun _ h' => Q .non h', rt := Q } [some (.loc n), some (.int (c : Int)), some (.loc h.length), none, none, none] g := by
    intro g V' kg e1 e2 e3
    rw [show d24 3 = _ :: d24 4 from rfl]
    walk_at "wp"
    refine table_ok e1 (by omega) e3 ?_
    intro T g2 kg2 hT
    replace kg2 := kg.trans kg2
    have hs2 := kg2.get0 hs
    have rd : ∀ {g' : PH} (i : Nat) (j : Int), Kp0 g2 g' → j = (i : Int) → i < 9 → idxP G0 g' (.loc n) (.int j) = some (.int ((rs.getD i 0 : Nat) : Int)) := fun i j kk e hi => nl_at (kk.get0 hs2) e (by omega)
    have low : ∀ i, 2 ≤ i → i ≤ 7 → rs.getD i 0 < 10 := R.low
    have six := R.six
    rw [show d24 4 = _ :: _ :: d24 6 from rfl]
    walk_at "wp"
    rw [rd 0 0 Kp.refl rfl (by omega)]
    refine ⟨_, rfl, ?_⟩
    walk_at "wp"
    by_cases z : ((rs.getD 0 0 : Nat) : Int) < 4
    · rw [if_pos (decide_eq_true z)]
      exact hq T g2 kg2 (hT.mono (by omega))
    rw [if_neg (by rw [decide_eq_true_eq]; exact z)]
    rw [show d24 6 = _ :: d24 7 from rfl]
    walk_at "wp"
    by_cases z : ((rs.getD 0 0 : Nat) : Int) = 4
    · rw [if_pos (decide_eq_true z)]
      rw [rd 7 7 Kp.refl rfl (by omega)]
      refine ⟨_, rfl, ?_⟩
      refine padded_ok hT ((lv_num (by have := low 7 (by omega) (by omega); omega)).mono (Nat.zero_le _)) (by omega) ?_
      intro l' h' kp hl'
      exact hq l' h' (kg2.trans kp) (hl'.mono (by omega))
    rw [if_neg (by rw [decide_eq_true_eq]; exact z)]
    rw [show d24 7 = _ :: d24 8 from rfl]
    walk_at "wp"
    by_cases z : ((rs.getD 0 0 : Nat) : Int) = 5
    · rw [if_pos (decide_eq_true z)]
      rw [rd 8 8 Kp.refl rfl (by omega)]
      refine ⟨_, rfl, ?_⟩
      refine slowed_ok hT ((lv_num (by omega)).mono (Nat.zero_le _)) (by omega) ?_
      intro l' h' kp hl'
      exact hq l' h' (kg2.trans kp) (hl'.mono (by omega))
    rw [if_neg (by rw [decide_eq_true_eq]; exact z)]
    rw [show d24 8 = _ :: d24 9 from rfl]
    walk_at "wp"
    by_cases z : ((rs.getD 0 0 : Nat) : Int) = 6
    · rw [if_pos (decide_eq_true z)]
      refine ⟨by rw [line_eq]; decide, ?_⟩
      rw [rd 8 8 Kp.snoc rfl (by omega)]
      refine ⟨_, rfl, ?_⟩
      refine Exists.elim (pickB (b := 2) (i := rs.getD 8 0) get_new ?_ ?_) fun l ⟨e, t⟩ => ⟨_, e, ?_⟩
      · decide
      · exact six
      rw [rd 2 2 Kp.snoc rfl (by omega)]
      refine ⟨_, rfl, ?_⟩
      refine dig1 (low 2 (by omega) (by omega)) fun d td => ?_
      refine p_cat' t td (by omega) fun r tr => ?_
      exact hq _ _ (kg2.trans Kp.snoc) (tr.mono (by omega))
    rw [if_neg (by rw [decide_eq_true_eq]; exact z)]
    rw [show d24 9 = _ :: d24 10 from rfl]
    walk_at "wp"
    by_cases z : ((rs.getD 0 0 : Nat) : Int) = 7
    · rw [if_pos (decide_eq_true z)]
      rw [rd 2 2 Kp.refl rfl (by omega)]
      refine ⟨_, rfl, ?_⟩
      refine dig1 (low 2 (by omega) (by omega)) fun d td => ?_
      refine p_cat' (show Tx 9 [63, 97, 64, 111, 45, 97, 49, 43, 98] from .lit (by decide)) td (by omega) fun r1 t1 => ?_
      refine p_cat' t1 (show Tx 2 [48, 98] from .lit (by decide)) (by omega) fun r2 t2 => ?_
      refine quote_ok t2 (by omega) ?_
      intro r3 t3
      refine p_cat' (show Tx 1 [64] from .lit (by decide)) t3 (by omega) fun r4 t4 => ?_
      refine p_cat' t4 (show Tx 3 [97, 48, 48] from .lit (by decide)) (by omega) fun r5 t5 => ?_
      exact hq _ _ kg2 (t5.mono (by omega))
    rw [if_neg (by rw [decide_eq_true_eq]; exact z)]
    rw [show d24 10 = _ :: d24 11 from rfl]
    walk_at "wp"
    by_cases z : ((rs.getD 0 0 : Nat) : Int) = 8
    · rw [if_pos (decide_eq_true z)]
      rw [rd 7 7 Kp.refl rfl (by omega)]
      refine ⟨_, rfl, ?_⟩
      refine dig1 (low 7 (by omega) (by omega)) fun d td => ?_
      refine p_cat' (show Tx 3 [63, 61, 97] from .lit (by decide)) td (by omega) fun r1 t1 => ?_
      rw [rd 2 2 Kp.refl rfl (by omega)]
      refine ⟨_, rfl, ?_⟩
      refine dig1 (low 2 (by omega) (by omega)) fun d2 td2 => ?_
      refine p_cat' t1 td2 (by omega) fun r2 t2 => ?_
      refine p_cat' t2 hT (by omega) fun r3 t3 => ?_
      exact hq _ _ kg2 (t3.mono (by omega))
    rw [if_neg (by rw [decide_eq_true_eq]; exact z)]
    rw [show d24 11 = _ :: d24 12 from rfl]
    walk_at "wp"
    by_cases z : ((rs.getD 0 0 : Nat) : Int) = 9
    · rw [if_pos (decide_eq_true z)]
      rw [rd 8 8 Kp.refl rfl (by omega)]
      refine ⟨_, rfl, ?_⟩
      refine dig1 (by omega) fun d td => ?_
      refine p_cat' (show Tx 3 [63, 60, 97] from .lit (by decide)) td (by omega) fun r1 t1 => ?_
      refine p_cat' t1 (show Tx 7 [64, 111, 43, 97, 49, 48, 48] from .lit (by decide)) (by omega) fun r2 t2 => ?_
      refine p_cat' t2 hT (by omega) fun r3 t3 => ?_
      exact hq _ _ kg2 (t3.mono (by omega))
    rw [if_neg (by rw [decide_eq_true_eq]; exact z)]
    rw [show d24 12 = _ :: d24 13 from rfl]
    walk_at "wp"
    by_cases z : ((rs.getD 0 0 : Nat) : Int) = 10
    · rw [if_pos (decide_eq_true z)]
      rw [rd 7 7 Kp.refl rfl (by omega)]
      refine ⟨_, rfl, ?_⟩
      refine putin_ok (b := 3) (.lit (by decide)) ((lv_num (by have := low 7 (by omega) (by omega); omega)).mono (Nat.zero_le _)) (by omega) ?_
      intro l' h' kp hl'
      exact hq l' h' (kg2.trans kp) (hl'.mono (by omega))
    rw [if_neg (by rw [decide_eq_true_eq]; exact z)]
    rw [show d24 13 = [_] from rfl]
    walk_at "wp"
    rw [rd 2 2 Kp.refl rfl (by omega)]
    refine ⟨_, rfl, ?_⟩
    refine dig1 (low 2 (by omega) (by omega)) fun d td => ?_
    exact hq _ _ kg2 (td.mono (by omega))
  rw [show d24 2 = _ :: d24 3 from rfl]
  walk_at "wp"
  have kv : Kp0 h (h ++ [.lst (NL V)]) := Kp.snoc
  have ev : (h ++ [.lst (NL V)])[h.length]? = some (.lst (NL V)) := get_new
  have hs2 := kv.get0 hs
  generalize h ++ [PO.lst (NL V)] = g at kv ev hs2
  rw [nl_at (i := 8) (j := 8) hs2 rfl (by omega)]
  refine ⟨_, rfl, ?_⟩
  walk_at "wp"
  by_cases z : ((rs.getD 8 0 : Nat) : Int) = 5
  · rw [if_pos (decide_eq_true z)]
    by_cases z2 : (0 : Int) < (c : Int)
    · rw [if_pos (decide_eq_true z2)]
      rw [nl_last ev (by omega)]
      refine ⟨_, rfl, ?_⟩
      walk_at "wp"
      have e31 : (((V.getD (V.length - 1) 0 : Nat) : Int) + 31) = ((V.getD (V.length - 1) 0 + 31 : Nat) : Int) := rfl
      rw [e31]
      refine set_last ev (by omega) ?_
      refine st3 (kv.put (Nat.le_refl _)) (get_put ev) (by simp [vl]) ?_
      intro v hv
      rcases List.mem_or_eq_of_mem_set hv with hv | rfl
      · have := vb v hv; omega
      · have : V.getD (V.length - 1) 0 ≤ 9 := by
          rw [List.getD_eq_getElem?_getD, List.getElem?_eq_getElem (show V.length - 1 < V.length by omega)]
          exact vb _ (List.getElem_mem _)
        omega
    · rw [if_neg (by rw [decide_eq_true_eq]; exact z2)]
      exact st3 kv ev vl (fun v hv => by have := vb v hv; omega)
  · rw [if_neg (by rw [decide_eq_true_eq]; exact z)]
    exact st3 kv ev vl (fun v hv => by have := vb v hv; omega)
end K90
set_option Elab.async false
set_option linter.all false
set_option maxRecDepth 100000
set_option maxHeartbeats 4000000
namespace K90
open PySem PySem.Spec PyProof.Rows Fw L2
local macro_rules | `(tactic| walk_at "wp") => `(tactic| try simp only [wpSs, wpSt, wpE, wpEs, wpT, wpTs, wpG, wpI, wpO, List.getElem?_cons_zero, List.getElem?_cons_succ, Option.some.injEq, exists_eq_left', exists_eq_left, Nat.reduceAdd, List.set_cons_zero, List.set_cons_succ, setAll, wipeP, prmV, mtyP, partP, ite_true, ite_false, if_true, if_false, Bool.false_eq_true, true_and, exists_const, List.length_cons, List.length_nil, p_add, p_sub, p_and, q_add, q_sub, c_lt, c_le, c_gt, c_ge, c_eq, c_ne, c_eqs, c_nes, c_is, c_isnt, c_isb, c_isntb, t_bl, t_int, i_int, i_bl, m_two, m_three, m_four, m_min, Item.v, Item.h, PV.int.injEq, PV.bl.injEq, PV.str.injEq, PV.loc.injEq, is_int, is_bl, is_non, is_str, ki_ii, ki_ib, ki_is, ki_it, ki_bi, ki_bb, ki_bs, ki_bt, ki_si, ki_sb, ki_ss, ki_st, ki_ni, ki_nb, ki_ns, ki_nt, Option.map_some, Bool.not_true, Bool.not_false, c_eqb, c_neb])
theorem strs_tx {b : Nat} : ∀ {ys : List PV}, (∀ y ∈ ys, ∃ l, y = .str l ∧ Tx b l) → ∃ ls, strsOf ys = some ls ∧ ls.length = ys.length ∧ ∀ l ∈ ls, Tx b l
  | [], _ => ⟨[], rfl, rfl, fun l hl => by simp at hl⟩
  | y :: ys, h => by
    obtain ⟨l, rfl, t⟩ := h _ (List.mem_cons_self ..)
    obtain ⟨ls, e, hl, ht⟩ := strs_tx (ys := ys) fun y hy => h y (List.mem_cons_of_mem _ hy)
    refine ⟨l :: ls, ?_, by simp [hl], fun m hm => ?_⟩
    · show (strsOf ys).map (l :: ·) = _
      rw [e]; rfl
    · rcases List.mem_cons.mp hm with rfl | hm
      · exact t
      · exact ht m hm
theorem join_tx {b : Nat} : ∀ {ls : List (List Nat)}, (∀ l ∈ ls, Tx b l) → Tx (b * ls.length) (joinL [] ls) ∧ (ls.map (·.length)).sum ≤ b * ls.length
  | [], _ => ⟨Tx.nil, Nat.zero_le _⟩
  | [x], h => by
    have := h x (List.mem_cons_self ..)
    refine ⟨this.mono (by simp), ?_⟩
    have := this.2
    simp; omega
  | x :: y :: r, h => by
    have h1 := h x (List.mem_cons_self ..)
    obtain ⟨h2, h3⟩ := join_tx (ls := y :: r) fun l hl => h l (List.mem_cons_of_mem _ hl)
    have e : b * (x :: y :: r).length = b * (y :: r).length + b := Nat.mul_succ ..
    refine ⟨?_, ?_⟩
    · show Tx _ (x ++ [] ++ joinL [] (y :: r))
      rw [List.append_nil, e, Nat.add_comm]
      exact h1.app h2
    · show x.length + ((y :: r).map (·.length)).sum ≤ _
      have := h1.2
      omega
theorem p_join {h : PH} {n b : Nat} {ys : List PV} (e : h[n]? = some (.lst ys)) (hy : ∀ y ∈ ys, ∃ l, y = .str l ∧ Tx b l) (w : b * ys.length ≤ 1000000) {P : PV × PH → Prop} (hP : ∀ l, Tx (b * ys.length) l → P (.str l, h)) : ∃ r, joinV G0 [.str [], .loc n] h = some r ∧ P r := by
  obtain ⟨ls, e1, e2, e3⟩ := strs_tx hy
  obtain ⟨j1, j2⟩ := join_tx e3
  rw [e2] at j1 j2
  refine ⟨_, ?_, hP _ j1⟩
  unfold joinV
  dsimp only
  rw [seqOf_lst e]
  show (match strsOf ys with | some ys => _ | none => _) = _
  rw [e1]
  dsimp only
  rw [if_pos (by rw [show ([] : List Nat).length = 0 from rfl, Nat.mul_zero]; omega)]
theorem part_ok {k : Nat} {h : PH} {n : Nat} {ps : List PV} {Q : PV → PH → Prop} {E : PX → PH → Prop} (hs : h[n]? = some (.lst ps)) (hl : ps.length ≤ 10) (hp : ∀ p ∈ ps, ∃ (m a b : Nat), p = .loc m ∧ h[m]? = some (.lst [.int (a : Int), .int (b : Int)]) ∧ a < 100 ∧ b < 100)
    (hq : ∀ l' h', Kp0 h h' → Tx 200000 l' → Q (.str l') h') : S (k + 4) 20 [.loc n] h Q E := by
  refine e__law_part ?_
  unfold b__law_part
  walk_at "wp"
  refine ⟨_, _, deref_loc hs, rfl, ?_⟩
  refine lc_gen rfl (by rw [List.length_map, line_eq]; omega) (fun i ys h' => ∀ y ∈ ys, ∃ l, y = .str l ∧ Tx 14003 l) (fun y hy => by simp at hy) (fun _ _ _ _ z _ => z) (fun i ys h' kp _ => deref_loc (kp.get0 hs)) ?_ ?_
  · intro i x ys h' K kp hI hx hl' hK
    obtain ⟨v, hv, rfl⟩ := val_item hx
    obtain ⟨m, a, b, rfl, em, ha, hb⟩ := hp v (List.mem_of_getElem? hv)
    have em2 := kp.get0 em
    have i0 : ∀ {g : PH}, Kp0 h' g → idxP G0 g (.loc m) (.int 0) = some (.int (a : Int)) := fun kk => by rw [idx_seq (seqOf_lst (kk.get0 em2))]; rfl
    have i1 : ∀ {g : PH}, Kp0 h' g → idxP G0 g (.loc m) (.int 1) = some (.int (b : Int)) := fun kk => by rw [idx_seq (seqOf_lst (kk.get0 em2))]; rfl
    walk_at "wp"
    rw [i0 Kp.refl]
    refine ⟨_, rfl, ?_⟩
    refine literal_ok (b := 0) (lv_num ha) (by omega) ?_
    intro l1 h1 k1 t1
    refine p_cat' (show Tx 3 [63, 61, 97] from .lit (by decide)) t1 (by omega) fun r1 u1 => ?_
    walk_at "wp"
    rw [i1 k1]
    refine ⟨_, rfl, ?_⟩
    refine literal_ok (b := 0) (lv_num hb) (by omega) ?_
    intro l2 h2 k2 t2
    refine p_cat' u1 t2 (by omega) fun r2 u2 => ?_
    refine hK _ _ (k1.trans k2) ?_
    intro y hy
    rcases List.mem_append.mp hy with hy | hy
    · exact hI y hy
    · have : y = .str r2 := by simpa using hy
      exact ⟨r2, this, u2.mono (by omega)⟩
  · intro ys h' kp hd hl' hI
    rw [List.length_map] at hl'
    walk_at "wp"
    refine p_join hd hI (by rw [hl']; omega) fun l t => ?_
    rw [hl'] at t
    refine p_cat' t (show Tx 1 [117] from .lit (by decide)) (by omega) fun r u => ?_
    exact hq _ _ kp (u.mono (by omega))
def d25 (n : Nat) : List IS := b__law_any_text.drop n
theorem row9_cons {rs : List Nat} {x : Nat} (R : Row9 rs) : Row9 (x :: rs.tail) := by
  obtain ⟨h1, h2, h3, h4⟩ := R
  cases rs with
  | nil => simp at h1
  | cons a r =>
    refine ⟨by simpa using h1, h2, fun i hi hj => ?_, h4⟩
    cases i with
    | zero => omega
    | succ i => exact h3 (i + 1) hi hj
theorem anytext_ok {k : Nat} {h : PH} {n : Nat} {rs : List Nat} {Q : PV → PH → Prop} {E : PX → PH → Prop} (hs : h[n]? = some (.lst (NL rs))) (R : Row9 rs) (h16 : rs.getD 0 0 < 16) (hq : ∀ l' h', Kp0 h h' → Tx 300000 l' → Q (.str l') h') : S (k + 6) 25 [.loc n] h Q E := by
  refine e__law_any_text ?_
  show wpSs G0 (S (k + 5)) (Sp (k + 5)) (fun x _ => E x) (d25 0) _ _ _
  have ln := R.len
  have rd : ∀ {g' : PH} (i : Nat) (j : Int), Kp0 h g' → j = (i : Int) → i < 9 → idxP G0 g' (.loc n) (.int j) = some (.int ((rs.getD i 0 : Nat) : Int)) := fun i j kk e hi => nl_at (kk.get0 hs) e (by omega)
  have low : ∀ i, 2 ≤ i → i ≤ 7 → rs.getD i 0 < 10 := R.low
  have six := R.six
  rw [show d25 0 = _ :: _ :: d25 2 from rfl]
  walk_at "wp"
  rw [rd 0 0 Kp.refl rfl (by omega)]
  refine ⟨_, rfl, ?_⟩
  walk_at "wp"
  by_cases z : ((rs.getD 0 0 : Nat) : Int) < 8
  · rw [if_pos (decide_eq_true z)]
    refine ⟨by rw [line_eq]; decide, ?_⟩
    have e8 : idxP G0 (h ++ [PO.lst (NL [0, 5, 6, 7, 9, 4, 1, 8])]) (.loc h.length) (.int ((rs.getD 0 0 : Nat) : Int)) = some (.int (([0, 5, 6, 7, 9, 4, 1, 8].getD (rs.getD 0 0) 0 : Nat) : Int)) := nl_at get_new rfl (by show rs.getD 0 0 < 8; omega)
    refine ⟨_, e8, ?_⟩
    refine ⟨by rw [line_eq]; decide, ?_⟩
    generalize ([0, 5, 6, 7, 9, 4, 1, 8].getD (rs.getD 0 0) 0 : Nat) = x
    have hs2 := (Kp.snoc (S := []) (o := PO.lst [.int (x : Int)])).get0 ((Kp.snoc (S := []) (o := PO.lst (NL [0, 5, 6, 7, 9, 4, 1, 8]))).get0 hs)
    have sl : slcV G0 (.loc n) (some (1 : Int)) none (h ++ [PO.lst (NL [0, 5, 6, 7, 9, 4, 1, 8])] ++ [PO.lst [.int (x : Int)]]) = some (.loc (h ++ [PO.lst (NL [0, 5, 6, 7, 9, 4, 1, 8])] ++ [PO.lst [.int (x : Int)]]).length, h ++ [PO.lst (NL [0, 5, 6, 7, 9, 4, 1, 8])] ++ [PO.lst [.int (x : Int)]] ++ [.lst (NL rs.tail)]) := by
      rw [slc_lst (lstOf_lst hs2)]
      have : cutP (NL rs) (some (1 : Int)) none = NL rs.tail := by
        unfold cutP
        have h1 : HT.sIx (NL rs).length 0 (some ((1 : Nat) : Int)) = min 1 (NL rs).length := HT.sIx_nat _ _ 1
        have h2 : HT.sIx (NL rs).length (NL rs).length none = (NL rs).length := rfl
        rw [h2, show (some (1 : Int)) = some ((1 : Nat) : Int) from rfl, h1]
        cases rs with
        | nil => rfl
        | cons a r =>
          simp [IL]
          exact List.take_of_length_le (by simp)
      rw [this]
    refine ⟨_, sl, ?_⟩
    refine catL (Kp.snoc.get0 get_new) get_new (by simp; omega) ?_
    walk_at "wp"
    refine steady_ok (rs := x :: rs.tail) get_new (row9_cons R) ?_
    intro l' h' kp hl'
    exact hq l' h' (Kp.snoc.trans (Kp.snoc.trans (Kp.snoc.trans (Kp.snoc.trans kp)))) (hl'.mono (by omega))
  rw [if_neg (by rw [decide_eq_true_eq]; exact z)]
  rw [show d25 2 = _ :: d25 3 from rfl]
  walk_at "wp"
  rw [rd 1 1 Kp.refl rfl (by omega)]
  refine ⟨_, rfl, ?_⟩
  generalize hc : rs.getD 1 0 = c
  have c6 : c ≤ 6 := hc ▸ R.cnt
  refine ⟨_, rng_1' (n := c) rfl (by omega), ?_⟩
  dsimp only
  refine vals_ok (g := h) hs R c6 ?_ ?_
  · intro i h' K e hK
    walk_at "wp"
    rw [e]
    exact ⟨_, rfl, hK⟩
  obtain ⟨vl, vb⟩ := vals_row R c6
  generalize ((List.range c).map fun k => rs.getD (2 + k) 0) = V at vl vb
  have kv : Kp0 h (h ++ [.lst (NL V)]) := Kp.snoc
  have ev : (h ++ [.lst (NL V)])[h.length]? = some (.lst (NL V)) := get_new
  generalize h ++ [PO.lst (NL V)] = g at kv ev
  have tb : ∀ {Q : PV → PH → Prop} {E : PX → PH → Prop}, (∀ l' h', Kp0 g h' → Tx 8000 l' → Q (.str l') h') → S (k + 5) 19 [.loc h.length] g Q E := fun hq => table_ok ev (by omega) (fun v hv => by have := vb v hv; omega) hq
  rw [show d25 3 = _ :: d25 4 from rfl]
  walk_at "wp"
  by_cases z : ((rs.getD 0 0 : Nat) : Int) < 11
  · rw [if_pos (decide_eq_true z)]
    rw [len_seq (seqOf_lst ev)]
    walk_at "wp"
    refine ⟨_, rng_1' (n := c) (by simp [vl]) (by omega), ?_⟩
    dsimp only
    refine lc_gen rfl (by rw [rngL_len, line_eq]; omega) (fun i ys h' => g.length < h'.length ∧ ∀ p ∈ ys, ∃ (m a b : Nat), p = .loc m ∧ g.length < m ∧ h'[m]? = some (.lst [.int (a : Int), .int (b : Int)]) ∧ a < 100 ∧ b < 100) ⟨by simp, fun y hy => by simp at hy⟩ ?_ (fun i ys h' kp _ => trivial) ?_ ?_
    · intro i ys h' o hI _
      refine ⟨by rw [List.length_set]; exact hI.1, fun p hp => ?_⟩
      obtain ⟨m, a, b, e1, e2, e3, e4⟩ := hI.2 p hp
      exact ⟨m, a, b, e1, e2, by rw [List.getElem?_set_ne (by omega)]; exact e3, e4⟩
    · intro i x ys h' K kp hI hx hl' hK
      obtain ⟨hi, rfl⟩ := rng_item hx
      walk_at "wp"
      rw [rd 8 8 (kv.trans kp) rfl (by omega)]
      refine ⟨_, rfl, ?_⟩
      walk_at "wp"
      have ei : idxP G0 h' (.loc h.length) (.int (i : Int)) = some (.int ((V.getD i 0 : Nat) : Int)) := nl_at (kp.get0 ev) rfl (by omega)
      rw [ei]
      refine ⟨_, rfl, by rw [line_eq]; decide, ?_⟩
      have vi : V.getD i 0 ≤ 9 := by
        rw [List.getD_eq_getElem?_getD, List.getElem?_eq_getElem (show i < V.length by omega)]
        exact vb _ (List.getElem_mem _)
      obtain ⟨a, ha, ha2⟩ : ∃ a : Nat, ((i : Int) + if decide (((rs.getD 8 0 : Nat) : Int) ≤ (i : Int)) = true then 1 else 0) = (a : Int) ∧ a < 100 := by
        by_cases zz : ((rs.getD 8 0 : Nat) : Int) ≤ (i : Int)
        · exact ⟨i + 1, by rw [if_pos (decide_eq_true zz)]; rfl, by omega⟩
        · exact ⟨i, by rw [if_neg (by rw [decide_eq_true_eq]; exact zz)]; simp, by omega⟩
      rw [ha]
      refine hK _ _ Kp.snoc ⟨by simp; have := hI.1; omega, ?_⟩
      intro p hp
      rcases List.mem_append.mp hp with hp | hp
      · obtain ⟨m, a, b, e1, e2, e3, e4⟩ := hI.2 p hp
        exact ⟨m, a, b, e1, e2, (Kp.snoc (S := [])).get0 e3, e4⟩
      · have : p = .loc h'.length := by simpa using hp
        refine ⟨h'.length, a, V.getD i 0, this, hI.1, get_new, ha2, by omega⟩
    · intro ys h' kp hd hl' hI
      rw [rngL_len] at hl'
      walk_at "wp"
      refine part_ok hd (by rw [hl']; show c ≤ 10; omega) (fun p hp => ?_) ?_
      · obtain ⟨m, a, b, e1, _, e3, e4⟩ := hI.2 p hp
        exact ⟨m, a, b, e1, e3, e4⟩
      · intro l' h2 k2 t2
        exact hq l' h2 (kv.trans (kp.trans k2)) (t2.mono (by omega))
  rw [if_neg (by rw [decide_eq_true_eq]; exact z)]
  rw [show d25 4 = _ :: d25 5 from rfl]
  walk_at "wp"
  by_cases z : ((rs.getD 0 0 : Nat) : Int) = 11
  · rw [if_pos (decide_eq_true z)]
    rw [rd 7 7 kv rfl (by omega)]
    refine ⟨_, rfl, ?_⟩
    refine dig1 (low 7 (by omega) (by omega)) fun d td => ?_
    refine p_cat' (show Tx 3 [63, 60, 97] from .lit (by decide)) td (by omega) fun r1 t1 => ?_
    walk_at "wp"
    refine tb ?_
    intro l2 h2 k2 t2
    refine p_cat' t1 t2 (by omega) fun r3 t3 => ?_
    refine p_cat' t3 (show Tx 1 [117] from .lit (by decide)) (by omega) fun r4 t4 => ?_
    exact hq _ _ (kv.trans k2) (t4.mono (by omega))
  rw [if_neg (by rw [decide_eq_true_eq]; exact z)]
  rw [show d25 5 = _ :: d25 6 from rfl]
  walk_at "wp"
  by_cases z : ((rs.getD 0 0 : Nat) : Int) = 12
  · rw [if_pos (decide_eq_true z)]
    rw [rd 8 8 kv rfl (by omega)]
    refine ⟨_, rfl, ?_⟩
    refine dig1 (by omega) fun d td => ?_
    refine p_cat' (show Tx 3 [63, 61, 97] from .lit (by decide)) td (by omega) fun r1 t1 => ?_
    refine p_cat' t1 (show Tx 5 [64, 111, 97, 48, 48] from .lit (by decide)) (by omega) fun r2 t2 => ?_
    walk_at "wp"
    refine tb ?_
    intro l2 h2 k2 t3
    refine p_cat' t2 t3 (by omega) fun r4 t4 => ?_
    exact hq _ _ (kv.trans k2) (t4.mono (by omega))
  rw [if_neg (by rw [decide_eq_true_eq]; exact z)]
  rw [show d25 6 = _ :: d25 7 from rfl]
  walk_at "wp"
  by_cases z : ((rs.getD 0 0 : Nat) : Int) = 13
  · rw [if_pos (decide_eq_true z)]
    refine ⟨by rw [line_eq]; decide, ?_⟩
    rw [rd 8 8 (kv.trans Kp.snoc) rfl (by omega)]
    refine ⟨_, rfl, ?_⟩
    refine Exists.elim (pickB (b := 10) (i := rs.getD 8 0) get_new ?_ ?_) fun l ⟨e, t⟩ => ⟨_, e, hq _ _ (kv.trans Kp.snoc) (t.mono (by omega))⟩
    · decide
    · exact six
  rw [if_neg (by rw [decide_eq_true_eq]; exact z)]
  rw [show d25 7 = _ :: d25 8 from rfl]
  walk_at "wp"
  by_cases z : ((rs.getD 0 0 : Nat) : Int) = 14
  · rw [if_pos (decide_eq_true z)]
    rw [rd 2 2 kv rfl (by omega)]
    refine ⟨_, rfl, ?_⟩
    refine dig1 (low 2 (by omega) (by omega)) fun d td => ?_
    refine p_cat' (show Tx 4 [63, 126, 97, 50] from .lit (by decide)) td (by omega) fun r1 t1 => ?_
    refine p_cat' t1 (show Tx 1 [64] from .lit (by decide)) (by omega) fun r2 t2 => ?_
    walk_at "wp"
    refine tb ?_
    intro l2 h2 k2 t3
    refine quote_ok t3 (by omega) ?_
    intro l4 t4
    refine p_cat' t2 t4 (by omega) fun r5 t5 => ?_
    refine p_cat' t5 (show Tx 5 [47, 97, 50, 48, 48] from .lit (by decide)) (by omega) fun r6 t6 => ?_
    exact hq _ _ (kv.trans k2) (t6.mono (by omega))
  rw [if_neg (by rw [decide_eq_true_eq]; exact z)]
  rw [show d25 8 = [_] from rfl]
  walk_at "wp"
  refine ⟨by rw [line_eq]; decide, ?_⟩
  rw [rd 8 8 (kv.trans Kp.snoc) rfl (by omega)]
  refine ⟨_, rfl, ?_⟩
  refine Exists.elim (pickB (b := 10) (i := rs.getD 8 0) get_new ?_ ?_) fun l ⟨e, t⟩ => ⟨_, e, hq _ _ (kv.trans Kp.snoc) (t.mono (by omega))⟩
  · decide
  · exact six
end K90
set_option Elab.async false
set_option linter.all false
set_option maxRecDepth 100000
set_option maxHeartbeats 4000000
namespace K90
open PySem PySem.Spec PyProof.Rows Fw L2
local macro_rules | `(tactic| walk_at "wp") => `(tactic| try simp only [wpSs, wpSt, wpE, wpEs, wpT, wpTs, wpG, wpI, wpO, List.getElem?_cons_zero, List.getElem?_cons_succ, Option.some.injEq, exists_eq_left', exists_eq_left, Nat.reduceAdd, List.set_cons_zero, List.set_cons_succ, setAll, wipeP, prmV, mtyP, partP, ite_true, ite_false, if_true, if_false, Bool.false_eq_true, true_and, exists_const, List.length_cons, List.length_nil, p_add, p_sub, p_and, q_add, q_sub, c_lt, c_le, c_gt, c_ge, c_eq, c_ne, c_eqs, c_nes, c_is, c_isnt, c_isb, c_isntb, t_bl, t_int, i_int, i_bl, m_two, m_three, m_four, m_min, Item.v, Item.h, PV.int.injEq, PV.bl.injEq, PV.str.injEq, PV.loc.injEq, is_int, is_bl, is_non, is_str, ki_ii, ki_ib, ki_is, ki_it, ki_bi, ki_bb, ki_bs, ki_bt, ki_si, ki_sb, ki_ss, ki_st, ki_ni, ki_nb, ki_ns, ki_nt, Option.map_some, Bool.not_true, Bool.not_false, c_eqb, c_neb])
theorem set_snoc {h : List PO} {o o' : PO} : (h ++ [o]).set h.length o' = h ++ [o'] := by
  rw [List.set_append_right _ _ (Nat.le_refl _)]
  simp
theorem i_bl' {h : PH} {b : Bool} : intV [.bl b] h = some (.int (if b = true then 1 else 0), h) := rfl
/-- a choice between two numbers by a truth -/
theorem two_at {h : PH} {n : Nat} {x y : Int} {b : Bool} (e : h[n]? = some (.lst [.int x, .int y])) : idxP G0 h (.loc n) (.int (if b = true then 1 else 0)) = some (.int (if b = true then y else x)) := by
  rw [idx_seq (seqOf_lst e)]
  cases b <;> rfl
theorem rep_str {h : PH} {l : List Nat} {n b : Nat} (hl : Tx b l) (hn : n ≤ 1000000) (w : b * n ≤ 1000000) {P : PV × PH → Prop} (hP : ∀ l', Tx (b * n) l' → P (.str l', h)) : ∃ r, binV G0 .Mult (.str l) (.int (n : Int)) h = some r ∧ P r := by
  have t : ∀ n : Nat, Tx (b * n) (List.replicate n l).flatten := by
    intro n
    induction n with
    | zero => exact Tx.nil
    | succ n ih =>
      rw [List.replicate_succ, List.flatten_cons, Nat.mul_succ, Nat.add_comm]
      exact hl.app ih
  have wl : l.length * n ≤ 16777216 := by
    have : l.length * n ≤ b * n := Nat.mul_le_mul_right n hl.2
    omega
  refine ⟨_, ?_, hP _ (t n)⟩
  unfold binV
  dsimp only
  rw [if_pos ⟨by omega, by omega, by rw [Int.toNat_natCast]; exact wl⟩, Int.toNat_natCast]
def d26 (n : Nat) : List IS := b__law_expression.drop n
theorem expr_ok {k : Nat} {h : PH} {n : Nat} {rs : List Nat} {Q : PV → PH → Prop} {E : PX → PH → Prop} (hs : h[n]? = some (.lst (NL rs))) (hl : rs.length ≤ 20) (hr : ∀ r ∈ rs, r < 38) (hq : ∀ l' h', Kp0 h h' → Tx 1000 l' → Q (.str l') h') : S (k + 1) 26 [.loc n] h Q E := by
  refine e__law_expression ?_
  show wpSs G0 (S k) (Sp k) (fun x _ => E x) (d26 0) _ _ _
  rw [show d26 0 = _ :: _ :: _ :: _ :: d26 4 from rfl]
  walk_at "wp"
  refine ⟨by rw [line_eq]; decide, by rw [line_eq]; decide, ?_⟩
  have ea : ∀ {xs ys : List PV}, (h ++ [PO.lst xs] ++ [.lst ys])[h.length]? = some (.lst xs) := Kp.snoc.get0 get_new
  have k0 : ∀ {xs ys : List PV}, Kp0 h (h ++ [PO.lst xs] ++ [.lst ys]) := Kp.snoc.trans Kp.snoc
  obtain ⟨atoms, hat, hal⟩ : ∃ xs : List PV, xs = [PV.str [97], PV.str [98], PV.str [48], PV.str [49], PV.str [50], PV.str [97], PV.str [98], PV.str [51], PV.str [111], PV.str [34, 50, 46, 126, 97], PV.str [99], PV.str [35, 49, 50, 46]] ∧ (xs.all (txB 10) = true ∧ xs.length = 12) := ⟨_, rfl, by decide, rfl⟩
  obtain ⟨words, hwd, hwl⟩ : ∃ xs : List PV, xs = [PV.str [64, 97], PV.str [64, 97], PV.str [64, 97], PV.str [43], PV.str [45], PV.str [126], PV.str [60], PV.str [61], PV.str [63], PV.str [63], PV.str [115], PV.str [38], PV.str [110], PV.str [113], PV.str [116], PV.str [114], PV.str [47], PV.str [33, 97], PV.str [33, 97], PV.str [64, 97], PV.str [64, 97], PV.str [43], PV.str [63], PV.str [61], PV.str [126], PV.str [110]] ∧ (xs.all (txB 10) = true ∧ xs.length = 26) := ⟨_, rfl, by decide, rfl⟩
  rw [← hat, ← hwd]
  have e1 := ea (xs := atoms) (ys := words)
  have e2 : (h ++ [PO.lst atoms] ++ [.lst words])[(h ++ [PO.lst atoms]).length]? = some (.lst words) := get_new
  have kp := k0 (xs := atoms) (ys := words)
  generalize (h ++ [PO.lst atoms]).length = w at e2
  generalize h ++ [PO.lst atoms] ++ [PO.lst words] = g at e1 e2 kp
  have hs2 := kp.get0 hs
  rw [show d26 4 = _ :: d26 5 from rfl]
  walk_at "wp"
  rw [len_seq (seqOf_lst hs2)]
  walk_at "wp"
  refine ⟨_, rng_1' (n := rs.length) (by simp) (by omega), ?_⟩
  dsimp only
  have fin : ∀ {g' : PH} {need : Nat} {told : List Nat} {y5 y6 : Option PV}, Kp0 g g' → need ≤ 200 → Tx 300 told → wpSs G0 (S k) (Sp k) (fun x _ => E x) (d26 5) { nx := fun _ h' => Q .non h', rt := Q } [some (.loc n), some (.loc h.length), some (.loc w), some (.int (need : Int)), some (.str told), y5, y6] g' := by
    intro g' need told y5 y6 kg hn ht
    rw [show d26 5 = [_] from rfl]
    walk_at "wp"
    refine rep_str (b := 1) (n := need) (show Tx 1 [48] from .lit (by decide)) (by omega) (by omega) fun l tl => ?_
    refine p_cat' ht tl (by omega) fun r tr => ?_
    exact hq r g' (kp.trans kg) (tr.mono (by omega))
  refine for_inv (fun i σ g' => Kp0 g g' ∧ ∃ (need : Nat) (told : List Nat) (y5 y6 : Option PV), σ = [some (.loc n), some (.loc h.length), some (.loc w), some (.int (need : Int)), some (.str told), y5, y6] ∧ need ≤ 1 + 4 * i ∧ Tx (10 * i) told) ⟨Kp.refl, 1, [], none, none, rfl, by omega, Tx.nil⟩ ?_ ?_
  · rintro i x σ g' K hx ⟨kg, need, told, y5, y6, rfl, hn, ht⟩ hK
    obtain ⟨hi, rfl⟩ := rng_item hx
    replace hi : i < rs.length := hi
    refine ⟨trivial, ?_⟩
    walk_at "wp"
    by_cases z : (need : Int) = 0
    · rw [if_pos (decide_eq_true z)]
      exact fin kg (by omega) (ht.mono (by omega))
    rw [if_neg (by rw [decide_eq_true_eq]; exact z)]
    have rdr : ∀ {g2 : PH}, Kp0 g' g2 → idxP G0 g2 (.loc n) (.int (i : Int)) = some (.int ((rs.getD i 0 : Nat) : Int)) := fun kk => nl_at ((kg.trans kk).get0 hs2) rfl hi
    have lr : ∀ {g2 : PH}, Kp0 g' g2 → lenV G0 [.loc n] g2 = some (.int ((NL rs).length : Int), g2) := fun kk => len_seq (seqOf_lst ((kg.trans kk).get0 hs2))
    have r38 : rs.getD i 0 < 38 := by
      rw [List.getD_eq_getElem?_getD, List.getElem?_eq_getElem hi]
      exact hr _ (List.getElem_mem hi)
    have atom : ∃ r_1, binV G0 .Mod (.int ((rs.getD i 0 : Nat) : Int)) (.int 12) g' = some r_1 ∧ ∃ j : Nat, j < 12 ∧ r_1 = (.int (j : Int), g') := by
      refine p_smod (by decide) ?_
      refine ⟨rs.getD i 0 % 12, Nat.mod_lt _ (by decide), ?_⟩
      rw [Int.fmod_eq_emod_of_nonneg _ (by decide)]
      rfl
    have doAtom : ∃ r_2, binV G0 .Mod (.int ((rs.getD i 0 : Nat) : Int)) (.int 12) g' = some r_2 ∧ ∃ v_2, idxP G0 r_2.2 (.loc h.length) r_2.1 = some v_2 ∧ ∃ r_3, binV G0 .Add (.str told) v_2 r_2.2 = some r_3 ∧ K [some (.loc n), some (.loc h.length), some (.loc w), some (.int ((need : Int) - 1)), some r_3.1, some (.int (i : Int)), y6] r_3.2 := by
      obtain ⟨r1, hr1, j, hj, rfl⟩ := atom
      refine ⟨_, hr1, ?_⟩
      refine Exists.elim (pickB (b := 10) (i := j) (kg.get0 e1) hal.1 (by rw [hal.2]; exact hj)) fun l ⟨e, t⟩ => ⟨_, e, ?_⟩
      refine p_cat' ht t (by omega) fun r tr => ?_
      refine hK _ _ ⟨kg, need - 1, r, some (.int (i : Int)), y6, ?_, by omega, tr.mono (by omega)⟩
      rw [show ((need : Int) - 1) = ((need - 1 : Nat) : Int) by omega]
    rw [rdr Kp.refl]
    refine ⟨_, rfl, ?_⟩
    walk_at "wp"
    by_cases z12 : ((rs.getD i 0 : Nat) : Int) < 12
    · rw [if_pos (decide_eq_true z12)]
      exact doAtom
    rw [if_neg (by rw [decide_eq_true_eq]; exact z12)]
    rw [lr Kp.refl]
    walk_at "wp"
    by_cases zz : ((NL rs).length : Int) ≤ (i : Int) + (need : Int)
    · rw [if_pos (decide_eq_true zz)]
      rw [rdr Kp.refl]
      refine ⟨_, rfl, ?_⟩
      walk_at "wp"
      exact doAtom
    rw [if_neg (by rw [decide_eq_true_eq]; exact zz)]
    rw [rdr Kp.refl]
    refine ⟨_, rfl, ?_⟩
    walk_at "wp"
    obtain ⟨j, hj⟩ : ∃ j : Nat, ((rs.getD i 0 : Nat) : Int) - 12 = (j : Int) := ⟨rs.getD i 0 - 12, by omega⟩
    rw [hj]
    refine Exists.elim (pickB (b := 10) (i := j) (kg.get0 e2) hwl.1 (by rw [hwl.2]; omega)) fun l ⟨e, t⟩ => ⟨_, e, ?_⟩
    refine p_cat' ht t (by omega) fun r tr => ?_
    dsimp only
    refine ⟨by rw [line_eq]; decide, _, rfl, ?_⟩
    rw [two_at get_new]
    refine ⟨_, rfl, by rw [line_eq]; decide, _, rfl, ?_⟩
    rw [two_at get_new]
    refine ⟨_, rfl, ?_⟩
    walk_at "wp"
    obtain ⟨m, hm, hm2⟩ : ∃ m : Nat, (((need : Int) - 1 + if inS l [63, 64, 97, 33, 97] = true then 3 else if inS l [110, 116, 113] = true then 1 else 2) + if decide (l = [33, 97]) = true then 1 else 0) = (m : Int) ∧ m ≤ need + 3 := by
      by_cases b1 : inS l [63, 64, 97, 33, 97] = true <;> by_cases b2 : inS l [110, 116, 113] = true <;> by_cases b3 : decide (l = [33, 97]) = true <;> simp only [b1, b2, b3, if_true, if_false] <;> exact ⟨_, (Int.toNat_of_nonneg (by omega)).symm, by omega⟩
    rw [hm]
    exact hK _ _ ⟨kg.trans (Kp.snoc.trans Kp.snoc), m, r, some (.int (i : Int)), some (.str l), rfl, by omega, tr.mono (by omega)⟩
  · rintro σ g' ⟨kg, need, told, y5, y6, rfl, hn, ht⟩
    refine ⟨trivial, ?_⟩
    rw [rngL_len] at hn ht
    replace hn : need ≤ 1 + 4 * rs.length := hn
    replace ht : Tx (10 * rs.length) told := ht
    exact fin kg (by omega) (ht.mono (by omega))
theorem reader_ok {k : Nat} {h : PH} {n : Nat} {rs : List Nat} {Q : PV → PH → Prop} {E : PX → PH → Prop} (hs : h[n]? = some (.lst (NL rs))) (hl : rs.length = 16) (hr : ∀ r ∈ rs, r < 38) (h0 : rs.getD 0 0 < 24)
    (hq : ∀ l' m h', Kp0 h h' → h'[m]? = some (.lst [.str l', .int ((rs.getD 1 0 : Nat) : Int)]) → Tx 2000 l' → Q (.loc m) h') : S (k + 3) 29 [.loc n] h Q E := by
  refine e__law_reader ?_
  unfold b__law_reader
  have rd : ∀ {g' : PH} (i : Nat) (j : Int), Kp0 h g' → j = (i : Int) → i < 16 → idxP G0 g' (.loc n) (.int j) = some (.int ((rs.getD i 0 : Nat) : Int)) := fun i j kk e hi => nl_at (kk.get0 hs) e (by omega)
  walk_at "wp"
  rw [rd 0 0 Kp.refl rfl (by omega)]
  refine ⟨_, rfl, ?_⟩
  walk_at "wp"
  by_cases z : ((rs.getD 0 0 : Nat) : Int) < 10
  · rw [if_pos (decide_eq_true z)]
    refine asker_ok (by omega) ?_
    intro l' h' kp t
    rw [rd 1 1 kp rfl (by omega)]
    refine ⟨_, rfl, by rw [line_eq]; decide, ?_⟩
    exact hq l' _ _ (kp.trans Kp.snoc) get_new (t.mono (by omega))
  rw [if_neg (by rw [decide_eq_true_eq]; exact z)]
  by_cases z : ((rs.getD 0 0 : Nat) : Int) < 18
  · rw [if_pos (decide_eq_true z)]
    obtain ⟨j, hj⟩ : ∃ j : Nat, ((rs.getD 0 0 : Nat) : Int) - 10 = (j : Int) := ⟨rs.getD 0 0 - 10, by omega⟩
    rw [hj]
    refine looker_ok (by omega) ?_
    intro l' h' kp t
    rw [rd 1 1 kp rfl (by omega)]
    refine ⟨_, rfl, by rw [line_eq]; decide, ?_⟩
    exact hq l' _ _ (kp.trans Kp.snoc) get_new (t.mono (by omega))
  rw [if_neg (by rw [decide_eq_true_eq]; exact z)]
  have sl : slcV G0 (.loc n) (some (2 : Int)) none h = some (.loc h.length, h ++ [.lst (NL (rs.drop 2))]) := by
    rw [slc_lst (lstOf_lst hs)]
    have : cutP (NL rs) (some (2 : Int)) none = NL (rs.drop 2) := by
      unfold cutP
      have h1 : HT.sIx (NL rs).length 0 (some ((2 : Nat) : Int)) = min 2 (NL rs).length := HT.sIx_nat _ _ 2
      have h2 : HT.sIx (NL rs).length (NL rs).length none = (NL rs).length := rfl
      have h3 : (NL rs).length = 16 := by rw [List.length_map, List.length_map, hl]
      rw [h2, show (some (2 : Int)) = some ((2 : Nat) : Int) from rfl, h1, h3]
      simp [IL, List.map_drop]
      exact List.take_of_length_le (by simp; omega)
    rw [this]
  rw [sl]
  walk_at "wp"
  refine expr_ok (rs := rs.drop 2) get_new (by simp; omega) (fun r hm => hr r (List.mem_of_mem_drop hm)) ?_
  intro T h1 k1 tT
  replace k1 := (Kp.snoc (S := [])).trans k1
  walk_at "wp"
  have fin : ∀ {l : List Nat} {g' : PH}, Kp0 h g' → Tx 2000 l → ∃ v, idxP G0 g' (.loc n) (.int 1) = some v ∧ 2 ≤ sizeLine ∧ Q (.loc g'.length) (g' ++ [.lst [.str l, v]]) := by
    intro l g' kg tl
    rw [rd 1 1 kg rfl (by omega)]
    exact ⟨_, rfl, by rw [line_eq]; decide, hq l _ _ (kg.trans Kp.snoc) get_new tl⟩
  refine lc_inv (fun i h' => ∃ acc : List PV, h' = h1 ++ [.lst acc] ∧ acc.length ≤ i) ⟨[], rfl, Nat.le_refl _⟩ ?_ ?_
  · rintro i x h' K hx ⟨acc, rfl, ha⟩ hK
    have hi := get_len hx
    rw [List.length_map] at hi
    obtain ⟨c, hc, rfl⟩ := its_at hx
    refine ⟨trivial, ?_⟩
    walk_at "wp"
    refine ⟨_, rfl, ?_⟩
    split
    · refine ⟨acc, get_new, by have := tT.2; rw [line_eq]; omega, ?_⟩
      refine hK _ ⟨acc ++ [.str [c]], ?_, by simp; exact ha⟩
      exact set_snoc
    · exact hK _ ⟨acc, rfl, by omega⟩
  · rintro h' ⟨acc, rfl, ha⟩
    refine ⟨trivial, ?_⟩
    rw [len_seq (seqOf_lst get_new)]
    walk_at "wp"
    have k2 := k1.trans (Kp.snoc (S := []) (o := PO.lst acc))
    by_cases z : (2 : Int) < (acc.length : Int)
    · rw [if_pos (decide_eq_true z)]
      rw [rd 2 2 k2 rfl (by omega)]
      refine ⟨_, rfl, ?_⟩
      walk_at "wp"
      refine p_smod (by decide) ?_
      have e8 : (((rs.getD 2 0 : Nat) : Int)).fmod 8 = ((rs.getD 2 0 % 8 : Nat) : Int) := by rw [Int.fmod_eq_emod_of_nonneg _ (by decide)]; rfl
      rw [e8]
      refine looker_ok (Nat.mod_lt _ (by decide)) ?_
      intro l' h2 k3 t3
      refine p_cat' (show Tx 8 [63, 126, 64, 97, 98, 48, 48, 50] from .lit (by decide)) t3 (by omega) fun r1 u1 => ?_
      refine p_cat' u1 (show Tx 5 [64, 97, 48, 48, 48] from .lit (by decide)) (by omega) fun r2 u2 => ?_
      exact fin (k2.trans k3) (u2.mono (by omega))
    · rw [if_neg (by rw [decide_eq_true_eq]; exact z)]
      exact fin k2 (tT.mono (by omega))
end K90
set_option Elab.async false
set_option linter.all false
set_option maxRecDepth 100000
set_option maxHeartbeats 4000000
namespace K90
open PySem PySem.Spec PyProof.Rows Fw L2
local macro_rules | `(tactic| walk_at "wp") => `(tactic| try simp only [wpSs, wpSt, wpE, wpEs, wpT, wpTs, wpG, wpI, wpO, List.getElem?_cons_zero, List.getElem?_cons_succ, Option.some.injEq, exists_eq_left', exists_eq_left, Nat.reduceAdd, List.set_cons_zero, List.set_cons_succ, setAll, wipeP, prmV, mtyP, partP, ite_true, ite_false, if_true, if_false, Bool.false_eq_true, true_and, exists_const, List.length_cons, List.length_nil, p_add, p_sub, p_and, q_add, q_sub, c_lt, c_le, c_gt, c_ge, c_eq, c_ne, c_eqs, c_nes, c_is, c_isnt, c_isb, c_isntb, t_bl, t_int, i_int, i_bl, m_two, m_three, m_four, m_min, Item.v, Item.h, PV.int.injEq, PV.bl.injEq, PV.str.injEq, PV.loc.injEq, is_int, is_bl, is_non, is_str, ki_ii, ki_ib, ki_is, ki_it, ki_bi, ki_bb, ki_bs, ki_bt, ki_si, ki_sb, ki_ss, ki_st, ki_ni, ki_nb, ki_ns, ki_nt, Option.map_some, Bool.not_true, Bool.not_false, c_eqb, c_neb])
/-! trees -/
inductive PT where
  | non
  | int (i : Int)
  | str (l : List Nat)
  | tup (xs : List PT)
/-- a tree of tuples at v, at most d tuples deep -/
def At (h : PH) : Nat → PV → PT → Prop
  | _, v, .non => v = .non
  | _, v, .int i => v = .int i
  | _, v, .str l => v = .str l
  | 0, _, .tup _ => False
  | d + 1, v, .tup xs => ∃ n vs, v = .loc n ∧ h[n]? = some (.tup vs) ∧ (vs.length = xs.length ∧ vs.length ≤ 10000000) ∧ ∀ (i : Nat) (u : PV) (t : PT), vs[i]? = some u → xs[i]? = some t → At h d u t
/-- the same, lists allowed -/
def AtL (h : PH) : Nat → PV → PT → Prop
  | _, v, .non => v = .non
  | _, v, .int i => v = .int i
  | _, v, .str l => v = .str l
  | 0, _, .tup _ => False
  | d + 1, v, .tup xs => ∃ n vs, v = .loc n ∧ (h[n]? = some (.tup vs) ∨ h[n]? = some (.lst vs)) ∧ (vs.length = xs.length ∧ vs.length ≤ 10000000) ∧ ∀ (i : Nat) (u : PV) (t : PT), vs[i]? = some u → xs[i]? = some t → AtL h d u t
theorem At.toL {h : PH} : ∀ {d : Nat} {v : PV} {t : PT}, At h d v t → AtL h d v t
  | 0, _, .non, e => e
  | 0, _, .int _, e => e
  | 0, _, .str _, e => e
  | 0, _, .tup _, e => e
  | d + 1, _, .non, e => e
  | d + 1, _, .int _, e => e
  | d + 1, _, .str _, e => e
  | d + 1, _, .tup _, ⟨n, vs, e1, e2, e3, e4⟩ => ⟨n, vs, e1, .inl e2, e3, fun i u t hu ht => (e4 i u t hu ht).toL⟩
theorem At.kp {h h' : PH} (kp : Kp0 h h') : ∀ {d : Nat} {v : PV} {t : PT}, At h d v t → At h' d v t
  | 0, _, .non, e => e
  | 0, _, .int _, e => e
  | 0, _, .str _, e => e
  | 0, _, .tup _, e => e
  | d + 1, _, .non, e => e
  | d + 1, _, .int _, e => e
  | d + 1, _, .str _, e => e
  | d + 1, _, .tup _, ⟨n, vs, e1, e2, e3, e4⟩ => ⟨n, vs, e1, kp.get0 e2, e3, fun i u t hu ht => (e4 i u t hu ht).kp kp⟩
theorem AtL.kp {h h' : PH} (kp : Kp0 h h') : ∀ {d : Nat} {v : PV} {t : PT}, AtL h d v t → AtL h' d v t
  | 0, _, .non, e => e
  | 0, _, .int _, e => e
  | 0, _, .str _, e => e
  | 0, _, .tup _, e => e
  | d + 1, _, .non, e => e
  | d + 1, _, .int _, e => e
  | d + 1, _, .str _, e => e
  | d + 1, _, .tup _, ⟨n, vs, e1, e2, e3, e4⟩ => ⟨n, vs, e1, e2.imp kp.get0 kp.get0, e3, fun i u t hu ht => (e4 i u t hu ht).kp kp⟩
theorem At.set {h : PH} {n : Nat} {zs zs' : List PV} (e : h[n]? = some (.lst zs)) : ∀ {d : Nat} {v : PV} {t : PT}, At h d v t → At (h.set n (.lst zs')) d v t
  | 0, _, .non, e => e
  | 0, _, .int _, e => e
  | 0, _, .str _, e => e
  | 0, _, .tup _, e => e
  | d + 1, _, .non, e => e
  | d + 1, _, .int _, e => e
  | d + 1, _, .str _, e => e
  | d + 1, _, .tup _, ⟨m, vs, e1, e2, e3, e4⟩ => ⟨m, vs, e1, by
    have : n ≠ m := fun z => by subst z; rw [e] at e2; cases e2
    rw [List.getElem?_set_ne this]; exact e2, e3, fun i u t hu ht => (e4 i u t hu ht).set e⟩
theorem At.up {h : PH} : ∀ {d : Nat} {v : PV} {t : PT}, At h d v t → At h (d + 1) v t
  | 0, _, .non, e => e
  | 0, _, .int _, e => e
  | 0, _, .str _, e => e
  | 0, _, .tup _, e => e.elim
  | d + 1, _, .non, e => e
  | d + 1, _, .int _, e => e
  | d + 1, _, .str _, e => e
  | d + 1, _, .tup _, ⟨m, vs, e1, e2, e3, e4⟩ => ⟨m, vs, e1, e2, e3, fun i u t hu ht => (e4 i u t hu ht).up⟩
theorem isi_two {h : PH} {v : PV} {n : Nat} {a : String} {b1 b2 : Bool} (e : h[n]? = some (.tup [.ty "list", .ty "tuple"])) (ta : tyP G0 h v = some a) (k1 : kitB a "list" = some b1) (k2 : kitB a "tuple" = some b2) : isiV G0 [v, .loc n] h = some (.bl (b1 || b2), h) := by
  have i1 : isiP G0 h v "list" = some b1 := by unfold isiP; rw [ta]; exact k1
  have i2 : isiP G0 h v "tuple" = some b2 := by unfold isiP; rw [ta]; exact k2
  have ia : isiAny G0 h v [.ty "list", .ty "tuple"] = some (b1 || b2) := by
    unfold isiAny
    rw [i1]
    cases b1
    · dsimp only
      unfold isiAny
      rw [i2]
      cases b2
      · rfl
      · rfl
    · rfl
  unfold isiV
  dsimp only
  rw [e]
  dsimp only
  rw [ta, if_pos (by rfl), ia]
  rfl
theorem k_il : kitB "int" "list" = some false := by decide +kernel
theorem k_sl : kitB "str" "list" = some false := by decide +kernel
theorem k_nl : kitB "NoneType" "list" = some false := by decide +kernel
theorem k_tl : kitB "tuple" "list" = some false := by decide +kernel
theorem k_ll : kitB "list" "list" = some true := by decide +kernel
theorem k_lt : kitB "list" "tuple" = some false := by decide +kernel
theorem ty_tup {h : PH} {n : Nat} {vs : List PV} (e : h[n]? = some (.tup vs)) : tyP G0 h (.loc n) = some "tuple" := by
  unfold tyP
  dsimp only
  rw [show deref G0 h (.loc n) = some (.tup vs) from e]
theorem ty_lst {h : PH} {n : Nat} {vs : List PV} (e : h[n]? = some (.lst vs)) : tyP G0 h (.loc n) = some "list" := by
  unfold tyP
  dsimp only
  rw [show deref G0 h (.loc n) = some (.lst vs) from e]
theorem froz_scal {k : Nat} {h : PH} {v : PV} {a : String} {Q : PV → PH → Prop} {E : PX → PH → Prop} (ta : ∀ h, tyP G0 h v = some a) (k1 : kitB a "list" = some false) (k2 : kitB a "tuple" = some false) (hq : ∀ h', Kp0 h h' → Q v h') : S (k + 1) 8 [v] h Q E := by
  refine e_frozen ?_
  unfold b_frozen
  walk_at "wp"
  refine ⟨by rw [line_eq]; decide, ?_⟩
  rw [isi_two get_new (ta _) k1 k2]
  walk_at "wp"
  rw [if_neg (by decide)]
  exact hq _ Kp.snoc
/-- what frozen does -/
theorem frozen_ok {k : Nat} : ∀ (d : Nat) {h : PH} {v : PV} {t : PT} {Q : PV → PH → Prop} {E : PX → PH → Prop}, AtL h d v t → (∀ h' v', Kp0 h h' → At h' d v' t → Q v' h') → S (k + d + 1) 8 [v] h Q E := by
  intro d
  induction d with
  | zero =>
    intro h v t Q E a hq
    cases t with
    | non => have a : v = .non := a; subst a; exact froz_scal (fun _ => rfl) k_nl ki_nt fun h' kp => hq h' _ kp rfl
    | int i => have a : v = .int i := a; subst a; exact froz_scal (fun _ => rfl) k_il ki_it fun h' kp => hq h' _ kp rfl
    | str l => have a : v = .str l := a; subst a; exact froz_scal (fun _ => rfl) k_sl ki_st fun h' kp => hq h' _ kp rfl
    | tup xs => exact a.elim
  | succ d ih =>
    intro h v t Q E a hq
    cases t with
    | non => have a : v = .non := a; subst a; exact froz_scal (fun _ => rfl) k_nl ki_nt fun h' kp => hq h' _ kp rfl
    | int i => have a : v = .int i := a; subst a; exact froz_scal (fun _ => rfl) k_il ki_it fun h' kp => hq h' _ kp rfl
    | str l => have a : v = .str l := a; subst a; exact froz_scal (fun _ => rfl) k_sl ki_st fun h' kp => hq h' _ kp rfl
    | tup xs =>
      obtain ⟨n, vs, rfl, e, hl, ha⟩ := a
      refine e_frozen ?_
      unfold b_frozen
      walk_at "wp"
      refine ⟨by rw [line_eq]; decide, ?_⟩
      have ks : Kp0 h (h ++ [.tup [.ty "list", .ty "tuple"]]) := Kp.snoc
      have eg : (h ++ [PO.tup [.ty "list", .ty "tuple"]])[h.length]? = some (.tup [.ty "list", .ty "tuple"]) := get_new
      generalize h ++ [PO.tup [.ty "list", .ty "tuple"]] = g at ks eg
      have e2 : g[n]? = some (.tup vs) ∨ g[n]? = some (.lst vs) := e.imp ks.get0 ks.get0
      have ii : isiV G0 [.loc n, .loc h.length] g = some (.bl true, g) := by
        rcases e2 with e2 | e2
        · exact isi_two eg (ty_tup e2) k_tl ki_tt
        · exact isi_two eg (ty_lst e2) k_ll k_lt
      rw [ii]
      walk_at "wp"
      obtain ⟨o, ho, hsq⟩ : ∃ o, g[n]? = some o ∧ o.seq? = some vs := by
        rcases e2 with e2 | e2
        · exact ⟨_, e2, rfl⟩
        · exact ⟨_, e2, rfl⟩
      refine ⟨o, vs, ho, hsq, ?_⟩
      refine lc_inv (fun i h' => Kp0 g h' ∧ ∃ ys, h'[g.length]? = some (.lst ys) ∧ ys.length = i ∧ ∀ (j : Nat) (u : PV) (t : PT), ys[j]? = some u → xs[j]? = some t → At h' d u t) ⟨Kp.snoc, [], get_new, rfl, fun j u t hu => by simp at hu⟩ ?_ ?_
      · rintro i x h' K hx ⟨kp, ys, ey, hi, hat⟩ hK
        obtain ⟨v, hv, rfl⟩ := val_item hx
        have hiv := get_len hv
        refine ⟨kp.get0 ho, ?_⟩
        walk_at "wp"
        have hxi : xs[i]? = some (xs[i]'(by omega)) := List.getElem?_eq_getElem _
        refine ih ((ha i v _ hv hxi).kp (ks.trans kp)) ?_
        intro h2 v' kp2 at2
        refine ⟨ys, kp2.get0 ey, by rw [line_eq]; omega, ?_⟩
        have ey2 := kp2.get0 ey
        refine hK _ ⟨(kp.trans kp2).put (Nat.le_refl _), ys ++ [v'], get_put ey2, by simp [hi], ?_⟩
        intro j u t hu ht
        by_cases hj : j < ys.length
        · rw [List.getElem?_append_left hj] at hu
          exact ((hat j u t hu ht).kp kp2).set ey2
        · have hjl := get_len hu
          have : j = ys.length := by simp at hjl; omega
          subst this
          rw [List.getElem?_append_right (Nat.le_refl _), Nat.sub_self] at hu
          cases hu
          rw [hi, hxi] at ht
          cases ht
          exact at2.set ey2
      · rintro h' ⟨kp, ys, ey, hi, hat⟩
        rw [List.length_map] at hi
        refine ⟨kp.get0 ho, ?_⟩
        rw [tuple_lst (lstOf_lst ey)]
        walk_at "wp"
        exact hq _ _ (ks.trans (kp.trans Kp.snoc)) ⟨_, ys, rfl, get_new, ⟨by omega, by omega⟩, fun j u t hu ht => (hat j u t hu ht).kp Kp.snoc⟩
end K90
set_option Elab.async false
set_option linter.all false
set_option maxRecDepth 100000
set_option maxHeartbeats 4000000
namespace K90
open PySem PySem.Spec PyProof.Rows Fw L2
local macro_rules | `(tactic| walk_at "wp") => `(tactic| try simp only [wpSs, wpSt, wpE, wpEs, wpT, wpTs, wpG, wpI, wpO, List.getElem?_cons_zero, List.getElem?_cons_succ, Option.some.injEq, exists_eq_left', exists_eq_left, Nat.reduceAdd, List.set_cons_zero, List.set_cons_succ, setAll, wipeP, prmV, mtyP, partP, ite_true, ite_false, if_true, if_false, Bool.false_eq_true, true_and, exists_const, List.length_cons, List.length_nil, p_add, p_sub, p_and, q_add, q_sub, c_lt, c_le, c_gt, c_ge, c_eq, c_ne, c_eqs, c_nes, c_is, c_isnt, c_isb, c_isntb, t_bl, t_int, i_int, i_bl, m_two, m_three, m_four, m_min, Item.v, Item.h, PV.int.injEq, PV.bl.injEq, PV.str.injEq, PV.loc.injEq, is_int, is_bl, is_non, is_str, ki_ii, ki_ib, ki_is, ki_it, ki_bi, ki_bb, ki_bs, ki_bt, ki_si, ki_sb, ki_ss, ki_st, ki_ni, ki_nb, ki_ns, ki_nt, Option.map_some, Bool.not_true, Bool.not_false, c_eqb, c_neb])
/-- a tree of lists, all of them from b on -/
def AtM (b : Nat) (h : PH) : Nat → PV → PT → Prop
  | _, v, .non => v = .non
  | _, v, .int i => v = .int i
  | _, v, .str l => v = .str l
  | 0, _, .tup _ => False
  | d + 1, v, .tup xs => ∃ n vs, v = .loc n ∧ b ≤ n ∧ h[n]? = some (.lst vs) ∧ (vs.length = xs.length ∧ vs.length ≤ 10000000) ∧ ∀ (i : Nat) (u : PV) (t : PT), vs[i]? = some u → xs[i]? = some t → AtM b h d u t
theorem AtM.toL {b : Nat} {h : PH} : ∀ {d : Nat} {v : PV} {t : PT}, AtM b h d v t → AtL h d v t
  | 0, _, .non, e => e
  | 0, _, .int _, e => e
  | 0, _, .str _, e => e
  | 0, _, .tup _, e => e
  | d + 1, _, .non, e => e
  | d + 1, _, .int _, e => e
  | d + 1, _, .str _, e => e
  | d + 1, _, .tup _, ⟨n, vs, e1, _, e2, e3, e4⟩ => ⟨n, vs, e1, .inr e2, e3, fun i u t hu ht => (e4 i u t hu ht).toL⟩
theorem AtM.kp {b : Nat} {h h' : PH} (kp : Kp0 h h') : ∀ {d : Nat} {v : PV} {t : PT}, AtM b h d v t → AtM b h' d v t
  | 0, _, .non, e => e
  | 0, _, .int _, e => e
  | 0, _, .str _, e => e
  | 0, _, .tup _, e => e
  | d + 1, _, .non, e => e
  | d + 1, _, .int _, e => e
  | d + 1, _, .str _, e => e
  | d + 1, _, .tup _, ⟨n, vs, e1, e0, e2, e3, e4⟩ => ⟨n, vs, e1, e0, kp.get0 e2, e3, fun i u t hu ht => (e4 i u t hu ht).kp kp⟩
theorem AtM.weak {b c : Nat} {h : PH} (w : c ≤ b) : ∀ {d : Nat} {v : PV} {t : PT}, AtM b h d v t → AtM c h d v t
  | 0, _, .non, e => e
  | 0, _, .int _, e => e
  | 0, _, .str _, e => e
  | 0, _, .tup _, e => e
  | d + 1, _, .non, e => e
  | d + 1, _, .int _, e => e
  | d + 1, _, .str _, e => e
  | d + 1, _, .tup _, ⟨n, vs, e1, e0, e2, e3, e4⟩ => ⟨n, vs, e1, Nat.le_trans w e0, e2, e3, fun i u t hu ht => (e4 i u t hu ht).weak w⟩
theorem AtM.set {b n : Nat} {h : PH} {o : PO} (w : n < b) : ∀ {d : Nat} {v : PV} {t : PT}, AtM b h d v t → AtM b (h.set n o) d v t
  | 0, _, .non, e => e
  | 0, _, .int _, e => e
  | 0, _, .str _, e => e
  | 0, _, .tup _, e => e
  | d + 1, _, .non, e => e
  | d + 1, _, .int _, e => e
  | d + 1, _, .str _, e => e
  | d + 1, _, .tup _, ⟨m, vs, e1, e0, e2, e3, e4⟩ => ⟨m, vs, e1, e0, by
    have : n ≠ m := by omega
    rw [List.getElem?_set_ne this]; exact e2, e3, fun i u t hu ht => (e4 i u t hu ht).set w⟩
theorem thaw_scal {k : Nat} {h : PH} {v : PV} {a : String} {Q : PV → PH → Prop} {E : PX → PH → Prop} (ti : isiV G0 [v, .ty "tuple"] h = some (.bl false, h)) (hq : Q v h) : S (k + 1) 34 [v] h Q E := by
  refine e__law_thawed ?_
  unfold b__law_thawed
  walk_at "wp"
  rw [ti]
  walk_at "wp"
  exact hq
theorem thawed_ok {k : Nat} : ∀ (d : Nat) {h : PH} {v : PV} {t : PT} {Q : PV → PH → Prop} {E : PX → PH → Prop}, At h d v t → (∀ h' v', Kp0 h h' → AtM h.length h' d v' t → Q v' h') → S (k + d + 1) 34 [v] h Q E := by
  intro d
  induction d with
  | zero =>
    intro h v t Q E a hq
    cases t with
    | non => have a : v = .non := a; subst a; exact thaw_scal (a := "") (by rw [is_non, ki_nt]; rfl) (hq h _ Kp.refl rfl)
    | int i => have a : v = .int i := a; subst a; exact thaw_scal (a := "") (by rw [is_int, ki_it]; rfl) (hq h _ Kp.refl rfl)
    | str l => have a : v = .str l := a; subst a; exact thaw_scal (a := "") (by rw [is_str, ki_st]; rfl) (hq h _ Kp.refl rfl)
    | tup xs => exact a.elim
  | succ d ih =>
    intro h v t Q E a hq
    cases t with
    | non => have a : v = .non := a; subst a; exact thaw_scal (a := "") (by rw [is_non, ki_nt]; rfl) (hq h _ Kp.refl rfl)
    | int i => have a : v = .int i := a; subst a; exact thaw_scal (a := "") (by rw [is_int, ki_it]; rfl) (hq h _ Kp.refl rfl)
    | str l => have a : v = .str l := a; subst a; exact thaw_scal (a := "") (by rw [is_str, ki_st]; rfl) (hq h _ Kp.refl rfl)
    | tup xs =>
      obtain ⟨n, vs, rfl, e, hl, ha⟩ := a
      refine e__law_thawed ?_
      unfold b__law_thawed
      walk_at "wp"
      rw [is_tup (tupOf_tup e), ki_tt]
      walk_at "wp"
      refine ⟨_, _, deref_loc e, rfl, ?_⟩
      refine lc_inv (fun i h' => Kp0 h h' ∧ h.length < h'.length ∧ ∃ ys, h'[h.length]? = some (.lst ys) ∧ ys.length = i ∧ ∀ (j : Nat) (u : PV) (t : PT), ys[j]? = some u → xs[j]? = some t → AtM (h.length + 1) h' d u t) ⟨Kp.snoc, by simp, [], get_new, rfl, fun j u t hu => by simp at hu⟩ ?_ ?_
      · rintro i x h' K hx ⟨kp, hgt, ys, ey, hi, hat⟩ hK
        obtain ⟨v, hv, rfl⟩ := val_item hx
        have hiv := get_len hv
        refine ⟨deref_loc (kp.get0 e), ?_⟩
        walk_at "wp"
        have hxi : xs[i]? = some (xs[i]'(by omega)) := List.getElem?_eq_getElem _
        refine ih ((ha i v _ hv hxi).kp kp) ?_
        intro h2 v' kp2 at2
        have ey2 := kp2.get0 ey
        refine ⟨ys, ey2, by rw [line_eq]; omega, ?_⟩
        refine hK _ ⟨(kp.trans kp2).put (Nat.le_refl _), by rw [List.length_set]; have := kp2.1; omega, ys ++ [v'], get_put ey2, by simp [hi], ?_⟩
        intro j u t hu ht
        by_cases hj : j < ys.length
        · rw [List.getElem?_append_left hj] at hu
          exact ((hat j u t hu ht).kp kp2).set (by omega)
        · have hjl := get_len hu
          have : j = ys.length := by simp at hjl; omega
          subst this
          rw [List.getElem?_append_right (Nat.le_refl _), Nat.sub_self] at hu
          cases hu
          rw [hi, hxi] at ht
          cases ht
          exact (at2.weak hgt).set (by omega)
      · rintro h' ⟨kp, hgt, ys, ey, hi, hat⟩
        rw [List.length_map] at hi
        refine ⟨deref_loc (kp.get0 e), ?_⟩
        exact hq _ _ kp ⟨_, ys, rfl, Nat.le_refl _, ey, ⟨by omega, by omega⟩, fun j u t hu ht => (hat j u t hu ht).weak (by omega)⟩
end K90
set_option Elab.async false
set_option linter.all false
set_option maxRecDepth 100000
set_option maxHeartbeats 4000000
namespace K90
open PySem PySem.Spec PyProof.Rows Fw L2
local macro_rules | `(tactic| walk_at "wp") => `(tactic| try simp only [wpSs, wpSt, wpE, wpEs, wpT, wpTs, wpG, wpI, wpO, List.getElem?_cons_zero, List.getElem?_cons_succ, Option.some.injEq, exists_eq_left', exists_eq_left, Nat.reduceAdd, List.set_cons_zero, List.set_cons_succ, setAll, wipeP, prmV, mtyP, partP, ite_true, ite_false, if_true, if_false, Bool.false_eq_true, true_and, exists_const, List.length_cons, List.length_nil, p_add, p_sub, p_and, q_add, q_sub, c_lt, c_le, c_gt, c_ge, c_eq, c_ne, c_eqs, c_nes, c_is, c_isnt, c_isb, c_isntb, t_bl, t_int, i_int, i_bl, m_two, m_three, m_four, m_min, Item.v, Item.h, PV.int.injEq, PV.bl.injEq, PV.str.injEq, PV.loc.injEq, is_int, is_bl, is_non, is_str, ki_ii, ki_ib, ki_is, ki_it, ki_bi, ki_bb, ki_bs, ki_bt, ki_si, ki_sb, ki_ss, ki_st, ki_ni, ki_nb, ki_ns, ki_nt, Option.map_some, Bool.not_true, Bool.not_false, c_eqb, c_neb])
/-! the line of a tree -/
def pairL : List Nat := [112, 97, 105, 114]
def waitL : List Nat := [119, 97, 105, 116, 105, 110, 103]
def agreL : List Nat := [97, 103, 114, 101, 101, 100]
/-- the word of a row -/
def hd : List PT → List Nat
  | .str l :: _ => l
  | _ => []
def holds (l : List Nat) (i : Nat) : Bool := if l = pairL then decide (i = 3) else (decide (i = 1) && (decide (l = waitL) || decide (l = agreL)))
def lineP : Nat → Bool → PT → List Nat
  | _, _, .non => [110, 111, 110, 101]
  | _, _, .int i => strI i
  | _, _, .str l => [39] ++ l ++ [39]
  | 0, _, .tup _ => []
  | d + 1, w, .tup xs => [40] ++ joinL [44, 32] (xs.mapIdx fun i t => if w = true ∧ i = 0 then hd xs else lineP d (w && holds (hd xs) i) t) ++ [41]
/-- the first one is a word, all numbers are small -/
def Wd : Nat → Bool → PT → Prop
  | _, _, .int i => i.natAbs < 10 ^ 18
  | d + 1, w, .tup xs => (w = true → ∃ l r, xs = .str l :: r) ∧ ∀ (i : Nat) (t : PT), xs[i]? = some t → ¬ (w = true ∧ i = 0) → Wd d (w && holds (hd xs) i) t
  | _, _, _ => True
theorem holds_ok {k : Nat} {h : PH} {n i : Nat} {l : List Nat} {vs : List PV} {Q : PV → PH → Prop} {E : PX → PH → Prop} (e : h[n]? = some (.tup (.str l :: vs))) (hq : Q (.bl (holds l i)) h) : S (k + 1) 9 [.loc n, .int (i : Int)] h Q E := by
  refine e_holds_words ?_
  unfold b_holds_words
  have i0 : idxP G0 h (.loc n) (.int 0) = some (.str l) := by rw [idx_seq (seqOf_tup e), show (0 : Int) = ((0 : Nat) : Int) from rfl, atI_nat']; rfl
  walk_at "wp"
  rw [i0]
  walk_at "wp"
  have e3 : decide ((i : Int) = 3) = decide (i = 3) := by
    by_cases y : i = 3
    · subst y; rfl
    · rw [decide_eq_false y, decide_eq_false (by omega)]
  have e1 : decide ((i : Int) = 1) = decide (i = 1) := by
    by_cases y : i = 1
    · subst y; rfl
    · rw [decide_eq_false y, decide_eq_false (by omega)]
  rw [e3, e1]
  show if decide (l = pairL) = true then Q (.bl (decide (i = 3))) h else if decide (i = 1) = true then (if decide (l = waitL) = true then Q (.bl (decide (l = waitL))) h else Q (.bl (decide (l = agreL))) h) else Q (.bl (decide (i = 1))) h
  unfold holds at hq
  by_cases z : l = pairL
  · rw [if_pos (decide_eq_true z)]
    rw [if_pos z] at hq
    exact hq
  · rw [if_neg (by rw [decide_eq_true_eq]; exact z)]
    rw [if_neg z] at hq
    by_cases y : i = 1
    · rw [if_pos (decide_eq_true y)]
      rw [decide_eq_true y, Bool.true_and] at hq
      by_cases y2 : l = waitL
      · rw [if_pos (decide_eq_true y2)]
        rw [decide_eq_true y2, Bool.true_or] at hq
        rw [decide_eq_true y2]; exact hq
      · rw [if_neg (by rw [decide_eq_true_eq]; exact y2)]
        rw [decide_eq_false y2, Bool.false_or] at hq
        exact hq
    · rw [if_neg (by rw [decide_eq_true_eq]; exact y)]
      rw [decide_eq_false y, Bool.false_and] at hq
      rw [decide_eq_false y]; exact hq
end K90
set_option Elab.async false
set_option linter.all false
set_option maxRecDepth 100000
set_option maxHeartbeats 4000000
namespace K90
open PySem PySem.Spec PyProof.Rows Fw L2
local macro_rules | `(tactic| walk_at "wp") => `(tactic| try simp only [wpSs, wpSt, wpE, wpEs, wpT, wpTs, wpG, wpI, wpO, List.getElem?_cons_zero, List.getElem?_cons_succ, Option.some.injEq, exists_eq_left', exists_eq_left, Nat.reduceAdd, List.set_cons_zero, List.set_cons_succ, setAll, wipeP, prmV, mtyP, partP, ite_true, ite_false, if_true, if_false, Bool.false_eq_true, true_and, exists_const, List.length_cons, List.length_nil, p_add, p_sub, p_and, q_add, q_sub, c_lt, c_le, c_gt, c_ge, c_eq, c_ne, c_eqs, c_nes, c_is, c_isnt, c_isb, c_isntb, t_bl, t_int, i_int, i_bl, m_two, m_three, m_four, m_min, Item.v, Item.h, PV.int.injEq, PV.bl.injEq, PV.str.injEq, PV.loc.injEq, is_int, is_bl, is_non, is_str, ki_ii, ki_ib, ki_is, ki_it, ki_bi, ki_bb, ki_bs, ki_bt, ki_si, ki_sb, ki_ss, ki_st, ki_ni, ki_nb, ki_ns, ki_nt, Option.map_some, Bool.not_true, Bool.not_false, c_eqb, c_neb])
abbrev SL (ls : List (List Nat)) : List PV := ls.map .str
theorem strsOf_SL : ∀ ls : List (List Nat), strsOf (SL ls) = some ls
  | [] => rfl
  | l :: r => by
    show (strsOf (SL r)).map (l :: ·) = _
    rw [strsOf_SL r]; rfl
theorem join_len (a : List Nat) : ∀ ls : List (List Nat), (ls.map (·.length)).sum + ls.length * a.length ≤ (joinL a ls).length + a.length
  | [] => by simp
  | [x] => by simp [joinL]
  | x :: y :: r => by
    have := join_len a (y :: r)
    show x.length + ((y :: r).map (·.length)).sum + ((y :: r).length + 1) * a.length ≤ (x ++ a ++ joinL a (y :: r)).length + a.length
    rw [List.length_append, List.length_append, Nat.succ_mul]
    omega
theorem str_small {h : PH} {i : Int} (hi : i.natAbs < 10 ^ 18) : strV [.int i] h = some (.str (strI i), h) := by
  unfold strV
  dsimp only
  have h1 : i.natAbs < 2 ^ 100 := Nat.lt_of_lt_of_le hi (by decide)
  rw [if_pos (Nat.lt_of_lt_of_le (log_lt h1 (by decide)) (by decide))]
theorem quo_cat {h : PH} {l : List Nat} (hl : l.length ≤ 10000000) {P : PV × PH → Prop} (hP : P (.str ([39] ++ l ++ [39]), h)) : ∃ r, binV G0 .Add (.str [39]) (.str l) h = some r ∧ ∃ r_1, binV G0 .Add r.1 (.str [39]) r.2 = some r_1 ∧ P r_1 := by
  refine ⟨_, by rw [p_adds, if_pos (by rw [line_eq]; simp; omega)], _, ?_, hP⟩
  rw [p_adds, if_pos (by rw [line_eq]; simp; omega)]
/-- the line of no tuple -/
theorem lof_scal {k d : Nat} {h : PH} {v : PV} {t : PT} {w : Bool} {Q : PV → PH → Prop} {E : PX → PH → Prop} (nt : ∀ xs, t ≠ .tup xs) (a : At h d v t) (wd : Wd d w t) (hl : (lineP d w t).length ≤ 10000000) (hq : ∀ h', Kp0 h h' → Q (.str (lineP d w t)) h') : S (k + 1) 10 [v, .bl w] h Q E := by
  refine e_line_of ?_
  unfold b_line_of
  cases t with
  | tup xs => exact absurd rfl (nt xs)
  | non =>
    have e : v = .non := by cases d <;> exact a
    subst e
    have := hq h Kp.refl
    walk_at "wp"
    rw [if_pos (by rfl)]
    cases d <;> exact this
  | int i =>
    have e : v = .int i := by cases d <;> exact a
    subst e
    have wd : i.natAbs < 10 ^ 18 := by cases d <;> exact wd
    have := hq h Kp.refl
    walk_at "wp"
    rw [if_neg (by simp), str_small wd]
    walk_at "wp"
    cases d <;> exact this
  | str l =>
    have e : v = .str l := by cases d <;> exact a
    subst e
    have q := hq h Kp.refl
    have hl2 : ([39] ++ l ++ [39]).length ≤ 10000000 := by cases d <;> exact hl
    walk_at "wp"
    rw [if_neg (by simp)]
    refine quo_cat (by simp at hl2; omega) ?_
    cases d <;> exact q
end K90
set_option Elab.async false
set_option linter.all false
set_option maxRecDepth 100000
set_option maxHeartbeats 4000000
namespace K90
open PySem PySem.Spec PyProof.Rows Fw L2
local macro_rules | `(tactic| walk_at "wp") => `(tactic| try simp only [wpSs, wpSt, wpE, wpEs, wpT, wpTs, wpG, wpI, wpO, List.getElem?_cons_zero, List.getElem?_cons_succ, Option.some.injEq, exists_eq_left', exists_eq_left, Nat.reduceAdd, List.set_cons_zero, List.set_cons_succ, setAll, wipeP, prmV, mtyP, partP, ite_true, ite_false, if_true, if_false, Bool.false_eq_true, true_and, exists_const, List.length_cons, List.length_nil, p_add, p_sub, p_and, q_add, q_sub, c_lt, c_le, c_gt, c_ge, c_eq, c_ne, c_eqs, c_nes, c_is, c_isnt, c_isb, c_isntb, t_bl, t_int, i_int, i_bl, m_two, m_three, m_four, m_min, Item.v, Item.h, PV.int.injEq, PV.bl.injEq, PV.str.injEq, PV.loc.injEq, is_int, is_bl, is_non, is_str, ki_ii, ki_ib, ki_is, ki_it, ki_bi, ki_bb, ki_bs, ki_bt, ki_si, ki_sb, ki_ss, ki_st, ki_ni, ki_nb, ki_ns, ki_nt, Option.map_some, Bool.not_true, Bool.not_false, c_eqb, c_neb])
theorem sum_mem {l : List Nat} : ∀ {ls : List (List Nat)}, l ∈ ls → l.length ≤ (ls.map (·.length)).sum
  | [], h => by cases h
  | x :: r, h => by
    show _ ≤ x.length + (r.map (·.length)).sum
    rcases List.mem_cons.mp h with rfl | h
    · omega
    · have := sum_mem h; omega
theorem len_sum : ∀ ls : List (List Nat), ls.length * 2 ≤ (ls.map (·.length)).sum + ls.length * 2
  | _ => by omega
abbrev itm (d : Nat) (w : Bool) (xs : List PT) : List (List Nat) := xs.mapIdx fun i t => if w = true ∧ i = 0 then hd xs else lineP d (w && holds (hd xs) i) t
theorem lineof_ok {k : Nat} : ∀ (d : Nat) {h : PH} {v : PV} {t : PT} {w : Bool} {Q : PV → PH → Prop} {E : PX → PH → Prop}, At h d v t → Wd d w t → (lineP d w t).length ≤ 10000000 → (∀ h', Kp0 h h' → Q (.str (lineP d w t)) h') → S (k + d + 2) 10 [v, .bl w] h Q E := by
  intro d
  induction d with
  | zero =>
    intro h v t w Q E a wd hl hq
    exact lof_scal (fun xs z => by subst z; exact a.elim) a wd hl hq
  | succ d ih =>
    intro h v t w Q E a wd hl hq
    by_cases nt : ∃ xs, t = .tup xs
    case neg => exact lof_scal (fun xs z => nt ⟨xs, z⟩) a wd hl hq
    obtain ⟨xs, rfl⟩ := nt
    obtain ⟨n, vs, rfl, e, hlen, ha⟩ := a
    obtain ⟨w1, w2⟩ := wd
    have hl3 : ([40] ++ joinL [44, 32] (itm d w xs) ++ [41]).length ≤ 10000000 := hl
    have il : (itm d w xs).length = xs.length := by simp [itm]
    have jl := join_len [44, 32] (itm d w xs)
    have i_at : ∀ (i : Nat) (t : PT), xs[i]? = some t → (itm d w xs)[i]? = some (if w = true ∧ i = 0 then hd xs else lineP d (w && holds (hd xs) i) t) := by
      intro i t ht
      rw [List.getElem?_mapIdx, ht]; rfl
    refine e_line_of ?_
    unfold b_line_of
    walk_at "wp"
    rw [if_neg (by simp), is_tup (tupOf_tup e), ki_ts]
    walk_at "wp"
    rw [is_tup (tupOf_tup e), ki_tt]
    walk_at "wp"
    try rw [if_neg (by decide)]
    refine ⟨by rw [line_eq]; decide, _, vs, deref_loc (Kp.snoc.get0 e), rfl, ?_⟩
    refine for_inv (fun i σ h' => ∃ y3 y4, σ = [some (.loc n), some (.bl w), some (.loc h.length), y3, y4] ∧ Kp0 h h' ∧ h'[h.length]? = some (.lst (SL ((itm d w xs).take i)))) ⟨none, none, rfl, Kp.snoc, get_new⟩ ?_ ?_
    · rintro i x σ h' K hx ⟨y3, y4, rfl, kp, el⟩ hK
      obtain ⟨u, hu, rfl⟩ := enumL_at hx
      refine ⟨deref_loc (kp.get0 e), ?_⟩
      walk_at "wp"
      refine ⟨_, seqOf_tup get_new, rfl, ?_⟩
      walk_at "wp"
      have hi := get_len hu
      have hxi : xs[i]? = some (xs[i]'(by omega)) := List.getElem?_eq_getElem _
      generalize xs[i]'(by omega) = t at hxi
      have hit := i_at i t hxi
      have ks : Kp0 h' (h' ++ [.tup [.int (i : Int), u]]) := Kp.snoc
      have at1 := (ha i u t hu hxi).kp (kp.trans ks)
      have el1 := ks.get0 el
      have e1 := (kp.trans ks).get0 e
      generalize h' ++ [PO.tup [.int (i : Int), u]] = g at ks at1 el1 e1
      have app : ∀ {g2 : PH} {l : List Nat}, Kp0 g g2 → (itm d w xs)[i]? = some l → ∃ r, appendV [.loc h.length, .str l] g2 = some r ∧ K [some (.loc n), some (.bl w), some (.loc h.length), some (.int (i : Int)), some u] r.2 := by
        intro g2 l kg hl2
        have el2 := kg.get0 el1
        refine ⟨_, append_lst el2 (by rw [List.length_map, List.length_take, line_eq]; omega), ?_⟩
        refine hK _ _ ⟨_, _, rfl, (kp.trans (ks.trans kg)).put (Nat.le_refl _), ?_⟩
        rw [get_put el2, List.take_add_one, hl2]
        simp [SL]
      have sub : ∀ {l : List Nat}, (itm d w xs)[i]? = some l → l.length ≤ 10000000 := by
        intro l hl2
        have := sum_mem (List.mem_of_getElem? hl2)
        simp only [List.length_append, List.length_cons, List.length_nil] at hl3 jl
        omega
      have isl : (lstOf G0 g (.loc h.length)).isSome = true := by rw [lstOf_lst el1]; rfl
      by_cases hw : w = true
      · obtain ⟨l0, r0, hxs⟩ := w1 hw
        have hhd : hd xs = l0 := by rw [hxs]; rfl
        have hv0 : ∃ vr, vs = .str l0 :: vr := by
          cases vs with
          | nil => simp at hi
          | cons u0 vr =>
            have a0 := ha 0 u0 (.str l0) rfl (by rw [hxs]; rfl)
            have : u0 = .str l0 := by cases d <;> exact a0
            exact ⟨vr, by rw [this]⟩
        obtain ⟨vr, hvr⟩ := hv0
        rw [if_pos hw]
        by_cases z : i = 0
        · subst z
          rw [if_pos (by rfl)]
          rw [if_pos ⟨hw, rfl⟩, hhd] at hit
          rw [hvr] at hu
          cases hu
          exact ⟨isl, app Kp.refl hit⟩
        · rw [if_neg (by rw [decide_eq_true_eq]; omega)]
          rw [if_neg (fun y => z y.2)] at hit
          refine ⟨isl, ?_⟩
          rw [if_pos hw]
          rw [hvr] at e1
          refine holds_ok (k := k + (d + 1)) e1 ?_
          have wd2 := w2 i t hxi (fun y => z y.2)
          have eh : (w && holds (hd xs) i) = holds l0 i := by rw [hhd, hw, Bool.true_and]
          rw [eh] at wd2 hit
          refine ih at1 wd2 (sub hit) ?_
          intro h2 kp2
          exact app kp2 hit
      · have hw : w = false := by simpa using hw
        rw [if_neg (by rw [hw]; decide)]
        refine ⟨isl, ?_⟩
        rw [if_neg (by rw [hw]; decide)]
        rw [if_neg (fun y => by rw [hw] at y; exact absurd y.1 (by decide))] at hit
        have wd2 := w2 i t hxi (fun y => by rw [hw] at y; exact absurd y.1 (by decide))
        have ew : (w && holds (hd xs) i) = w := by rw [hw]; rfl
        rw [ew] at wd2 hit
        refine ih at1 wd2 (sub hit) ?_
        intro h2 kp2
        exact app kp2 hit
    · rintro σ h' ⟨y3, y4, rfl, kp, el⟩
      refine ⟨deref_loc (kp.get0 e), ?_⟩
      rw [show (enumL vs).length = xs.length by simp [enumL]; exact hlen.1, List.take_of_length_le (by omega)] at el
      walk_at "wp"
      have ej : joinV G0 [.str [44, 32], .loc h.length] h' = some (.str (joinL [44, 32] (itm d w xs)), h') := by
        unfold joinV
        dsimp only
        rw [seqOf_lst el]
        show (match strsOf (SL (itm d w xs)) with | some ys => _ | none => _) = _
        rw [strsOf_SL]
        dsimp only
        rw [if_pos (by simp only [List.length_append, List.length_cons, List.length_nil] at hl3 jl ⊢; omega)]
      rw [ej]
      walk_at "wp"
      have hj : (joinL [44, 32] (itm d w xs)).length ≤ 10000000 := by simp only [List.length_append] at hl3; omega
      refine ⟨_, by rw [p_adds, if_pos (by rw [line_eq]; simp; omega)], _, by rw [p_adds, if_pos (by rw [line_eq]; simp; omega)], ?_⟩
      exact hq h' kp
end K90
set_option Elab.async false
set_option linter.all false
set_option maxRecDepth 100000
set_option maxHeartbeats 4000000
namespace K90
open PySem PySem.Spec PyProof.Rows Fw L2
local macro_rules | `(tactic| walk_at "wp") => `(tactic| try simp only [wpSs, wpSt, wpE, wpEs, wpT, wpTs, wpG, wpI, wpO, List.getElem?_cons_zero, List.getElem?_cons_succ, Option.some.injEq, exists_eq_left', exists_eq_left, Nat.reduceAdd, List.set_cons_zero, List.set_cons_succ, setAll, wipeP, prmV, mtyP, partP, ite_true, ite_false, if_true, if_false, Bool.false_eq_true, true_and, exists_const, List.length_cons, List.length_nil, p_add, p_sub, p_and, q_add, q_sub, c_lt, c_le, c_gt, c_ge, c_eq, c_ne, c_eqs, c_nes, c_is, c_isnt, c_isb, c_isntb, t_bl, t_int, i_int, i_bl, m_two, m_three, m_four, m_min, Item.v, Item.h, PV.int.injEq, PV.bl.injEq, PV.str.injEq, PV.loc.injEq, is_int, is_bl, is_non, is_str, ki_ii, ki_ib, ki_is, ki_it, ki_bi, ki_bb, ki_bs, ki_bt, ki_si, ki_sb, ki_ss, ki_st, ki_ni, ki_nb, ki_ns, ki_nt, Option.map_some, Bool.not_true, Bool.not_false, c_eqb, c_neb])
theorem format_ok {k d : Nat} {h : PH} {v : PV} {t : PT} {Q : PV → PH → Prop} {E : PX → PH → Prop} (a : AtL h d v t) (wd : Wd d true t) (hl : (lineP d true t).length ≤ 10000000) (hq : ∀ h', Kp0 h h' → Q (.str (lineP d true t)) h') : S (k + d + 3) 11 [v] h Q E := by
  refine e_format_paper ?_
  unfold b_format_paper
  walk_at "wp"
  have fz := fun {Q : PV → PH → Prop} {E : PX → PH → Prop} (hq : ∀ h' v', Kp0 h h' → At h' d v' t → Q v' h') => frozen_ok (k := k + 1) d (E := E) a hq
  rw [show k + 1 + d + 1 = k + d + 2 by omega] at fz
  refine fz ?_
  intro h1 v1 k1 a1
  refine lineof_ok d a1 wd hl ?_
  intro h2 k2
  exact hq h2 (k1.trans k2)
end K90
set_option Elab.async false
set_option linter.all false
set_option maxRecDepth 100000
set_option maxHeartbeats 4000000
namespace K90
open PySem PySem.Spec PyProof.Rows Fw L2
local macro_rules | `(tactic| walk_at "wp") => `(tactic| try simp only [wpSs, wpSt, wpE, wpEs, wpT, wpTs, wpG, wpI, wpO, List.getElem?_cons_zero, List.getElem?_cons_succ, Option.some.injEq, exists_eq_left', exists_eq_left, Nat.reduceAdd, List.set_cons_zero, List.set_cons_succ, setAll, wipeP, prmV, mtyP, partP, ite_true, ite_false, if_true, if_false, Bool.false_eq_true, true_and, exists_const, List.length_cons, List.length_nil, p_add, p_sub, p_and, q_add, q_sub, c_lt, c_le, c_gt, c_ge, c_eq, c_ne, c_eqs, c_nes, c_is, c_isnt, c_isb, c_isntb, t_bl, t_int, i_int, i_bl, m_two, m_three, m_four, m_min, Item.v, Item.h, PV.int.injEq, PV.bl.injEq, PV.str.injEq, PV.loc.injEq, is_int, is_bl, is_non, is_str, ki_ii, ki_ib, ki_is, ki_it, ki_bi, ki_bb, ki_bs, ki_bt, ki_si, ki_sb, ki_ss, ki_st, ki_ni, ki_nb, ki_ns, ki_nt, Option.map_some, Bool.not_true, Bool.not_false, c_eqb, c_neb])
theorem firstodd_ok {k : Nat} {h : PH} {l : List Nat} {Q : PV → PH → Prop} {E : PX → PH → Prop} (hl : ∀ c ∈ l, c ∈ SGL) (hq : ∀ h', Kp0 h h' → Q .non h') : S (k + 1) 0 [.str l] h Q E := by
  refine e_first_odd ?_
  unfold b_first_odd
  walk_at "wp"
  refine for_inv (fun i σ h' => Kp0 h h' ∧ ∃ y1 y2, σ = [some (.str l), y1, y2]) ⟨Kp.refl, none, none, rfl⟩ ?_ ?_
  · rintro i x σ h' K hx ⟨kp, y1, y2, rfl⟩ hK
    obtain ⟨u, hu, rfl⟩ := enumL_at hx
    rw [List.getElem?_map] at hu
    obtain ⟨c, hc, rfl⟩ := Option.map_eq_some_iff.mp hu
    refine ⟨trivial, ?_⟩
    walk_at "wp"
    refine ⟨_, seqOf_tup get_new, rfl, ?_⟩
    walk_at "wp"
    refine ⟨_, rfl, ?_⟩
    have hm : c ∈ SGL := hl c (List.mem_of_getElem? hc)
    have e : inS [c] SGL = true := by
      show decide (c ∈ SGL) = true
      exact decide_eq_true hm
    rw [if_neg (by
      show ¬ ((!inS [c] SGL) = true)
      rw [e]; decide)]
    exact hK _ _ ⟨kp.trans Kp.snoc, _, _, rfl⟩
  · rintro σ h' ⟨kp, y1, y2, rfl⟩
    refine ⟨trivial, ?_⟩
    walk_at "wp"
    exact hq h' kp
/-- the end of the signs of a kind from i on -/
def runEnd (p : Nat → Bool) (l : List Nat) (i : Nat) : Nat := i + ((l.drop i).takeWhile p).length
end K90
set_option Elab.async false
set_option linter.all false
set_option maxRecDepth 100000
set_option maxHeartbeats 4000000
namespace K90
open PySem PySem.Spec PyProof.Rows Fw L2
local macro_rules | `(tactic| walk_at "wp") => `(tactic| try simp only [wpSs, wpSt, wpE, wpEs, wpT, wpTs, wpG, wpI, wpO, List.getElem?_cons_zero, List.getElem?_cons_succ, Option.some.injEq, exists_eq_left', exists_eq_left, Nat.reduceAdd, List.set_cons_zero, List.set_cons_succ, setAll, wipeP, prmV, mtyP, partP, ite_true, ite_false, if_true, if_false, Bool.false_eq_true, true_and, exists_const, List.length_cons, List.length_nil, p_add, p_sub, p_and, q_add, q_sub, c_lt, c_le, c_gt, c_ge, c_eq, c_ne, c_eqs, c_nes, c_is, c_isnt, c_isb, c_isntb, t_bl, t_int, i_int, i_bl, m_two, m_three, m_four, m_min, Item.v, Item.h, PV.int.injEq, PV.bl.injEq, PV.str.injEq, PV.loc.injEq, is_int, is_bl, is_non, is_str, ki_ii, ki_ib, ki_is, ki_it, ki_bi, ki_bb, ki_bs, ki_bt, ki_si, ki_sb, ki_ss, ki_st, ki_ni, ki_nb, ki_ns, ki_nt, Option.map_some, Bool.not_true, Bool.not_false, c_eqb, c_neb])
theorem len_s {h : PH} {l : List Nat} (hl : l.length ≤ 10000000) {P : PV × PH → Prop} (hP : P (.int (l.length : Int), h)) : ∃ r, lenV G0 [.str l] h = some r ∧ P r := by
  refine ⟨_, ?_, hP⟩
  unfold lenV
  dsimp only
  rw [if_pos (by rw [line_eq]; omega)]
/-- a while loop that steps over the signs of a kind -/
theorem digitsend_ok {k : Nat} {h : PH} {l : List Nat} {i : Nat} {Q : PV → PH → Prop} {E : PX → PH → Prop} (hl : l.length ≤ 10000000) (hi : i ≤ l.length)
    (hq : ∀ e : Nat, i ≤ e → e ≤ l.length → (∀ j, i ≤ j → j < e → ∃ c, l[j]? = some c ∧ 48 ≤ c ∧ c ≤ 57) → (∀ c, l[e]? = some c → ¬ (48 ≤ c ∧ c ≤ 57)) → Q (.int (e : Int)) h) : S (k + 1) 1 [.str l, .int (i : Int)] h Q E := by
  refine e_digits_end ?_
  unfold b_digits_end
  walk_at "wp"
  have dg : ∀ c, decide (c ∈ [48, 49, 50, 51, 52, 53, 54, 55, 56, 57]) = true ↔ 48 ≤ c ∧ c ≤ 57 := by
    intro c
    rw [decide_eq_true_eq]
    constructor
    · intro h
      simp only [List.mem_cons, List.not_mem_nil, or_false] at h
      omega
    · intro h
      have : c = 48 ∨ c = 49 ∨ c = 50 ∨ c = 51 ∨ c = 52 ∨ c = 53 ∨ c = 54 ∨ c = 55 ∨ c = 56 ∨ c = 57 := by omega
      simpa using this
  refine ⟨fun m σ h' => ∃ e : Nat, m = l.length - e ∧ σ = [some (.str l), some (.int (i : Int)), some (.int (e : Int))] ∧ h' = h ∧ i ≤ e ∧ e ≤ l.length ∧ ∀ j, i ≤ j → j < e → ∃ c, l[j]? = some c ∧ 48 ≤ c ∧ c ≤ 57, ⟨_, i, rfl, rfl, rfl, Nat.le_refl _, hi, fun j h1 h2 => absurd h2 (by omega)⟩, ?_⟩
  rintro m σ h' ⟨e, rfl, rfl, rfl, h1, h2, h3⟩
  walk_at "wp"
  refine len_s hl ?_
  walk_at "wp"
  by_cases z : (e : Int) < (l.length : Int)
  · rw [if_pos (decide_eq_true z)]
    have hc : l[e]? = some (l[e]'(by omega)) := List.getElem?_eq_getElem _
    generalize l[e]'(by omega) = c at hc
    refine ⟨_, idx_str (by omega) hc, _, rfl, ?_⟩
    have ei : inS [c] [48, 49, 50, 51, 52, 53, 54, 55, 56, 57] = decide (c ∈ [48, 49, 50, 51, 52, 53, 54, 55, 56, 57]) := rfl
    by_cases y : 48 ≤ c ∧ c ≤ 57
    · rw [if_pos (ei.trans ((dg c).mpr y))]
      refine ⟨l.length - (e + 1), by omega, e + 1, rfl, rfl, by omega, by omega, fun j j1 j2 => ?_⟩
      by_cases je : j = e
      · subst je; exact ⟨c, hc, y⟩
      · exact h3 j j1 (by omega)
    · rw [if_neg (fun q => y ((dg c).mp (ei.symm.trans q)))]
      exact hq e h1 h2 h3 (fun c' hc' => by rw [hc] at hc'; cases hc'; exact y)
  · rw [if_neg (by rw [decide_eq_true_eq]; exact z)]
    exact hq e h1 h2 h3 (fun c hc => by have := get_len hc; omega)
end K90
set_option Elab.async false
set_option linter.all false
set_option maxRecDepth 100000
set_option maxHeartbeats 4000000
namespace K90
open PySem PySem.Spec PyProof.Rows Fw L2
local macro_rules | `(tactic| walk_at "wp") => `(tactic| try simp only [wpSs, wpSt, wpE, wpEs, wpT, wpTs, wpG, wpI, wpO, List.getElem?_cons_zero, List.getElem?_cons_succ, Option.some.injEq, exists_eq_left', exists_eq_left, Nat.reduceAdd, List.set_cons_zero, List.set_cons_succ, setAll, wipeP, prmV, mtyP, partP, ite_true, ite_false, if_true, if_false, Bool.false_eq_true, true_and, exists_const, List.length_cons, List.length_nil, p_add, p_sub, p_and, q_add, q_sub, c_lt, c_le, c_gt, c_ge, c_eq, c_ne, c_eqs, c_nes, c_is, c_isnt, c_isb, c_isntb, t_bl, t_int, i_int, i_bl, m_two, m_three, m_four, m_min, Item.v, Item.h, PV.int.injEq, PV.bl.injEq, PV.str.injEq, PV.loc.injEq, is_int, is_bl, is_non, is_str, ki_ii, ki_ib, ki_is, ki_it, ki_bi, ki_bb, ki_bs, ki_bt, ki_si, ki_sb, ki_ss, ki_st, ki_ni, ki_nb, ki_ns, ki_nt, Option.map_some, Bool.not_true, Bool.not_false, c_eqb, c_neb])
/-- a while loop that steps over the signs of a kind -/
theorem lettersend_ok {k : Nat} {h : PH} {l : List Nat} {i : Nat} {Q : PV → PH → Prop} {E : PX → PH → Prop} (hl : l.length ≤ 10000000) (hi : i ≤ l.length)
    (hq : ∀ e : Nat, i ≤ e → e ≤ l.length → (∀ j, i ≤ j → j < e → ∃ c, l[j]? = some c ∧ 97 ≤ c ∧ c ≤ 122) → (∀ c, l[e]? = some c → ¬ (97 ≤ c ∧ c ≤ 122)) → Q (.int (e : Int)) h) : S (k + 1) 2 [.str l, .int (i : Int)] h Q E := by
  refine e_letters_end ?_
  unfold b_letters_end
  walk_at "wp"
  have dg : ∀ c, decide (c ∈ [97, 98, 99, 100, 101, 102, 103, 104, 105, 106, 107, 108, 109, 110, 111, 112, 113, 114, 115, 116, 117, 118, 119, 120, 121, 122]) = true ↔ 97 ≤ c ∧ c ≤ 122 := by
    intro c
    rw [decide_eq_true_eq]
    constructor
    · intro h
      simp only [List.mem_cons, List.not_mem_nil, or_false] at h
      omega
    · intro h
      have : c = 97 ∨ c = 98 ∨ c = 99 ∨ c = 100 ∨ c = 101 ∨ c = 102 ∨ c = 103 ∨ c = 104 ∨ c = 105 ∨ c = 106 ∨ c = 107 ∨ c = 108 ∨ c = 109 ∨ c = 110 ∨ c = 111 ∨ c = 112 ∨ c = 113 ∨ c = 114 ∨ c = 115 ∨ c = 116 ∨ c = 117 ∨ c = 118 ∨ c = 119 ∨ c = 120 ∨ c = 121 ∨ c = 122 := by omega
      simpa using this
  refine ⟨fun m σ h' => ∃ e : Nat, m = l.length - e ∧ σ = [some (.str l), some (.int (i : Int)), some (.int (e : Int))] ∧ h' = h ∧ i ≤ e ∧ e ≤ l.length ∧ ∀ j, i ≤ j → j < e → ∃ c, l[j]? = some c ∧ 97 ≤ c ∧ c ≤ 122, ⟨_, i, rfl, rfl, rfl, Nat.le_refl _, hi, fun j h1 h2 => absurd h2 (by omega)⟩, ?_⟩
  rintro m σ h' ⟨e, rfl, rfl, rfl, h1, h2, h3⟩
  walk_at "wp"
  refine len_s hl ?_
  walk_at "wp"
  by_cases z : (e : Int) < (l.length : Int)
  · rw [if_pos (decide_eq_true z)]
    have hc : l[e]? = some (l[e]'(by omega)) := List.getElem?_eq_getElem _
    generalize l[e]'(by omega) = c at hc
    refine ⟨_, idx_str (by omega) hc, _, rfl, ?_⟩
    have ei : inS [c] [97, 98, 99, 100, 101, 102, 103, 104, 105, 106, 107, 108, 109, 110, 111, 112, 113, 114, 115, 116, 117, 118, 119, 120, 121, 122] = decide (c ∈ [97, 98, 99, 100, 101, 102, 103, 104, 105, 106, 107, 108, 109, 110, 111, 112, 113, 114, 115, 116, 117, 118, 119, 120, 121, 122]) := rfl
    by_cases y : 97 ≤ c ∧ c ≤ 122
    · rw [if_pos (ei.trans ((dg c).mpr y))]
      refine ⟨l.length - (e + 1), by omega, e + 1, rfl, rfl, by omega, by omega, fun j j1 j2 => ?_⟩
      by_cases je : j = e
      · subst je; exact ⟨c, hc, y⟩
      · exact h3 j j1 (by omega)
    · rw [if_neg (fun q => y ((dg c).mp (ei.symm.trans q)))]
      exact hq e h1 h2 h3 (fun c' hc' => by rw [hc] at hc'; cases hc'; exact y)
  · rw [if_neg (by rw [decide_eq_true_eq]; exact z)]
    exact hq e h1 h2 h3 (fun c hc => by have := get_len hc; omega)
end K90
set_option Elab.async false
set_option linter.all false
set_option maxRecDepth 100000
set_option maxHeartbeats 4000000
namespace K90
open PySem PySem.Spec PyProof.Rows Fw L2
local macro_rules | `(tactic| walk_at "wp") => `(tactic| try simp only [wpSs, wpSt, wpE, wpEs, wpT, wpTs, wpG, wpI, wpO, List.getElem?_cons_zero, List.getElem?_cons_succ, Option.some.injEq, exists_eq_left', exists_eq_left, Nat.reduceAdd, List.set_cons_zero, List.set_cons_succ, setAll, wipeP, prmV, mtyP, partP, ite_true, ite_false, if_true, if_false, Bool.false_eq_true, true_and, exists_const, List.length_cons, List.length_nil, p_add, p_sub, p_and, q_add, q_sub, c_lt, c_le, c_gt, c_ge, c_eq, c_ne, c_eqs, c_nes, c_is, c_isnt, c_isb, c_isntb, t_bl, t_int, i_int, i_bl, m_two, m_three, m_four, m_min, Item.v, Item.h, PV.int.injEq, PV.bl.injEq, PV.str.injEq, PV.loc.injEq, is_int, is_bl, is_non, is_str, ki_ii, ki_ib, ki_is, ki_it, ki_bi, ki_bb, ki_bs, ki_bt, ki_si, ki_sb, ki_ss, ki_st, ki_ni, ki_nb, ki_ns, ki_nt, Option.map_some, Bool.not_true, Bool.not_false, c_eqb, c_neb])
theorem behind_close {k : Nat} {h : PH} {l : List Nat} {i : Nat} {v : PV} {Q : PV → PH → Prop} {E : PX → PH → Prop} (hl : l.length ≤ 10000000) (hi : l[i]? = some 41) (hq : Q (.loc h.length) (h ++ [.tup [.int ((i + 1 : Nat) : Int), .bl true]])) : S (k + 1) 6 [.str l, .int (i : Int), v] h Q E := by
  refine e_behind_item ?_
  unfold b_behind_item
  walk_at "wp"
  rw [idx_str (by omega) hi]
  walk_at "wp"
  rw [if_pos (by rfl)]
  exact ⟨by rw [line_eq]; decide, hq⟩
theorem behind_comma {k : Nat} {h : PH} {l : List Nat} {i : Nat} {v : PV} {Q : PV → PH → Prop} {E : PX → PH → Prop} (hl : l.length ≤ 10000000) (hi : l[i]? = some 44) (hi2 : l[i + 1]? = some 32) (hq : Q (.loc h.length) (h ++ [.tup [.int ((i + 2 : Nat) : Int), .bl false]])) : S (k + 1) 6 [.str l, .int (i : Int), v] h Q E := by
  refine e_behind_item ?_
  unfold b_behind_item
  walk_at "wp"
  rw [idx_str (by omega) hi]
  walk_at "wp"
  rw [if_neg (by decide), if_pos (by rfl)]
  refine len_s hl ?_
  walk_at "wp"
  have lt := get_len hi2
  rw [if_pos (decide_eq_true (by omega))]
  rw [show ((i : Int) + 1) = ((i + 1 : Nat) : Int) from rfl, idx_str (by omega) hi2]
  walk_at "wp"
  rw [if_neg (by decide)]
  refine len_s hl ?_
  walk_at "wp"
  refine ⟨by rw [line_eq]; decide, ?_⟩
  rw [show min ((i : Int) + 2) (l.length : Int) = ((i + 2 : Nat) : Int) by omega]
  exact hq
end K90
set_option Elab.async false
set_option linter.all false
set_option maxRecDepth 100000
set_option maxHeartbeats 4000000
namespace K90
open PySem PySem.Spec PyProof.Rows Fw L2
local macro_rules | `(tactic| walk_at "wp") => `(tactic| try simp only [wpSs, wpSt, wpE, wpEs, wpT, wpTs, wpG, wpI, wpO, List.getElem?_cons_zero, List.getElem?_cons_succ, Option.some.injEq, exists_eq_left', exists_eq_left, Nat.reduceAdd, List.set_cons_zero, List.set_cons_succ, setAll, wipeP, prmV, mtyP, partP, ite_true, ite_false, if_true, if_false, Bool.false_eq_true, true_and, exists_const, List.length_cons, List.length_nil, p_add, p_sub, p_and, q_add, q_sub, c_lt, c_le, c_gt, c_ge, c_eq, c_ne, c_eqs, c_nes, c_is, c_isnt, c_isb, c_isntb, t_bl, t_int, i_int, i_bl, m_two, m_three, m_four, m_min, Item.v, Item.h, PV.int.injEq, PV.bl.injEq, PV.str.injEq, PV.loc.injEq, is_int, is_bl, is_non, is_str, ki_ii, ki_ib, ki_is, ki_it, ki_bi, ki_bb, ki_bs, ki_bt, ki_si, ki_sb, ki_ss, ki_st, ki_ni, ki_nb, ki_ns, ki_nt, Option.map_some, Bool.not_true, Bool.not_false, c_eqb, c_neb])
open StrLaws in
theorem occ_full (s sub : Str) (hi : Nat) : ∀ (l : List Nat) (st : Array Nat × Nat), st.fst.size = 1 → (forIn l st (occBody s sub hi 1)).run.fst = st.fst
  | [], st, _ => rfl
  | a :: l, st, h => by
    rw [List.forIn_cons]
    unfold occBody
    rw [if_neg (fun q => by have := q.1.1.1; omega)]
    exact occ_full s sub hi l _ h
open StrLaws in
theorem occ_hit (s sub : Str) (hi k : Nat) (post : List Nat) (hk : k + sub.length ≤ hi ∧ Builtin.Str.subAt s sub k = true) : ∀ (pre : List Nat) (free : Nat), (∀ i ∈ pre, ¬ (i + sub.length ≤ hi ∧ Builtin.Str.subAt s sub i = true)) → free ≤ k → (forIn (pre ++ k :: post) ((#[] : Array Nat), free) (occBody s sub hi 1)).run.fst.toList = [k]
  | [], free, _, hf => by
    rw [List.nil_append, List.forIn_cons]
    unfold occBody
    rw [if_pos ⟨⟨⟨by simp, hf⟩, hk.1⟩, hk.2⟩]
    have := occ_full s sub hi post (#[k], k + sub.length) rfl
    exact congrArg Array.toList this
  | a :: pre, free, hp, hf => by
    rw [List.cons_append, List.forIn_cons]
    unfold occBody
    rw [if_neg (fun q => hp a (List.mem_cons_self ..) ⟨q.1.2, q.2⟩)]
    exact occ_hit s sub hi k post hk pre free (fun i hi => hp i (List.mem_cons_of_mem _ hi)) hf
end K90
set_option Elab.async false
set_option linter.all false
set_option maxRecDepth 100000
set_option maxHeartbeats 4000000
namespace K90
open PySem PySem.Spec PyProof.Rows Fw L2
local macro_rules | `(tactic| walk_at "wp") => `(tactic| try simp only [wpSs, wpSt, wpE, wpEs, wpT, wpTs, wpG, wpI, wpO, List.getElem?_cons_zero, List.getElem?_cons_succ, Option.some.injEq, exists_eq_left', exists_eq_left, Nat.reduceAdd, List.set_cons_zero, List.set_cons_succ, setAll, wipeP, prmV, mtyP, partP, ite_true, ite_false, if_true, if_false, Bool.false_eq_true, true_and, exists_const, List.length_cons, List.length_nil, p_add, p_sub, p_and, q_add, q_sub, c_lt, c_le, c_gt, c_ge, c_eq, c_ne, c_eqs, c_nes, c_is, c_isnt, c_isb, c_isntb, t_bl, t_int, i_int, i_bl, m_two, m_three, m_four, m_min, Item.v, Item.h, PV.int.injEq, PV.bl.injEq, PV.str.injEq, PV.loc.injEq, is_int, is_bl, is_non, is_str, ki_ii, ki_ib, ki_is, ki_it, ki_bi, ki_bb, ki_bs, ki_bt, ki_si, ki_sb, ki_ss, ki_st, ki_ni, ki_nb, ki_ns, ki_nt, Option.map_some, Bool.not_true, Bool.not_false, c_eqb, c_neb])
theorem sub_one {l : List Nat} {c i : Nat} (hi : i + 1 ≤ l.length) : Builtin.Str.subAt (sOf l) (sOf [c]) i = decide (l[i]? = some c) := by
  unfold Builtin.Str.subAt
  have hlt : i < l.length := by omega
  have e : (sOf l).cps.extract i (i + (sOf [c]).length) = #[l[i]] := by
    show l.toArray.extract i (i + 1) = _
    apply Array.ext'
    simp [List.take_one, List.head?_drop, List.getElem?_eq_getElem hlt]
  rw [e]
  show (#[l[i]] == #[c]) = _
  rw [List.getElem?_eq_getElem hlt]
  by_cases h : l[i] = c
  · rw [h]; simp
  · simp [h]
end K90
set_option Elab.async false
set_option linter.all false
set_option maxRecDepth 100000
set_option maxHeartbeats 4000000
namespace K90
open PySem PySem.Spec PyProof.Rows Fw L2
local macro_rules | `(tactic| walk_at "wp") => `(tactic| try simp only [wpSs, wpSt, wpE, wpEs, wpT, wpTs, wpG, wpI, wpO, List.getElem?_cons_zero, List.getElem?_cons_succ, Option.some.injEq, exists_eq_left', exists_eq_left, Nat.reduceAdd, List.set_cons_zero, List.set_cons_succ, setAll, wipeP, prmV, mtyP, partP, ite_true, ite_false, if_true, if_false, Bool.false_eq_true, true_and, exists_const, List.length_cons, List.length_nil, p_add, p_sub, p_and, q_add, q_sub, c_lt, c_le, c_gt, c_ge, c_eq, c_ne, c_eqs, c_nes, c_is, c_isnt, c_isb, c_isntb, t_bl, t_int, i_int, i_bl, m_two, m_three, m_four, m_min, Item.v, Item.h, PV.int.injEq, PV.bl.injEq, PV.str.injEq, PV.loc.injEq, is_int, is_bl, is_non, is_str, ki_ii, ki_ib, ki_is, ki_it, ki_bi, ki_bb, ki_bs, ki_bt, ki_si, ki_sb, ki_ss, ki_st, ki_ni, ki_nb, ki_ns, ki_nt, Option.map_some, Bool.not_true, Bool.not_false, c_eqb, c_neb])
theorem find_quote {l : List Nat} {c i k : Nat} (hk : l[k]? = some c) (hik : i ≤ k) (hno : ∀ j, i ≤ j → j < k → l[j]? ≠ some c) : Txt.find3 (sOf l) (sOf [c]) (i : Int) = (k : Int) := by
  have hl := get_len hk
  have hlen : (sOf l).length = l.length := sOf_len l
  unfold Txt.find3
  have fi : Builtin.Str.occurrences (sOf l) (sOf [c]) (fromIndex (sOf l).length (i : Int)) (sOf l).length 1 = [k] := by
    have e0 : fromIndex (sOf l).length (i : Int) = i := by
      unfold fromIndex
      rw [if_neg (by omega)]; omega
    rw [e0, hlen, StrLaws.occ_eq]
    have er : List.range' i (l.length + 1 - i) = List.range' i (k - i) ++ k :: List.range' (k + 1) (l.length - k) := by
      have h1 : l.length + 1 - i = (k - i) + ((l.length - k) + 1) := by omega
      rw [h1, ← List.range'_append_1, show i + (k - i) = k by omega, List.range'_succ]
    rw [er]
    refine occ_hit (sOf l) (sOf [c]) l.length k _ ⟨by show k + 1 ≤ l.length; omega, ?_⟩ _ i ?_ hik
    · rw [sub_one (by omega)]; exact decide_eq_true hk
    · intro j hj q
      simp only [List.mem_range'_1] at hj
      have : j + 1 ≤ l.length := by omega
      rw [sub_one this] at q
      exact hno j hj.1 (by omega) (of_decide_eq_true q.2)
  rw [fi]
end K90
set_option Elab.async false
set_option linter.all false
set_option maxRecDepth 100000
set_option maxHeartbeats 4000000
namespace K90
open PySem PySem.Spec PyProof.Rows Fw L2
local macro_rules | `(tactic| walk_at "wp") => `(tactic| try simp only [wpSs, wpSt, wpE, wpEs, wpT, wpTs, wpG, wpI, wpO, List.getElem?_cons_zero, List.getElem?_cons_succ, Option.some.injEq, exists_eq_left', exists_eq_left, Nat.reduceAdd, List.set_cons_zero, List.set_cons_succ, setAll, wipeP, prmV, mtyP, partP, ite_true, ite_false, if_true, if_false, Bool.false_eq_true, true_and, exists_const, List.length_cons, List.length_nil, p_add, p_sub, p_and, q_add, q_sub, c_lt, c_le, c_gt, c_ge, c_eq, c_ne, c_eqs, c_nes, c_is, c_isnt, c_isb, c_isntb, t_bl, t_int, i_int, i_bl, m_two, m_three, m_four, m_min, Item.v, Item.h, PV.int.injEq, PV.bl.injEq, PV.str.injEq, PV.loc.injEq, is_int, is_bl, is_non, is_str, ki_ii, ki_ib, ki_is, ki_it, ki_bi, ki_bb, ki_bs, ki_bt, ki_si, ki_sb, ki_ss, ki_st, ki_ni, ki_nb, ki_ns, ki_nt, Option.map_some, Bool.not_true, Bool.not_false, c_eqb, c_neb])
theorem lawl_scal {k d : Nat} {h : PH} {v : PV} {t : PT} {w : Bool} {Q : PV → PH → Prop} {E : PX → PH → Prop} (nt : ∀ xs, t ≠ .tup xs) (a : At h d v t) (wd : Wd d w t) (hl : (lineP d w t).length ≤ 10000000) (hq : ∀ h', Kp0 h h' → Q (.str (lineP d w t)) h') : S (k + 1) 31 [v, .bl w] h Q E := by
  refine e__law_line ?_
  unfold b__law_line
  cases t with
  | tup xs => exact absurd rfl (nt xs)
  | non =>
    have e : v = .non := by cases d <;> exact a
    subst e
    have := hq h Kp.refl
    walk_at "wp"
    rw [if_pos (by rfl)]
    cases d <;> exact this
  | int i =>
    have e : v = .int i := by cases d <;> exact a
    subst e
    have wd : i.natAbs < 10 ^ 18 := by cases d <;> exact wd
    have := hq h Kp.refl
    walk_at "wp"
    rw [if_neg (by simp), str_small wd]
    walk_at "wp"
    cases d <;> exact this
  | str l =>
    have e : v = .str l := by cases d <;> exact a
    subst e
    have q := hq h Kp.refl
    have hl2 : ([39] ++ l ++ [39]).length ≤ 10000000 := by cases d <;> exact hl
    walk_at "wp"
    rw [if_neg (by simp)]
    refine quo_cat (by simp at hl2; omega) ?_
    cases d <;> exact q
def innE : IE := .or (.and (.cmp .Eq (.idx (.var 0) (.cst (.int 0))) (.cst (.str [112, 97, 105, 114]))) (.cmp .Eq (.var 3) (.cst (.int 3)))) (.and (.cmp .In (.idx (.var 0) (.cst (.int 0))) (.lst [.cst (.str [119, 97, 105, 116, 105, 110, 103]), .cst (.str [97, 103, 114, 101, 101, 100])])) (.cmp .Eq (.var 3) (.cst (.int 1))))
theorem dec_nat {i j : Nat} : decide ((i : Int) = (j : Int)) = decide (i = j) := by
  by_cases y : i = j
  · subst y; simp
  · rw [decide_eq_false y, decide_eq_false (by omega)]
theorem inn_ok {k : Nat} {h : PH} {n i : Nat} {l0 : List Nat} {vs : List PV} {y1 y2 y4 : Option PV} {Q : PV → PH → Prop} {E : PX → PH → Prop} (e : h[n]? = some (.tup (.str l0 :: vs))) (hq : ∀ h', Kp0 h h' → Q (.bl (holds l0 i)) h') : wpE G0 (S k) (Sp k) E innE [some (.loc n), y1, y2, some (.int (i : Int)), y4] h Q := by
  have i0 : idxP G0 h (.loc n) (.int 0) = some (.str l0) := by rw [idx_seq (seqOf_tup e), show (0 : Int) = ((0 : Nat) : Int) from rfl, atI_nat']; rfl
  unfold innE
  walk_at "wp"
  rw [i0]
  walk_at "wp"
  have e3 : decide ((i : Int) = 3) = decide (i = 3) := dec_nat (j := 3)
  have e1 : decide ((i : Int) = 1) = decide (i = 1) := dec_nat (j := 1)
  rw [e3, e1]
  have eg : (h ++ [PO.lst [.str waitL, .str agreL]])[h.length]? = some (.lst [.str waitL, .str agreL]) := get_new
  have ein : cmpV G0 .In (.str l0) (.loc h.length) (h ++ [PO.lst [.str waitL, .str agreL]]) = some (decide (waitL = l0) || (decide (agreL = l0) || false)) := by
    unfold cmpV
    dsimp only
    rw [seqOf_lst eg]
    rfl
  have hq1 := hq h Kp.refl
  have hq2 := hq (h ++ [PO.lst [.str waitL, .str agreL]]) Kp.snoc
  have ew : decide (waitL = l0) = decide (l0 = waitL) := by
    by_cases z : l0 = waitL
    · rw [z]
    · rw [decide_eq_false z, decide_eq_false (fun y => z y.symm)]
  have ea : decide (agreL = l0) = decide (l0 = agreL) := by
    by_cases z : l0 = agreL
    · rw [z]
    · rw [decide_eq_false z, decide_eq_false (fun y => z y.symm)]
  have sz : 2 ≤ sizeLine := by rw [line_eq]; decide
  rw [ew, ea, Bool.or_false] at ein
  change (h ++ [PO.lst [.str [119, 97, 105, 116, 105, 110, 103], .str [97, 103, 114, 101, 101, 100]]])[h.length]? = _ at eg
  change cmpV G0 .In (.str l0) (.loc h.length) (h ++ [PO.lst [.str [119, 97, 105, 116, 105, 110, 103], .str [97, 103, 114, 101, 101, 100]]]) = _ at ein
  change Q _ (h ++ [PO.lst [.str [119, 97, 105, 116, 105, 110, 103], .str [97, 103, 114, 101, 101, 100]]]) at hq2
  rw [show ([112, 97, 105, 114] : List Nat) = pairL from rfl]
  unfold holds at hq1 hq2
  by_cases z : l0 = pairL
  · have z1 : decide (l0 = pairL) = true := decide_eq_true z
    rw [if_pos z] at hq1 hq2
    rw [if_pos z1]
    have zw : decide (l0 = waitL) = false := by rw [z]; decide
    have za : decide (l0 = agreL) = false := by rw [z]; decide
    rw [zw, za] at ein
    by_cases y : i = 3
    · rw [decide_eq_true y]
      rw [decide_eq_true y] at hq1
      walk_at "wp"
      exact hq1
    · rw [decide_eq_false y]
      rw [decide_eq_false y] at hq2
      walk_at "wp"
      refine ⟨sz, _, ein, ?_⟩
      rw [if_neg (by decide)]
      exact hq2
  · have z1 : decide (l0 = pairL) = false := decide_eq_false z
    rw [if_neg z] at hq2
    rw [z1]
    walk_at "wp"
    refine ⟨sz, _, ein, ?_⟩
    by_cases y : (decide (l0 = waitL) || decide (l0 = agreL)) = true
    · rw [if_pos y]
      rw [y, Bool.and_true] at hq2
      exact hq2
    · rw [if_neg y]
      have y := Bool.eq_false_iff.mpr y
      rw [y] at hq2 ⊢
      rw [Bool.and_false] at hq2
      exact hq2
def b31 : List IS := [.ite (.tru (.cmp .Is (.var 0) (.cst .non))) [.ret (.cst (.str [110, 111, 110, 101]))] [],
    .ite (.tru (.prm .isi [.var 0, .cst (.ty "str")])) [.ret (.bin .Add (.bin .Add (.cst (.str [39])) (.var 0)) (.cst (.str [39])))] [],
    .ite (.tru (.prm .isi [.var 0, .cst (.ty "int")])) [.ret (.prm .str [.var 0])] [],
    .asg (.name 2) (.lst []),
    .for_ (.name 3) (.rng1 (.prm .len [.var 0])) [.ite (.and (.tru (.var 1)) (.tru (.cmp .Eq (.var 3) (.cst (.int 0))))) [.exp (.mtd .append (.var 2) [.idx (.var 0) (.cst (.int 0))])] [.asg (.name 4) (.and (.var 1) innE),
    .exp (.mtd .append (.var 2) [.call 31 [.idx (.var 0) (.var 3), .var 4]])]],
    .ret (.bin .Add (.bin .Add (.cst (.str [40])) (.mtd .join (.cst (.str [44, 32])) [.var 2])) (.cst (.str [41])))]
theorem lawline_ok {k : Nat} : ∀ (d : Nat) {h : PH} {v : PV} {t : PT} {w : Bool} {Q : PV → PH → Prop} {E : PX → PH → Prop}, At h d v t → Wd d w t → (lineP d w t).length ≤ 10000000 → (∀ h', Kp0 h h' → Q (.str (lineP d w t)) h') → S (k + d + 1) 31 [v, .bl w] h Q E := by
  intro d
  induction d with
  | zero =>
    intro h v t w Q E a wd hl hq
    exact lawl_scal (fun xs z => by subst z; exact a.elim) a wd hl hq
  | succ d ih =>
    intro h v t w Q E a wd hl hq
    by_cases nt : ∃ xs, t = .tup xs
    case neg => exact lawl_scal (fun xs z => nt ⟨xs, z⟩) a wd hl hq
    obtain ⟨xs, rfl⟩ := nt
    obtain ⟨n, vs, rfl, e, hlen, ha⟩ := a
    obtain ⟨w1, w2⟩ := wd
    have hl3 : ([40] ++ joinL [44, 32] (itm d w xs) ++ [41]).length ≤ 10000000 := hl
    have il : (itm d w xs).length = xs.length := by simp [itm]
    have jl := join_len [44, 32] (itm d w xs)
    have i_at : ∀ (i : Nat) (t : PT), xs[i]? = some t → (itm d w xs)[i]? = some (if w = true ∧ i = 0 then hd xs else lineP d (w && holds (hd xs) i) t) := by
      intro i t ht
      rw [List.getElem?_mapIdx, ht]; rfl
    refine e__law_line ?_
    rw [show b__law_line = b31 from rfl]
    unfold b31
    walk_at "wp"
    rw [if_neg (by simp), is_tup (tupOf_tup e), ki_ts]
    walk_at "wp"
    rw [is_tup (tupOf_tup e), ki_ti]
    walk_at "wp"
    refine ⟨by rw [line_eq]; decide, ?_⟩
    rw [len_seq (seqOf_tup (Kp.snoc.get0 e))]
    walk_at "wp"
    refine ⟨_, rng_1 (by have := hlen.2; omega), ?_⟩
    walk_at "wp"
    refine for_inv (fun i σ h' => ∃ y3 y4, σ = [some (.loc n), some (.bl w), some (.loc h.length), y3, y4] ∧ Kp0 h h' ∧ h'[h.length]? = some (.lst (SL ((itm d w xs).take i)))) ⟨none, none, rfl, Kp.snoc, get_new⟩ ?_ ?_
    · rintro i x σ g K hx ⟨y3, y4, rfl, kp, el1⟩ hK
      obtain ⟨hi, rfl⟩ := rng_item hx
      refine ⟨trivial, ?_⟩
      walk_at "wp"
      have hu : vs[i]? = some (vs[i]'hi) := List.getElem?_eq_getElem _
      generalize vs[i]'hi = u at hu
      have hxi : xs[i]? = some (xs[i]'(by omega)) := List.getElem?_eq_getElem _
      generalize xs[i]'(by omega) = t at hxi
      have hit := i_at i t hxi
      have at1 := (ha i u t hu hxi).kp kp
      have e1 := kp.get0 e
      have iu : ∀ {g2 : PH}, Kp0 g g2 → idxP G0 g2 (.loc n) (.int (i : Int)) = some u := fun kg => by rw [idx_seq (seqOf_tup (kg.get0 e1)), atI_nat']; exact hu
      have app : ∀ {g2 : PH} {l : List Nat} {y4 : Option PV}, Kp0 g g2 → (itm d w xs)[i]? = some l → ∃ r, appendV [.loc h.length, .str l] g2 = some r ∧ K [some (.loc n), some (.bl w), some (.loc h.length), some (.int (i : Int)), y4] r.2 := by
        intro g2 l y4 kg hl2
        have el2 := kg.get0 el1
        refine ⟨_, append_lst el2 (by rw [List.length_map, List.length_take, line_eq]; omega), ?_⟩
        refine hK _ _ ⟨_, _, rfl, (kp.trans kg).put (Nat.le_refl _), ?_⟩
        rw [get_put el2, List.take_add_one, hl2]
        simp [SL]
      have sub : ∀ {l : List Nat}, (itm d w xs)[i]? = some l → l.length ≤ 10000000 := by
        intro l hl2
        have := sum_mem (List.mem_of_getElem? hl2)
        simp only [List.length_append, List.length_cons, List.length_nil] at hl3 jl
        omega
      have isl : ∀ {g2 : PH}, Kp0 g g2 → (lstOf G0 g2 (.loc h.length)).isSome = true := fun kg => by rw [lstOf_lst (kg.get0 el1)]; rfl
      by_cases hw : w = true
      · obtain ⟨l0, r0, hxs⟩ := w1 hw
        have hhd : hd xs = l0 := by rw [hxs]; rfl
        have hv0 : ∃ vr, vs = .str l0 :: vr := by
          cases vs with
          | nil => simp at hi
          | cons u0 vr =>
            have a0 := ha 0 u0 (.str l0) rfl (by rw [hxs]; rfl)
            have : u0 = .str l0 := by cases d <;> exact a0
            exact ⟨vr, by rw [this]⟩
        obtain ⟨vr, hvr⟩ := hv0
        rw [if_pos hw]
        by_cases z : i = 0
        · subst z
          rw [if_pos (by rfl)]
          rw [if_pos ⟨hw, rfl⟩, hhd] at hit
          rw [hvr] at hu
          cases hu
          have iu0 := iu (g2 := g) Kp.refl
          rw [show (((0 : Nat) : Int)) = 0 from rfl] at iu0
          refine ⟨isl Kp.refl, _, iu0, ?_⟩
          exact app Kp.refl hit
        · rw [if_neg (by rw [decide_eq_true_eq]; omega)]
          rw [if_neg (fun y => z y.2)] at hit
          rw [if_pos hw]
          have e1' := e1
          rw [hvr] at e1'
          refine inn_ok e1' ?_
          intro g2 kg
          walk_at "wp"
          refine ⟨isl kg, ?_⟩
          rw [iu kg]
          walk_at "wp"
          have wd2 := w2 i t hxi (fun y => z y.2)
          have eh : (w && holds (hd xs) i) = holds l0 i := by rw [hhd, hw, Bool.true_and]
          rw [eh] at wd2 hit
          refine ih (at1.kp kg) wd2 (sub hit) ?_
          intro h2 kp2
          exact app (kg.trans kp2) hit
      · have hw : w = false := by simpa using hw
        rw [if_neg (by rw [hw]; decide), if_neg (by rw [hw]; decide)]
        refine ⟨isl Kp.refl, ?_⟩
        rw [iu Kp.refl]
        walk_at "wp"
        rw [if_neg (fun y => by rw [hw] at y; exact absurd y.1 (by decide))] at hit
        have wd2 := w2 i t hxi (fun y => by rw [hw] at y; exact absurd y.1 (by decide))
        have ew : (w && holds (hd xs) i) = w := by rw [hw]; rfl
        rw [ew] at wd2 hit
        refine ih at1 wd2 (sub hit) ?_
        intro h2 kp2
        exact app kp2 hit
    · rintro σ h' ⟨y3, y4, rfl, kp, el⟩
      refine ⟨trivial, ?_⟩
      rw [rngL_len, List.take_of_length_le (by omega)] at el
      walk_at "wp"
      have ej : joinV G0 [.str [44, 32], .loc h.length] h' = some (.str (joinL [44, 32] (itm d w xs)), h') := by
        unfold joinV
        dsimp only
        rw [seqOf_lst el]
        show (match strsOf (SL (itm d w xs)) with | some ys => _ | none => _) = _
        rw [strsOf_SL]
        dsimp only
        rw [if_pos (by simp only [List.length_append, List.length_cons, List.length_nil] at hl3 jl ⊢; omega)]
      rw [ej]
      walk_at "wp"
      have hj : (joinL [44, 32] (itm d w xs)).length ≤ 10000000 := by simp only [List.length_append] at hl3; omega
      refine ⟨_, by rw [p_adds, if_pos (by rw [line_eq]; simp; omega)], _, by rw [p_adds, if_pos (by rw [line_eq]; simp; omega)], ?_⟩
      exact hq h' kp
end K90
set_option Elab.async false
set_option linter.all false
set_option maxRecDepth 100000
set_option maxHeartbeats 4000000
namespace K90
open PySem PySem.Spec PyProof.Rows Fw L2
local macro_rules | `(tactic| walk_at "wp") => `(tactic| try simp only [wpSs, wpSt, wpE, wpEs, wpT, wpTs, wpG, wpI, wpO, List.getElem?_cons_zero, List.getElem?_cons_succ, Option.some.injEq, exists_eq_left', exists_eq_left, Nat.reduceAdd, List.set_cons_zero, List.set_cons_succ, setAll, wipeP, prmV, mtyP, partP, ite_true, ite_false, if_true, if_false, Bool.false_eq_true, true_and, exists_const, List.length_cons, List.length_nil, p_add, p_sub, p_and, q_add, q_sub, c_lt, c_le, c_gt, c_ge, c_eq, c_ne, c_eqs, c_nes, c_is, c_isnt, c_isb, c_isntb, t_bl, t_int, i_int, i_bl, m_two, m_three, m_four, m_min, Item.v, Item.h, PV.int.injEq, PV.bl.injEq, PV.str.injEq, PV.loc.injEq, is_int, is_bl, is_non, is_str, ki_ii, ki_ib, ki_is, ki_it, ki_bi, ki_bb, ki_bs, ki_bt, ki_si, ki_sb, ki_ss, ki_st, ki_ni, ki_nb, ki_ns, ki_nt, Option.map_some, Bool.not_true, Bool.not_false, c_eqb, c_neb])
/-! the reader of lines, in plain -/
def isDg (c : Nat) : Bool := decide (48 ≤ c ∧ c ≤ 57)
def isLt (c : Nat) : Bool := decide (97 ≤ c ∧ c ≤ 122)
def isTx (c : Nat) : Bool := decide (c ≠ 39)
def cutN (l : List Nat) (a b : Nat) : List Nat := (l.drop a).take (b - a)
def numT (l : List Nat) (i s : Nat) : Option (PT × Nat) :=
  if cutN l s (runEnd isDg l s) = [] then none
  else if 18 < (cutN l s (runEnd isDg l s)).length then none
  else if (cutN l s (runEnd isDg l s)).head? = some 48 ∧ 1 < (cutN l s (runEnd isDg l s)).length then none
  else if i < s then (if cutN l s (runEnd isDg l s) = [48] then none else some (.int (-((NumText.digitsVal (cutN l s (runEnd isDg l s)) : Nat) : Int)), runEnd isDg l s))
  else some (.int ((NumText.digitsVal (cutN l s (runEnd isDg l s)) : Nat) : Int), runEnd isDg l s)
def numP (l : List Nat) (i : Nat) : Option (PT × Nat) := numT l i (if l[i]? = some 45 then i + 1 else i)
def textP (l : List Nat) (i : Nat) : Option (PT × Nat) :=
  if l[runEnd isTx l (i + 1)]? = some 39 ∧ (cutN l (i + 1) (runEnd isTx l (i + 1))).all (fun c => decide (c ∈ SGL)) = true then some (.str (cutN l (i + 1) (runEnd isTx l (i + 1))), runEnd isTx l (i + 1) + 1) else none
def noneL : List Nat := [110, 111, 110, 101]
def itemP (l : List Nat) (i : Nat) (first : Bool) : Option (PT × Nat) := match l[i]? with
  | none => none
  | some c => if isDg c = true ∨ c = 45 then numP l i
    else if c = 39 then textP l i
    else if isLt c = true then (if cutN l i (runEnd isLt l i) = noneL then some (.non, runEnd isLt l i) else if first = true then some (.str (cutN l i (runEnd isLt l i)), runEnd isLt l i) else none)
    else none
inductive Md where
  | item | first | behind | done
  deriving DecidableEq
structure RS where
  w : List (List PT)
  m : Md
  v : PT
  i : Nat
def putV (w : List (List PT)) (v : PT) (i : Nat) : RS := match w with
  | [] => ⟨[], .done, v, i⟩
  | x :: r => ⟨(x ++ [v]) :: r, .behind, v, i⟩
def closeV (w : List (List PT)) (i : Nat) : Option RS := match w with
  | [] => none
  | x :: r => some (putV r (.tup x) i)
def stepR (l : List Nat) (s : RS) : Option RS := match s.m with
  | .done => none
  | .behind => if l[s.i]? = some 41 then closeV s.w (s.i + 1)
      else if l[s.i]? = some 44 then (if s.i + 1 < l.length ∧ l[s.i + 1]? ≠ some 32 then none else some ⟨s.w, .item, s.v, min (s.i + 2) l.length⟩)
      else none
  | m => if l[s.i]? = some 40 then some ⟨[] :: s.w, .first, s.v, s.i + 1⟩
      else if m = .first ∧ l[s.i]? = some 41 then closeV s.w (s.i + 1)
      else if s.w = [] then none
      else match itemP l s.i (decide (m = .first)) with
        | none => none
        | some (t, e) => some (putV s.w t e)
inductive RO where
  | paper (t : PT)
  | wrong (i : Nat)
  | out
def runR (l : List Nat) : Nat → RS → RO
  | 0, _ => .out
  | f + 1, s => if s.i < l.length then (match stepR l s with
      | none => .wrong s.i
      | some s' => runR l f s') else if s.m = .done then .paper s.v else .wrong l.length
/-! ends of rows of signs -/
theorem tw_len {p : Nat → Bool} : ∀ {l : List Nat} {m : Nat}, (∀ j, j < m → ∃ c, l[j]? = some c ∧ p c = true) → (∀ c, l[m]? = some c → p c = false) → (l.takeWhile p).length = m
  | [], 0, _, _ => rfl
  | [], m + 1, h, _ => by obtain ⟨c, hc, _⟩ := h 0 (by omega); simp at hc
  | a :: r, 0, _, h2 => by rw [List.takeWhile_cons, h2 a rfl]; rfl
  | a :: r, m + 1, h1, h2 => by
    obtain ⟨c, hc, pc⟩ := h1 0 (by omega)
    cases hc
    rw [List.takeWhile_cons, pc]
    show (List.takeWhile p r).length + 1 = m + 1
    rw [tw_len (l := r) (m := m) (fun j hj => by
      obtain ⟨c, hc, pc⟩ := h1 (j + 1) (by omega)
      exact ⟨c, by simpa using hc, pc⟩) (fun c hc => h2 c (by simpa using hc))]
theorem runEnd_of {p : Nat → Bool} {l : List Nat} {i e : Nat} (hi : i ≤ e) (h1 : ∀ j, i ≤ j → j < e → ∃ c, l[j]? = some c ∧ p c = true) (h2 : ∀ c, l[e]? = some c → p c = false) : runEnd p l i = e := by
  unfold runEnd
  rw [tw_len (m := e - i)]
  · omega
  · intro j hj
    obtain ⟨c, hc, pc⟩ := h1 (i + j) (by omega) (by omega)
    exact ⟨c, by rw [List.getElem?_drop]; exact hc, pc⟩
  · intro c hc
    rw [List.getElem?_drop, show i + (e - i) = e by omega] at hc
    exact h2 c hc
theorem dgm (c : Nat) : inS [c] [48, 49, 50, 51, 52, 53, 54, 55, 56, 57] = isDg c := by
  show decide (c ∈ [48, 49, 50, 51, 52, 53, 54, 55, 56, 57]) = isDg c
  unfold isDg
  apply decide_eq_decide.mpr
  simp only [List.mem_cons, List.not_mem_nil, or_false]
  omega
theorem ltm (c : Nat) : inS [c] [97, 98, 99, 100, 101, 102, 103, 104, 105, 106, 107, 108, 109, 110, 111, 112, 113, 114, 115, 116, 117, 118, 119, 120, 121, 122] = isLt c := by
  show decide (c ∈ [97, 98, 99, 100, 101, 102, 103, 104, 105, 106, 107, 108, 109, 110, 111, 112, 113, 114, 115, 116, 117, 118, 119, 120, 121, 122]) = isLt c
  unfold isLt
  apply decide_eq_decide.mpr
  simp only [List.mem_cons, List.not_mem_nil, or_false]
  omega
theorem cut_nat {l : List Nat} {a b : Nat} (ha : a ≤ l.length) (hb : b ≤ l.length) : cutP l (some (a : Int)) (some (b : Int)) = cutN l a b := by
  unfold cutP cutN
  rw [HT.sIx_nat, HT.sIx_nat, Nat.min_eq_left ha, Nat.min_eq_left hb]
theorem slc_str {h : PH} {l : List Nat} {a b : Nat} (hl : l.length ≤ 10000000) (ha : a ≤ l.length) (hb : b ≤ l.length) : slcV G0 (.str l) (some (a : Int)) (some (b : Int)) h = some (.str (cutN l a b), h) := by
  unfold slcV
  dsimp only
  rw [if_pos (by rw [line_eq]; omega), cut_nat ha hb]
theorem cutN_len {l : List Nat} {a b : Nat} : (cutN l a b).length ≤ l.length := by
  unfold cutN
  rw [List.length_take, List.length_drop]; omega
theorem cutN_dig {l : List Nat} {s e : Nat} (h : ∀ j, s ≤ j → j < e → ∃ c, l[j]? = some c ∧ 48 ≤ c ∧ c ≤ 57) : NumText.AllDigits (cutN l s e) := by
  intro c hc
  obtain ⟨j, hj⟩ := List.mem_iff_getElem?.mp hc
  unfold cutN at hj
  rw [List.getElem?_take] at hj
  split at hj
  · rw [List.getElem?_drop] at hj
    obtain ⟨c', h1, h2⟩ := h (s + j) (by omega) (by omega)
    rw [h1] at hj; cases hj; exact h2
  · cases hj
theorem int_dig {h : PH} {ds : List Nat} (hd : NumText.AllDigits ds) (hn : ds ≠ []) (hl : ds.length ≤ 18) : intV [.str ds] h = some (.int ((NumText.digitsVal ds : Nat) : Int), h) := by
  unfold intV
  dsimp only
  rw [if_pos (by omega), PySem.intText_digits (x := sOf ds) (by exact hd) (by exact hn) (by rw [sOf_len]; omega)]
  rfl
theorem num_tail {k : Nat} {h : PH} {l : List Nat} {i s e : Nat} {t : PT} {Q : PV → PH → Prop} {E : PX → PH → Prop} (hl : l.length ≤ 10000000) (hs : s ≤ l.length) (hp : numT l i s = some (t, e)) (hq : ∀ n, t = .int n → Q (.loc h.length) (h ++ [.tup [.int n, .int (e : Int)]])) :
    wpSs G0 (S (k + 1)) (Sp (k + 1)) (fun x _ => E x) (List.drop 2 b_number_piece) { nx := fun _ h' => Q .non h', rt := Q } [some (.str l), some (.int (i : Int)), some (.int (s : Int)), none, none] h := by
  rw [show List.drop 2 b_number_piece = _ :: _ :: List.drop 4 b_number_piece from rfl]
  walk_at "wp"
  refine digitsend_ok hl hs ?_
  intro e' h1 h2 h3 h4
  have he : runEnd isDg l s = e' := runEnd_of h1 (fun j j1 j2 => by
    obtain ⟨c, hc, h⟩ := h3 j j1 j2
    exact ⟨c, hc, decide_eq_true h⟩) (fun c hc => decide_eq_false (h4 c hc))
  have hd := cutN_dig h3
  unfold numT at hp
  rw [he] at hp
  walk_at "wp"
  rw [slc_str hl hs h2]
  walk_at "wp"
  have hcl : (cutN l s e').length ≤ l.length := cutN_len
  generalize cutN l s e' = ds at hp hd hcl
  by_cases z1 : ds = []
  · rw [if_pos z1] at hp; cases hp
  rw [if_neg z1] at hp
  by_cases z2 : 18 < ds.length
  · rw [if_pos z2] at hp; cases hp
  rw [if_neg z2] at hp
  by_cases z3 : ds.head? = some 48 ∧ 1 < ds.length
  · rw [if_pos z3] at hp; cases hp
  rw [if_neg z3] at hp
  rw [show List.drop 4 b_number_piece = _ :: List.drop 5 b_number_piece from rfl]
  walk_at "wp"
  rw [if_neg (by rw [decide_eq_true_eq]; exact z1)]
  refine len_s (by omega) ?_
  walk_at "wp"
  rw [if_neg (by rw [decide_eq_true_eq]; omega)]
  obtain ⟨c, r, rfl⟩ : ∃ c r, ds = c :: r := by
    cases ds with
    | nil => exact absurd rfl z1
    | cons c r => exact ⟨c, r, rfl⟩
  rw [show (0 : Int) = ((0 : Nat) : Int) from rfl, idx_str (by omega) (show (c :: r)[0]? = some c from rfl)]
  walk_at "wp"
  have rest : wpSs G0 (S (k + 1)) (Sp (k + 1)) (fun x _ => E x) (List.drop 5 b_number_piece) { nx := fun _ h' => Q .non h', rt := Q } [some (.str l), some (.int (i : Int)), some (.int (s : Int)), some (.int (e' : Int)), some (.str (c :: r))] h := by
    rw [show List.drop 5 b_number_piece = [_, _] from rfl]
    walk_at "wp"
    by_cases y : i < s
    · rw [if_pos (decide_eq_true (by omega))]
      rw [if_pos y] at hp
      by_cases y2 : (c :: r) = [48]
      · rw [if_pos y2] at hp; cases hp
      rw [if_neg y2] at hp
      cases hp
      rw [if_neg (by rw [decide_eq_true_eq]; exact y2)]
      rw [int_dig hd z1 (by omega)]
      walk_at "wp"
      refine ⟨by rw [line_eq]; decide, hq _ rfl⟩
    · rw [if_neg (by rw [decide_eq_true_eq]; omega)]
      rw [if_neg y] at hp
      cases hp
      rw [int_dig hd z1 (by omega)]
      walk_at "wp"
      refine ⟨by rw [line_eq]; decide, hq _ rfl⟩
  by_cases y : c = 48
  · rw [if_pos (by rw [y]; rfl)]
    refine len_s (by omega) ?_
    walk_at "wp"
    rw [if_neg (by
      rw [decide_eq_true_eq]
      intro z
      exact z3 ⟨by rw [y]; rfl, by simp only [List.length_cons] at *; omega⟩)]
    exact rest
  · rw [if_neg (by rw [decide_eq_true_eq]; intro z; exact y (by injection z))]
    exact rest
theorem number_ok {k : Nat} {h : PH} {l : List Nat} {i e c : Nat} {t : PT} {Q : PV → PH → Prop} {E : PX → PH → Prop} (hl : l.length ≤ 10000000) (hi : l[i]? = some c) (hp : numP l i = some (t, e)) (hq : ∀ n, t = .int n → Q (.loc h.length) (h ++ [.tup [.int n, .int (e : Int)]])) : S (k + 2) 3 [.str l, .int (i : Int)] h Q E := by
  refine e_number_piece ?_
  rw [show b_number_piece = _ :: _ :: List.drop 2 b_number_piece from rfl]
  have hlt := get_len hi
  walk_at "wp"
  rw [idx_str (by omega) hi]
  walk_at "wp"
  unfold numP at hp
  rw [hi] at hp
  by_cases z : c = 45
  · rw [if_pos (by rw [z])] at hp
    rw [if_pos (by rw [z]; rfl)]
    exact num_tail (s := i + 1) hl (by omega) hp hq
  · rw [if_neg (by intro y; cases y; exact z rfl)] at hp
    rw [if_neg (by rw [decide_eq_true_eq]; intro y; exact z (by injection y))]
    exact num_tail hl (by omega) hp hq
end K90
set_option Elab.async false
set_option linter.all false
set_option maxRecDepth 100000
set_option maxHeartbeats 4000000
namespace K90
open PySem PySem.Spec PyProof.Rows Fw L2
local macro_rules | `(tactic| walk_at "wp") => `(tactic| try simp only [wpSs, wpSt, wpE, wpEs, wpT, wpTs, wpG, wpI, wpO, List.getElem?_cons_zero, List.getElem?_cons_succ, Option.some.injEq, exists_eq_left', exists_eq_left, Nat.reduceAdd, List.set_cons_zero, List.set_cons_succ, setAll, wipeP, prmV, mtyP, partP, ite_true, ite_false, if_true, if_false, Bool.false_eq_true, true_and, exists_const, List.length_cons, List.length_nil, p_add, p_sub, p_and, q_add, q_sub, c_lt, c_le, c_gt, c_ge, c_eq, c_ne, c_eqs, c_nes, c_is, c_isnt, c_isb, c_isntb, t_bl, t_int, i_int, i_bl, m_two, m_three, m_four, m_min, Item.v, Item.h, PV.int.injEq, PV.bl.injEq, PV.str.injEq, PV.loc.injEq, is_int, is_bl, is_non, is_str, ki_ii, ki_ib, ki_is, ki_it, ki_bi, ki_bb, ki_bs, ki_bt, ki_si, ki_sb, ki_ss, ki_st, ki_ni, ki_nb, ki_ns, ki_nt, Option.map_some, Bool.not_true, Bool.not_false, c_eqb, c_neb])
theorem runEnd_le {p : Nat → Bool} {l : List Nat} {i : Nat} (hi : i ≤ l.length) : i ≤ runEnd p l i ∧ runEnd p l i ≤ l.length := by
  unfold runEnd
  have := List.Sublist.length_le (List.takeWhile_sublist p (l := l.drop i))
  rw [List.length_drop] at this
  omega
theorem tw_in {p : Nat → Bool} : ∀ {l : List Nat} {j : Nat}, j < (l.takeWhile p).length → ∃ c, l[j]? = some c ∧ p c = true
  | [], j, h => by simp at h
  | a :: r, j, h => by
    rw [List.takeWhile_cons] at h
    split at h
    · rename_i pa
      cases j with
      | zero => exact ⟨a, rfl, pa⟩
      | succ j =>
        obtain ⟨c, h1, h2⟩ := tw_in (l := r) (j := j) (by simpa using h)
        exact ⟨c, by simpa using h1, h2⟩
    · simp at h
theorem runEnd_in {p : Nat → Bool} {l : List Nat} {i j : Nat} (h1 : i ≤ j) (h2 : j < runEnd p l i) : ∃ c, l[j]? = some c ∧ p c = true := by
  unfold runEnd at h2
  obtain ⟨c, a, b⟩ := tw_in (p := p) (l := l.drop i) (j := j - i) (by omega)
  rw [List.getElem?_drop, show i + (j - i) = j by omega] at a
  exact ⟨c, a, b⟩
theorem text_ok {k : Nat} {h : PH} {l : List Nat} {i e : Nat} {t : PT} {Q : PV → PH → Prop} {E : PX → PH → Prop} (hl : l.length ≤ 10000000) (hi : i < l.length) (hp : textP l i = some (t, e)) (hq : ∀ x h', Kp0 h h' → t = .str x → Q (.loc h'.length) (h' ++ [.tup [.str x, .int (e : Int)]])) : S (k + 2) 4 [.str l, .int (i : Int)] h Q E := by
  refine e_text_piece ?_
  unfold b_text_piece
  unfold textP at hp
  have hle := runEnd_le (p := isTx) (l := l) (i := i + 1) (by omega)
  have hin := fun j => runEnd_in (p := isTx) (l := l) (i := i + 1) (j := j)
  generalize runEnd isTx l (i + 1) = k' at hp hle hin
  split at hp
  case isFalse => cases hp
  rename_i hh
  cases hp
  walk_at "wp"
  have ef : findV [.str l, .str [39], .int ((i : Int) + 1)] h = some (.int (k' : Int), h) := by
    unfold findV
    dsimp only
    rw [show ((i : Int) + 1) = ((i + 1 : Nat) : Int) from rfl, find_quote hh.1 hle.1 (fun j h1 h2 => by
      obtain ⟨c, a, b⟩ := hin j h1 h2
      rw [a]
      intro z
      cases z
      exact absurd b (by decide))]
  rw [ef]
  walk_at "wp"
  rw [if_neg (by rw [decide_eq_true_eq]; omega)]
  rw [show ((i : Int) + 1) = ((i + 1 : Nat) : Int) from rfl, slc_str hl (by omega) hle.2]
  walk_at "wp"
  refine firstodd_ok (fun c hc => of_decide_eq_true (List.all_eq_true.mp hh.2 c hc)) ?_
  intro h' kp
  walk_at "wp"
  rw [if_neg (by simp)]
  rw [slc_str hl (by omega) hle.2]
  walk_at "wp"
  exact ⟨by rw [line_eq]; decide, hq _ h' kp rfl⟩
def scT : PT → PV
  | .non => .non
  | .int i => .int i
  | .str l => .str l
  | .tup _ => .non
theorem item_ok {k : Nat} {h : PH} {l : List Nat} {i e : Nat} {f : Bool} {t : PT} {Q : PV → PH → Prop} {E : PX → PH → Prop} (hl : l.length ≤ 10000000) (hp : itemP l i f = some (t, e)) (hq : ∀ n h', Kp0 h h' → (∀ xs, t ≠ .tup xs) → h'[n]? = some (.tup [scT t, .int (e : Int)]) → Q (.loc n) h') : S (k + 3) 5 [.str l, .int (i : Int), .bl f] h Q E := by
  refine e_item_piece ?_
  unfold itemP at hp
  split at hp
  · cases hp
  rename_i c hi
  have hlt := get_len hi
  rw [show b_item_piece = _ :: _ :: List.drop 2 b_item_piece from rfl]
  walk_at "wp"
  rw [idx_str (by omega) hi]
  walk_at "wp"
  have e1 : cmpV G0 .In (.str [c]) (.str [48, 49, 50, 51, 52, 53, 54, 55, 56, 57]) h = some (isDg c) := by rw [← dgm c]; rfl
  refine ⟨_, e1, ?_⟩
  have num : numP l i = some (t, e) → S (k + 2) 3 [.str l, .int (i : Int)] h Q (fun x => E x) := by
    intro hp
    refine number_ok hl hi hp ?_
    intro n hn
    exact hq _ _ Kp.snoc (fun xs z => by rw [hn] at z; cases z) (by rw [hn]; exact get_new)
  by_cases z1 : isDg c = true
  · rw [if_pos (.inl z1)] at hp
    rw [if_pos z1]
    exact num hp
  rw [if_neg z1]
  by_cases z2 : c = 45
  · rw [if_pos (.inr z2)] at hp
    rw [if_pos (by rw [z2]; rfl)]
    exact num hp
  rw [if_neg (by rintro (z | z); exact z1 z; exact z2 z)] at hp
  rw [if_neg (by rw [decide_eq_true_eq]; intro y; exact z2 (by injection y))]
  rw [show List.drop 2 b_item_piece = _ :: List.drop 3 b_item_piece from rfl]
  walk_at "wp"
  by_cases z3 : c = 39
  · rw [if_pos z3] at hp
    rw [if_pos (by rw [z3]; rfl)]
    refine text_ok hl hlt hp ?_
    intro x h' kp hx
    exact hq _ _ (kp.trans Kp.snoc) (fun xs z => by rw [hx] at z; cases z) (by rw [hx]; exact get_new)
  rw [if_neg z3] at hp
  rw [if_neg (by rw [decide_eq_true_eq]; intro y; exact z3 (by injection y))]
  rw [show List.drop 3 b_item_piece = [_, _] from rfl]
  walk_at "wp"
  have e2 : cmpV G0 .In (.str [c]) (.str [97, 98, 99, 100, 101, 102, 103, 104, 105, 106, 107, 108, 109, 110, 111, 112, 113, 114, 115, 116, 117, 118, 119, 120, 121, 122]) h = some (isLt c) := by rw [← ltm c]; rfl
  refine ⟨_, e2, ?_⟩
  by_cases z4 : isLt c = true
  case neg =>
    rw [if_neg z4] at hp
    cases hp
  rw [if_pos z4] at hp
  rw [if_pos z4]
  refine lettersend_ok hl (by omega) ?_
  intro e' h1 h2 h3 h4
  have he : runEnd isLt l i = e' := runEnd_of h1 (fun j j1 j2 => by
    obtain ⟨c, hc, h⟩ := h3 j j1 j2
    exact ⟨c, hc, decide_eq_true h⟩) (fun c hc => decide_eq_false (h4 c hc))
  rw [he] at hp
  walk_at "wp"
  rw [slc_str hl (by omega) h2]
  walk_at "wp"
  by_cases z5 : cutN l i e' = noneL
  · rw [if_pos z5] at hp
    cases hp
    rw [if_pos (by rw [z5]; rfl)]
    exact ⟨by rw [line_eq]; decide, hq _ _ Kp.snoc (fun xs z => by cases z) get_new⟩
  · rw [if_neg z5] at hp
    rw [if_neg (by rw [decide_eq_true_eq]; exact z5)]
    split at hp
    case isFalse => cases hp
    rename_i hf
    cases hp
    rw [if_pos hf]
    exact ⟨by rw [line_eq]; decide, hq _ _ Kp.snoc (fun xs z => by cases z) get_new⟩
end K90
set_option Elab.async false
set_option linter.all false
set_option maxRecDepth 100000
set_option maxHeartbeats 4000000
namespace K90
open PySem PySem.Spec PyProof.Rows Fw L2
local macro_rules | `(tactic| walk_at "wp") => `(tactic| try simp only [wpSs, wpSt, wpE, wpEs, wpT, wpTs, wpG, wpI, wpO, List.getElem?_cons_zero, List.getElem?_cons_succ, Option.some.injEq, exists_eq_left', exists_eq_left, Nat.reduceAdd, List.set_cons_zero, List.set_cons_succ, setAll, wipeP, prmV, mtyP, partP, ite_true, ite_false, if_true, if_false, Bool.false_eq_true, true_and, exists_const, List.length_cons, List.length_nil, p_add, p_sub, p_and, q_add, q_sub, c_lt, c_le, c_gt, c_ge, c_eq, c_ne, c_eqs, c_nes, c_is, c_isnt, c_isb, c_isntb, t_bl, t_int, i_int, i_bl, m_two, m_three, m_four, m_min, Item.v, Item.h, PV.int.injEq, PV.bl.injEq, PV.str.injEq, PV.loc.injEq, is_int, is_bl, is_non, is_str, ki_ii, ki_ib, ki_is, ki_it, ki_bi, ki_bb, ki_bs, ki_bt, ki_si, ki_sb, ki_ss, ki_st, ki_ni, ki_nb, ki_ns, ki_nt, Option.map_some, Bool.not_true, Bool.not_false, c_eqb, c_neb])
def AtX (h : PH) (v : PV) (t : PT) : Prop := ∃ d, At h d v t
theorem At.le {h : PH} {v : PV} {t : PT} {d d' : Nat} (hd : d ≤ d') (a : At h d v t) : At h d' v t := by
  obtain ⟨e, rfl⟩ := Nat.exists_eq_add_of_le hd
  clear hd
  induction e with
  | zero => exact a
  | succ e ih => exact ih.up
theorem AtX.kp {h h' : PH} (kp : Kp0 h h') {v : PV} {t : PT} : AtX h v t → AtX h' v t := fun ⟨d, a⟩ => ⟨d, a.kp kp⟩
theorem AtX.set {h : PH} {n : Nat} {zs zs' : List PV} (e : h[n]? = some (.lst zs)) {v : PV} {t : PT} : AtX h v t → AtX (h.set n (.lst zs')) v t := fun ⟨d, a⟩ => ⟨d, a.set e⟩
theorem atx_sc {h : PH} {t : PT} (nt : ∀ xs, t ≠ .tup xs) : AtX h (scT t) t := by
  refine ⟨0, ?_⟩
  cases t with
  | tup xs => exact absurd rfl (nt xs)
  | _ => rfl
theorem vs_depth {h : PH} : ∀ {vs : List PV} {xs : List PT}, Paired (AtX h) vs xs → ∃ d, Paired (At h d) vs xs
  | _, _, .nil => ⟨0, .nil⟩
  | _, _, .cons ⟨d, a⟩ r => by
    obtain ⟨e, b⟩ := vs_depth r
    refine ⟨max d e, .cons (a.le (Nat.le_max_left ..)) (Paired.imp (fun _ _ z => z.le (Nat.le_max_right ..)) b)⟩
theorem paired_at {α β : Type} {F : α → β → Prop} : ∀ {xs : List α} {ys : List β} {i : Nat} {x : α} {y : β}, Paired F xs ys → xs[i]? = some x → ys[i]? = some y → F x y
  | _, _, _, _, _, .nil, e, _ => by simp at e
  | _, _, 0, _, _, .cons r _, e, e' => by cases e; cases e'; exact r
  | _, _, i + 1, _, _, .cons _ t, e, e' => paired_at (i := i) t (by simpa using e) (by simpa using e')
theorem atx_tup {h : PH} {n : Nat} {vs : List PV} {xs : List PT} (e : h[n]? = some (.tup vs)) (hp : Paired (AtX h) vs xs) (hl : xs.length ≤ 10000000) : AtX h (.loc n) (.tup xs) := by
  obtain ⟨d, p⟩ := vs_depth hp
  have := Paired.length p
  exact ⟨d + 1, n, vs, rfl, e, ⟨this, by omega⟩, fun i u t hu ht => paired_at p hu ht⟩
def Wt (h : PH) : List Nat → List (List PT) → Prop
  | [], [] => True
  | m :: ns, x :: r => m ∉ ns ∧ (∃ vs, h[m]? = some (.lst vs) ∧ Paired (AtX h) vs x) ∧ Wt h ns r
  | _, _ => False
theorem Wt.kp {h h' : PH} (kp : Kp0 h h') : ∀ {ns : List Nat} {w : List (List PT)}, Wt h ns w → Wt h' ns w
  | [], [], _ => trivial
  | m :: ns, x :: r, ⟨a, ⟨vs, b, c⟩, d⟩ => ⟨a, ⟨vs, kp.get0 b, Paired.imp (fun _ _ z => z.kp kp) c⟩, d.kp kp⟩
  | [], _ :: _, e => e.elim
  | _ :: _, [], e => e.elim
theorem Wt.set {h : PH} {n : Nat} {zs zs' : List PV} (e : h[n]? = some (.lst zs)) : ∀ {ns : List Nat} {w : List (List PT)}, n ∉ ns → Wt h ns w → Wt (h.set n (.lst zs')) ns w
  | [], [], _, _ => trivial
  | m :: ns, x :: r, hn, ⟨a, ⟨vs, b, c⟩, d⟩ => ⟨a, ⟨vs, by
      rw [List.getElem?_set_ne (fun z => hn (by rw [z]; exact List.mem_cons_self ..))]; exact b, Paired.imp (fun _ _ z => z.set e) c⟩, d.set e (fun z => hn (List.mem_cons_of_mem _ z))⟩
  | [], _ :: _, _, e => e.elim
  | _ :: _, [], _, e => e.elim
def Md.s : Md → List Nat
  | .item => [105, 116, 101, 109]
  | .first => [102, 105, 114, 115, 116]
  | .behind => [98, 101, 104, 105, 110, 100]
  | .done => [100, 111, 110, 101]
def valL : List Nat := [118, 97, 108, 117, 101]
/-- what stands behind an item: the list of the waiting ones -/
structure WR (h0 : PH) (w : List (List PT)) (i : Nat) (n : Nat) (ns : List Nat) (h : PH) : Prop where
  nn : n ∉ ns
  at_ : h[n]? = some (.lst (ns.map PV.loc).reverse)
  wt : Wt h ns w
  len : ∀ x ∈ w, x.length ≤ i
  nl : ns.length ≤ i
  n0 : h0.length ≤ n
  ns0 : ∀ m ∈ ns, h0.length ≤ m
  kp : Kp0 h0 h
def RepR (h0 : PH) (l : List Nat) (s : RS) (σ : PSt) (h : PH) : Prop := ∃ n ns v y5, σ = [some (.str l), some (.loc n), some (.str s.m.s), some v, some (.int (s.i : Int)), y5] ∧ WR h0 s.w s.i n ns h ∧ AtX h v s.v ∧ s.i ≤ l.length
theorem WR.grow {h0 h h' : PH} {w : List (List PT)} {i j n : Nat} {ns : List Nat} (W : WR h0 w i n ns h) (hij : i ≤ j) (kp : Kp0 h h') : WR h0 w j n ns h' :=
  ⟨W.nn, kp.get0 W.at_, W.wt.kp kp, fun x hx => Nat.le_trans (W.len x hx) hij, Nat.le_trans W.nl hij, W.n0, W.ns0, W.kp.trans kp⟩
def b7w : List IS := match List.drop 4 b_parse_paper with
  | .whl _ b :: _ => b
  | _ => []
theorem t_lst' {h : PH} {n : Nat} {xs : List PV} (e : h[n]? = some (.lst xs)) : truP G0 h (.loc n) = some (!xs.isEmpty) := by
  unfold truP
  dsimp only
  rw [e]
theorem rev_last {ns : List Nat} {m : Nat} : L2.atI (((m :: ns).map PV.loc).reverse) (-1) = some (.loc m) := by
  rw [at_last (by simp)]
  simp
/-- an item ends behind its place, within the line -/
theorem itemP_lt {l : List Nat} {i e : Nat} {f : Bool} {t : PT} (h : itemP l i f = some (t, e)) : i < e ∧ e ≤ l.length := by
  unfold itemP at h
  split at h
  · cases h
  rename_i c hc
  have hl := get_len hc
  split at h
  · rename_i hd
    unfold numP numT at h
    have key : ∀ s, i ≤ s → s ≤ l.length → cutN l s (runEnd isDg l s) ≠ [] → i < runEnd isDg l s ∧ runEnd isDg l s ≤ l.length := by
      intro s h1 h2 h3
      have := runEnd_le (p := isDg) h2
      refine ⟨?_, this.2⟩
      rcases Nat.lt_or_ge i (runEnd isDg l s) with z | z
      · exact z
      · exact absurd (by unfold cutN; rw [show runEnd isDg l s - s = 0 by omega]; rfl) h3
    have hs1 : i ≤ (if l[i]? = some 45 then i + 1 else i) := by split <;> omega
    have hs2 : (if l[i]? = some 45 then i + 1 else i) ≤ l.length := by split <;> omega
    generalize (if l[i]? = some 45 then i + 1 else i) = s at h hs1 hs2
    split at h
    · cases h
    rename_i hne
    have := key s hs1 hs2 hne
    repeat' split at h
    all_goals first | (cases h; done) | (cases h; exact this)
  · split at h
    · unfold textP at h
      split at h
      · rename_i hh
        cases h
        have := runEnd_le (p := isTx) (l := l) (i := i + 1) (by omega)
        have := get_len hh.1
        omega
      · cases h
    · split at h
      · rename_i hlt
        have r := runEnd_le (p := isLt) (l := l) (i := i) (by omega)
        have : i < runEnd isLt l i := by
          unfold runEnd
          have : 0 < ((l.drop i).takeWhile isLt).length := by
            rw [List.drop_eq_getElem_cons hl, List.takeWhile_cons]
            rw [List.getElem?_eq_getElem hl] at hc
            have : l[i] = c := by injection hc
            rw [this, hlt]
            simp
          omega
        repeat' split at h
        all_goals first | (cases h; done) | (cases h; omega)
      · cases h
/-- a value is there -/
theorem put_ok {k : Nat} {h0 h : PH} {l : List Nat} {w : List (List PT)} {i n : Nat} {ns : List Nat} {v : PV} {t : PT} {y5 : Option PV} {D : PEnds} {E : PX → PH → Prop} (hl : l.length ≤ 10000000) (W : WR h0 w i n ns h) (hi : i + 1 ≤ l.length + 1) (wl : ∀ x ∈ w, x.length + 1 ≤ i) (a : AtX h v t) (hq : ∀ σ' h', RepR h0 l (putV w t i) σ' h' → D.nx σ' h') :
    wpSs G0 (S k) (Sp k) (fun x _ => E x) (List.drop 2 b7w) D [some (.str l), some (.loc n), some (.str valL), some v, some (.int (i : Int)), y5] h := by
  rw [show List.drop 2 b7w = [_] from rfl]
  walk_at "wp"
  rw [if_pos (by rfl)]
  rw [t_lst' W.at_]
  walk_at "wp"
  cases ns with
  | nil =>
    cases w with
    | cons x r => exact W.wt.elim
    | nil =>
      rw [if_neg (by simp)]
      exact hq _ _ ⟨n, [], v, y5, rfl, W, a, by show i ≤ l.length; omega⟩
  | cons m ns =>
    cases w with
    | nil => exact W.wt.elim
    | cons x r =>
      rw [if_pos (by simp)]
      refine ⟨_, by rw [idx_seq (seqOf_lst W.at_)]; exact rev_last, ?_⟩
      obtain ⟨w1, ⟨vs, w2, w3⟩, w4⟩ := W.wt
      refine ⟨by rw [lstOf_lst w2]; rfl, ?_⟩
      have hx := wl x (List.mem_cons_self ..)
      have hvl := Paired.length w3
      refine ⟨_, append_lst w2 (by rw [line_eq]; omega), ?_⟩
      refine hq _ _ ⟨n, m :: ns, v, y5, rfl, ?_, a.set w2, by show i ≤ l.length; omega⟩
      have hmn : m ≠ n := fun z => W.nn (by rw [← z]; exact List.mem_cons_self ..)
      refine ⟨W.nn, ?_, ⟨w1, ⟨vs ++ [v], get_put w2, Paired.snoc (Paired.imp (fun _ _ z => z.set w2) w3) (a.set w2)⟩, w4.set w2 w1⟩, ?_, W.nl, W.n0, W.ns0, W.kp.put (W.ns0 m (List.mem_cons_self ..))⟩
      · rw [List.getElem?_set_ne hmn]; exact W.at_
      · intro x' hx'
        rcases List.mem_cons.mp hx' with rfl | hx'
        · rw [List.length_append, List.length_singleton]; exact hx
        · have := wl x' (List.mem_cons_of_mem _ hx')
          show x'.length ≤ i
          omega
theorem pop_wr {h0 h : PH} {x : List PT} {r : List (List PT)} {i n m : Nat} {ns : List Nat} (W : WR h0 (x :: r) i n (m :: ns) h) :
    ∃ vs h1, popV [.loc n] h = some (.loc m, h1) ∧ h1[m]? = some (.lst vs) ∧ Paired (AtX h1) vs x ∧ WR h0 r i n ns h1 := by
  obtain ⟨w1, ⟨vs, w2, w3⟩, w4⟩ := W.wt
  have hn : n ∉ ns := fun z => W.nn (List.mem_cons_of_mem _ z)
  have hmn : n ≠ m := fun z => W.nn (by rw [z]; exact List.mem_cons_self ..)
  refine ⟨vs, h.set n (.lst (ns.map PV.loc).reverse), ?_, ?_, Paired.imp (fun _ _ z => z.set W.at_) w3, ⟨hn, get_put W.at_, w4.set W.at_ hn, fun y hy => W.len y (List.mem_cons_of_mem _ hy), Nat.le_trans (by simp) W.nl, W.n0, fun y hy => W.ns0 y (List.mem_cons_of_mem _ hy), W.kp.put W.n0⟩⟩
  · unfold popV
    dsimp only
    rw [W.at_]
    dsimp only
    have : ((List.map PV.loc (m :: ns)).reverse)[((List.map PV.loc (m :: ns)).reverse).length - 1]? = some (.loc m) := by simp
    rw [this]
    simp
  · rw [List.getElem?_set_ne hmn]; exact w2
theorem behind_comma2 {k : Nat} {h : PH} {l : List Nat} {i : Nat} {v : PV} {Q : PV → PH → Prop} {E : PX → PH → Prop} (hl : l.length ≤ 10000000) (hi : l[i]? = some 44) (hi2 : ¬ (i + 1 < l.length ∧ l[i + 1]? ≠ some 32)) (hq : Q (.loc h.length) (h ++ [.tup [.int ((min (i + 2) l.length : Nat) : Int), .bl false]])) : S (k + 1) 6 [.str l, .int (i : Int), v] h Q E := by
  refine e_behind_item ?_
  unfold b_behind_item
  have lt := get_len hi
  walk_at "wp"
  rw [idx_str (by omega) hi]
  walk_at "wp"
  rw [if_neg (by decide), if_pos (by rfl)]
  refine len_s hl ?_
  walk_at "wp"
  by_cases z : i + 1 < l.length
  · rw [if_pos (decide_eq_true (by omega))]
    have h32 : l[i + 1]? = some 32 := Classical.byContradiction fun y => hi2 ⟨z, y⟩
    rw [show ((i : Int) + 1) = ((i + 1 : Nat) : Int) from rfl, idx_str (by omega) h32]
    walk_at "wp"
    rw [if_neg (by decide)]
    refine len_s hl ?_
    walk_at "wp"
    refine ⟨by rw [line_eq]; decide, ?_⟩
    rw [show min ((i : Int) + 2) (l.length : Int) = ((min (i + 2) l.length : Nat) : Int) by omega]
    exact hq
  · rw [if_neg (by rw [decide_eq_true_eq]; omega)]
    refine len_s hl ?_
    walk_at "wp"
    refine ⟨by rw [line_eq]; decide, ?_⟩
    rw [show min ((i : Int) + 2) (l.length : Int) = ((min (i + 2) l.length : Nat) : Int) by omega]
    exact hq
theorem ms_done (m : Md) : decide (m.s = [100, 111, 110, 101]) = decide (m = .done) := by cases m <;> decide
theorem ms_behind (m : Md) : decide (m.s = [98, 101, 104, 105, 110, 100]) = decide (m = .behind) := by cases m <;> decide
theorem ms_first (m : Md) : decide (m.s = [102, 105, 114, 115, 116]) = decide (m = .first) := by cases m <;> decide
theorem close_ok {k : Nat} {h0 h : PH} {l : List Nat} {w : List (List PT)} {s' : RS} {i n : Nat} {ns : List Nat} {y5 : Option PV} {D : PEnds} {E : PX → PH → Prop} (hl : l.length ≤ 10000000) (W : WR h0 w i n ns h) (hi : i < l.length) (hc : closeV w (i + 1) = some s') (hq : ∀ σ' h', RepR h0 l s' σ' h' → D.nx σ' h') :
    (lstOf G0 h (.loc n)).isSome = true ∧ ∃ r, popV [.loc n] h = some r ∧ ∃ r1, tupleV G0 [r.1] r.2 = some r1 ∧ wpSs G0 (S k) (Sp k) (fun x _ => E x) (List.drop 2 b7w) D [some (.str l), some (.loc n), some (.str valL), some r1.1, some (.int ((i + 1 : Nat) : Int)), y5] r1.2 := by
  cases w with
  | nil => cases hc
  | cons x r =>
    cases ns with
    | nil => exact W.wt.elim
    | cons m ns =>
      obtain ⟨vs, h1, e1, e2, e3, W1⟩ := pop_wr W
      cases hc
      have hx := W.len x (List.mem_cons_self ..)
      refine ⟨by rw [lstOf_lst W.at_]; rfl, _, e1, _, tuple_lst (lstOf_lst e2), ?_⟩
      refine put_ok hl (W1.grow (by omega) Kp.snoc) (by omega) (fun y hy => by have := W1.len y hy; omega) (atx_tup get_new (Paired.imp (fun _ _ z => z.kp Kp.snoc) e3) (by omega)) hq
theorem parse_step {k : Nat} {h0 h : PH} {l : List Nat} {s s' : RS} {σ : PSt} {D : PEnds} {E : PX → PH → Prop} (hl : l.length ≤ 10000000) (R : RepR h0 l s σ h) (hs : s.i < l.length) (hst : stepR l s = some s') (hq : ∀ σ' h', RepR h0 l s' σ' h' → D.nx σ' h') :
    wpSs G0 (S (k + 3)) (Sp (k + 3)) (fun x _ => E x) b7w D σ h := by
  obtain ⟨n, ns, v, y5, rfl, W, a, hi⟩ := R
  have hc : l[s.i]? = some (l[s.i]'hs) := List.getElem?_eq_getElem _
  generalize l[s.i]'hs = c at hc
  rw [show b7w = _ :: List.drop 1 b7w from rfl]
  walk_at "wp"
  rw [ms_done]
  by_cases d1 : s.m = .done
  · unfold stepR at hst; rw [d1] at hst; cases hst
  rw [decide_eq_false d1]
  walk_at "wp"
  rw [show List.drop 1 b7w = _ :: List.drop 2 b7w from rfl]
  walk_at "wp"
  rw [ms_behind]
  by_cases d2 : s.m = .behind
  · rw [decide_eq_true d2]
    walk_at "wp"
    unfold stepR at hst
    rw [d2] at hst
    dsimp only at hst
    rw [hc] at hst
    by_cases z1 : c = 41
    · subst z1
      rw [if_pos rfl] at hst
      refine behind_close (k := k + 2) hl hc ?_
      walk_at "wp"
      refine ⟨_, seqOf_tup get_new, rfl, ?_⟩
      walk_at "wp"
      exact close_ok hl (W.grow (Nat.le_refl _) Kp.snoc) hs hst hq
    · rw [if_neg (by intro y; cases y; exact z1 rfl)] at hst
      by_cases z2 : c = 44
      case neg =>
        rw [if_neg (by intro y; cases y; exact z2 rfl)] at hst
        cases hst
      subst z2
      rw [if_pos rfl] at hst
      split at hst
      case isTrue => cases hst
      rename_i h2
      cases hst
      refine behind_comma2 (k := k + 2) hl hc h2 ?_
      walk_at "wp"
      refine ⟨_, seqOf_tup get_new, rfl, ?_⟩
      walk_at "wp"
      rw [show List.drop 2 b7w = [_] from rfl]
      walk_at "wp"
      rw [if_neg (by decide)]
      exact hq _ _ ⟨n, ns, v, _, rfl, W.grow (by show s.i ≤ min (s.i + 2) l.length; omega) Kp.snoc, a.kp Kp.snoc, Nat.min_le_right ..⟩
  · rw [decide_eq_false d2]
    walk_at "wp"
    have hst : (if l[s.i]? = some 40 then some (⟨[] :: s.w, .first, s.v, s.i + 1⟩ : RS)
      else if s.m = .first ∧ l[s.i]? = some 41 then closeV s.w (s.i + 1)
      else if s.w = [] then none
      else match itemP l s.i (decide (s.m = .first)) with
        | none => none
        | some (t, e) => some (putV s.w t e)) = some s' := by
      unfold stepR at hst
      cases hm : s.m with
      | done => exact absurd hm d1
      | behind => exact absurd hm d2
      | item => rw [hm] at hst; exact hst
      | first => rw [hm] at hst; exact hst
    rw [idx_str (by omega) hc]
    walk_at "wp"
    rw [hc] at hst
    by_cases z1 : c = 40
    · subst z1
      rw [if_pos rfl] at hst
      cases hst
      rw [if_pos (by rfl)]
      refine ⟨by rw [lstOf_lst W.at_]; rfl, by rw [line_eq]; decide, ?_⟩
      have W2 : WR h0 s.w (s.i + 1) n ns (h ++ [.lst []]) := W.grow (by omega) Kp.snoc
      have hnl := get_len W.at_
      have nsl : h.length ∉ ns := by
        intro z
        have : ∀ {ns : List Nat} {w : List (List PT)}, Wt h ns w → h.length ∉ ns := by
          intro ns
          induction ns with
          | nil => intro w _ z; cases z
          | cons m ns ih =>
            intro w hw z
            cases w with
            | nil => exact hw.elim
            | cons x r =>
              obtain ⟨_, ⟨vs, e, _⟩, w4⟩ := hw
              rcases List.mem_cons.mp z with z | z
              · have := get_len e; omega
              · exact ih w4 z
        exact this W.wt z
      have al := W.nl
      refine ⟨_, append_lst W2.at_ (by rw [line_eq]; simp; omega), ?_⟩
      walk_at "wp"
      rw [show List.drop 2 b7w = [_] from rfl]
      walk_at "wp"
      rw [if_neg (by decide)]
      refine hq _ _ ⟨n, h.length :: ns, v, y5, rfl, ⟨?_, ?_, ⟨nsl, ⟨[], ?_, .nil⟩, W2.wt.set W2.at_ W.nn⟩, ?_, by rw [List.length_cons]; show ns.length + 1 ≤ s.i + 1; omega, W.n0, ?_, W2.kp.put W.n0⟩, (a.kp Kp.snoc).set W2.at_, by show s.i + 1 ≤ l.length; omega⟩
      · intro z
        rcases List.mem_cons.mp z with z | z
        · omega
        · exact W.nn z
      · rw [get_put W2.at_]; simp
      · rw [List.getElem?_set_ne (by omega)]; exact get_new
      · intro x hx
        rcases List.mem_cons.mp hx with rfl | hx
        · exact Nat.zero_le _
        · exact W2.len x hx
      · intro m hm
        rcases List.mem_cons.mp hm with rfl | hm
        · exact W.kp.1
        · exact W.ns0 m hm
    · rw [if_neg (by intro y; cases y; exact z1 rfl)] at hst
      rw [if_neg (by rw [decide_eq_true_eq]; intro y; exact z1 (by injection y))]
      rw [ms_first]
      by_cases z2 : s.m = .first ∧ c = 41
      · rw [if_pos ⟨z2.1, by rw [z2.2]⟩] at hst
        rw [decide_eq_true z2.1]
        walk_at "wp"
        rw [if_pos (by rw [z2.2]; rfl)]
        exact close_ok hl W hs hst hq
      · rw [if_neg (fun y => z2 ⟨y.1, by have := y.2; injection this⟩)] at hst
        have wne : s.w ≠ [] := fun z => by rw [if_pos z] at hst; cases hst
        rw [if_neg wne] at hst
        have nne : ns ≠ [] := fun z => by
          have := W.wt
          rw [z] at this
          cases hw : s.w with
          | nil => exact wne hw
          | cons x r => rw [hw] at this; exact this
        have hne : (List.map PV.loc ns).reverse.isEmpty = false := by
          cases ns with
          | nil => exact absurd rfl nne
          | cons m r => simp
        have fin : ∀ (t : PT) (e : Nat) (g : PH), itemP l s.i (decide (s.m = .first)) = some (t, e) → Kp0 h g → (∀ xs, t ≠ .tup xs) → s' = putV s.w t e → wpSs G0 (S (k + 3)) (Sp (k + 3)) (fun x _ => E x) (List.drop 2 b7w) D [some (.str l), some (.loc n), some (.str [118, 97, 108, 117, 101]), some (scT t), some (.int (e : Int)), y5] g := by
          intro t e g hit kg nt hs'
          obtain ⟨ie, il⟩ := itemP_lt hit
          exact put_ok hl (W.grow (by omega) kg) (by omega) (fun y hy => by have := W.len y hy; omega) (atx_sc nt) (fun σ' h' R => hq σ' h' (by rw [hs']; exact R))
        cases hit : itemP l s.i (decide (s.m = .first)) with
        | none => rw [hit] at hst; cases hst
        | some te =>
          obtain ⟨t, e⟩ := te
          rw [hit] at hst
          have hs' : s' = putV s.w t e := by injection hst with hst; exact hst.symm
          by_cases y : s.m = .first
          · rw [decide_eq_true y] at hit ⊢
            walk_at "wp"
            rw [if_neg (by rw [decide_eq_true_eq]; intro q; exact z2 ⟨y, by injection q⟩)]
            rw [t_lst' W.at_, hne]
            walk_at "wp"
            refine item_ok hl hit ?_
            intro n' g kg nt en
            walk_at "wp"
            refine ⟨_, seqOf_tup en, rfl, ?_⟩
            walk_at "wp"
            exact fin t e g (by rw [decide_eq_true y]; exact hit) kg nt hs'
          · rw [decide_eq_false y] at hit ⊢
            walk_at "wp"
            rw [t_lst' W.at_, hne]
            walk_at "wp"
            refine item_ok hl hit ?_
            intro n' g kg nt en
            walk_at "wp"
            refine ⟨_, seqOf_tup en, rfl, ?_⟩
            walk_at "wp"
            exact fin t e g (by rw [decide_eq_false y]; exact hit) kg nt hs'
/-- what parse_paper does -/
theorem parse_ok {k f : Nat} {h : PH} {l : List Nat} {t : PT} {Q : PV → PH → Prop} {E : PX → PH → Prop} (hl : l.length ≤ 10000000) (hr : runR l f ⟨[], .item, .non, 0⟩ = .paper t) (hq : ∀ v h', Kp0 h h' → AtX h' v t → Q v h') : S (k + 4) 7 [.str l] h Q E := by
  refine e_parse_paper ?_
  rw [show b_parse_paper = _ :: _ :: _ :: _ :: .whl (.tru (.cmp .Lt (.var 4) (.prm .len [.var 0]))) b7w :: List.drop 5 b_parse_paper from rfl]
  walk_at "wp"
  refine ⟨by rw [line_eq]; decide, ?_⟩
  refine ⟨fun m σ g => ∃ s, runR l m s = .paper t ∧ RepR h l s σ g, ⟨f, _, hr, h.length, [], .non, none, rfl, ⟨by simp, get_new, trivial, fun x hx => (by cases hx), Nat.zero_le _, Nat.le_refl _, fun m hm => (by cases hm), Kp.snoc⟩, ⟨0, rfl⟩, Nat.zero_le _⟩, ?_⟩
  rintro m σ g ⟨s, hm, R⟩
  obtain ⟨n, ns, v, y5, rfl, W, a, hi⟩ := R
  cases m with
  | zero => cases hm
  | succ m =>
    unfold runR at hm
    walk_at "wp"
    refine len_s hl ?_
    walk_at "wp"
    by_cases z : s.i < l.length
    · rw [if_pos (decide_eq_true (by omega))]
      rw [if_pos z] at hm
      cases hst : stepR l s with
      | none => rw [hst] at hm; cases hm
      | some s' =>
        rw [hst] at hm
        refine parse_step hl ⟨n, ns, v, y5, rfl, W, a, hi⟩ z hst ?_
        intro σ' h' R'
        exact ⟨m, Nat.lt_succ_self _, s', hm, R'⟩
    · rw [if_neg (by rw [decide_eq_true_eq]; omega)]
      rw [if_neg z] at hm
      split at hm
      case isFalse => cases hm
      rename_i hd
      cases hm
      rw [show List.drop 5 b_parse_paper = [_, _] from rfl]
      walk_at "wp"
      rw [ms_done, decide_eq_true hd]
      walk_at "wp"
      exact hq _ _ W.kp a
end K90
set_option Elab.async false
set_option linter.all false
set_option maxRecDepth 100000
set_option maxHeartbeats 4000000
namespace K90
open PySem PySem.Spec PyProof.Rows Fw L2
local macro_rules | `(tactic| walk_at "wp") => `(tactic| try simp only [wpSs, wpSt, wpE, wpEs, wpT, wpTs, wpG, wpI, wpO, List.getElem?_cons_zero, List.getElem?_cons_succ, Option.some.injEq, exists_eq_left', exists_eq_left, Nat.reduceAdd, List.set_cons_zero, List.set_cons_succ, setAll, wipeP, prmV, mtyP, partP, ite_true, ite_false, if_true, if_false, Bool.false_eq_true, true_and, exists_const, List.length_cons, List.length_nil, p_add, p_sub, p_and, q_add, q_sub, c_lt, c_le, c_gt, c_ge, c_eq, c_ne, c_eqs, c_nes, c_is, c_isnt, c_isb, c_isntb, t_bl, t_int, i_int, i_bl, m_two, m_three, m_four, m_min, Item.v, Item.h, PV.int.injEq, PV.bl.injEq, PV.str.injEq, PV.loc.injEq, is_int, is_bl, is_non, is_str, ki_ii, ki_ib, ki_is, ki_it, ki_bi, ki_bb, ki_bs, ki_bt, ki_si, ki_sb, ki_ss, ki_st, ki_ni, ki_nb, ki_ns, ki_nt, Option.map_some, Bool.not_true, Bool.not_false, c_eqb, c_neb])
/-! reading what was written -/
def Run (l : List Nat) (s s' : RS) : Prop := ∃ k, ∀ f, runR l (f + k) s = runR l f s'
theorem Run.trans {l : List Nat} {a b c : RS} : Run l a b → Run l b c → Run l a c := fun ⟨k, x⟩ ⟨m, y⟩ => ⟨m + k, fun f => by rw [← Nat.add_assoc, x, y]⟩
theorem Run.one {l : List Nat} {s s' : RS} (hi : s.i < l.length) (h : stepR l s = some s') : Run l s s' := ⟨1, fun f => by
  show (if s.i < l.length then _ else _) = _
  rw [if_pos hi, h]⟩
theorem drop_app {l a b : List Nat} {j : Nat} (e : l.drop j = a ++ b) : l.drop (j + a.length) = b := by
  rw [← List.drop_drop, e]; simp
theorem tw_app {p : Nat → Bool} {b : List Nat} (hb : ∀ c, b.head? = some c → p c = false) : ∀ {a : List Nat}, (∀ c ∈ a, p c = true) → (a ++ b).takeWhile p = a
  | [], _ => by
    cases b with
    | nil => rfl
    | cons c r =>
      show (c :: r).takeWhile p = []
      rw [List.takeWhile_cons, hb c rfl]; rfl
  | x :: a, ha => by
    show (x :: (a ++ b)).takeWhile p = _
    rw [List.takeWhile_cons, ha x (List.mem_cons_self ..)]
    show x :: (a ++ b).takeWhile p = _
    rw [tw_app hb fun c hc => ha c (List.mem_cons_of_mem _ hc)]
theorem runEnd_app {p : Nat → Bool} {l a b : List Nat} {j : Nat} (e : l.drop j = a ++ b) (ha : ∀ c ∈ a, p c = true) (hb : ∀ c, b.head? = some c → p c = false) : runEnd p l j = j + a.length := by
  unfold runEnd
  rw [e, tw_app hb ha]
theorem cutN_app {l a b : List Nat} {j : Nat} (e : l.drop j = a ++ b) : cutN l j (j + a.length) = a := by
  unfold cutN
  rw [e]; simp
/-- what may stand behind an item -/
def Post (post : List Nat) : Prop := post = [] ∨ post.head? = some 44 ∨ post.head? = some 41
theorem Post.no {post : List Nat} (h : Post post) {p : Nat → Bool} (h1 : p 44 = false) (h2 : p 41 = false) : ∀ c, post.head? = some c → p c = false := by
  intro c hc
  rcases h with rfl | h | h
  · cases hc
  · rw [h] at hc; cases hc; exact h1
  · rw [h] at hc; cases hc; exact h2
theorem at_drop {l : List Nat} {j c : Nat} {r : List Nat} (e : l.drop j = c :: r) : l[j]? = some c ∧ l.drop (j + 1) = r := drop_at e
theorem item_non {l post : List Nat} {j : Nat} {f : Bool} (e : l.drop j = noneL ++ post) (hp : Post post) : itemP l j f = some (.non, j + noneL.length) := by
  unfold itemP
  have e0 := (at_drop (show l.drop j = 110 :: ([111, 110, 101] ++ post) from e)).1
  rw [e0]
  dsimp only
  have er : runEnd isLt l j = j + noneL.length := runEnd_app e (by decide) (hp.no (by decide) (by decide))
  rw [er, cutN_app e, if_neg (by decide), if_neg (by decide), if_pos (by decide), if_pos rfl]
theorem item_word {l post x : List Nat} {j : Nat} (e : l.drop j = x ++ post) (hp : Post post) (hx : x ≠ []) (hn : x ≠ noneL) (hl : ∀ c ∈ x, isLt c = true) : itemP l j true = some (.str x, j + x.length) := by
  unfold itemP
  have er : runEnd isLt l j = j + x.length := runEnd_app e hl (hp.no (by decide) (by decide))
  have ec := cutN_app e
  cases x with
  | nil => exact absurd rfl hx
  | cons c r =>
    have e0 := (at_drop (show l.drop j = c :: (r ++ post) from e)).1
    have hc := hl c (List.mem_cons_self ..)
    have hc2 : 97 ≤ c ∧ c ≤ 122 := of_decide_eq_true hc
    rw [e0]
    dsimp only
    rw [er, ec, if_neg (by
      rintro (z | z)
      · have : 48 ≤ c ∧ c ≤ 57 := of_decide_eq_true z
        omega
      · omega), if_neg (by omega), if_pos hc, if_neg hn, if_pos rfl]
theorem item_text {l post x : List Nat} {j : Nat} {f : Bool} (e : l.drop j = ([39] ++ x ++ [39]) ++ post) (hx : ∀ c ∈ x, c ∈ SGL) : itemP l j f = some (.str x, j + ([39] ++ x ++ [39]).length) := by
  unfold itemP
  have e1 := at_drop (show l.drop j = 39 :: (x ++ (39 :: post)) by rw [e]; simp)
  rw [e1.1]
  dsimp only
  rw [if_neg (by decide), if_pos rfl]
  unfold textP
  have er : runEnd isTx l (j + 1) = j + 1 + x.length := runEnd_app e1.2 (fun c hc => by
    have := hx c hc
    have h2 : ∀ c ∈ SGL, isTx c = true := by decide
    exact h2 c this) (fun c hc => by cases hc; rfl)
  rw [er, cutN_app e1.2]
  have e3 := (at_drop (drop_app e1.2)).1
  rw [if_pos ⟨e3, List.all_eq_true.mpr fun c hc => decide_eq_true (hx c hc)⟩]
  simp
  omega
theorem numL_head {n : Nat} : (TL.numL n).head? = some 48 → n = 0 := by
  induction n using Nat.strongRecOn with
  | _ n ih =>
    intro h
    by_cases z : n < 10
    · rw [TL.numL_lt z] at h
      have : 48 + n = 48 := by simpa using h
      omega
    · rw [TL.numL_step (by omega)] at h
      have h2 : (TL.numL (n / 10)).head? = some 48 := by
        have := TL.numL_ne (n / 10)
        cases q : TL.numL (n / 10) with
        | nil => exact absurd q this
        | cons a r => rw [q] at h; simpa using h
      have := ih (n / 10) (by omega) h2
      omega
theorem numT_num {l post : List Nat} {i s m : Nat} (e : l.drop s = TL.numL m ++ post) (hp : Post post) (hm : m < 10 ^ 18) (hs : i < s → m ≠ 0) : numT l i s = some (.int (if i < s then -(m : Int) else m), s + (TL.numL m).length) := by
  have hd := TL.numL_digits m
  have er : runEnd isDg l s = s + (TL.numL m).length := runEnd_app e (fun c hc => decide_eq_true (hd c hc)) (hp.no (by decide) (by decide))
  unfold numT
  rw [er, cutN_app e, TL.numL_val]
  have hlen := TL.numL_len (by decide : 0 < 18) hm
  rw [if_neg (TL.numL_ne m), if_neg (by omega), if_neg (by
    rintro ⟨h1, h2⟩
    have := numL_head h1
    subst this
    rw [TL.numL_lt (by decide)] at h2
    exact absurd h2 (by decide))]
  by_cases z : i < s
  · rw [if_pos z, if_pos z, if_neg (by
      intro q
      have := numL_head (n := m) (by rw [q]; rfl)
      exact hs z this)]
  · rw [if_neg z, if_neg z]
theorem strI_neg {m : Nat} (h : 0 < m) : strI (-(m : Int)) = 45 :: TL.numL m := by
  obtain ⟨n, rfl⟩ : ∃ n, m = n + 1 := ⟨m - 1, by omega⟩
  unfold strI TL.numL
  have : toString (-((n + 1 : Nat) : Int)) = "-" ++ Nat.repr (n + 1) := rfl
  rw [this, String.toList_append]
  simp [Nat.repr, Nat.toDigits]
theorem item_int {l post : List Nat} {j : Nat} {f : Bool} {n : Int} (e : l.drop j = strI n ++ post) (hp : Post post) (hn : n.natAbs < 10 ^ 18) : itemP l j f = some (.int n, j + (strI n).length) := by
  unfold itemP
  rcases Int.lt_or_le n 0 with z | z
  · obtain ⟨m, rfl⟩ : ∃ m : Nat, n = -(m : Int) := ⟨n.natAbs, by omega⟩
    have hm : 0 < m := by omega
    rw [strI_neg hm] at e ⊢
    have e1 := at_drop (show l.drop j = 45 :: (TL.numL m ++ post) from e)
    rw [e1.1]
    dsimp only
    rw [if_pos (.inr rfl)]
    unfold numP
    rw [if_pos e1.1, numT_num e1.2 hp (by omega) (fun _ => by omega), if_pos (Nat.lt_succ_self _)]
    simp
    omega
  · obtain ⟨m, rfl⟩ : ∃ m : Nat, n = (m : Int) := ⟨n.natAbs, by omega⟩
    rw [strI_nat] at e ⊢
    have hd := TL.numL_digits m
    have hne := TL.numL_ne m
    obtain ⟨c, r, hcr⟩ : ∃ c r, TL.numL m = c :: r := by
      cases q : TL.numL m with
      | nil => exact absurd q hne
      | cons c r => exact ⟨c, r, rfl⟩
    have hc := hd c (by rw [hcr]; exact List.mem_cons_self ..)
    have e1 := at_drop (show l.drop j = c :: (r ++ post) by rw [e, hcr]; rfl)
    rw [e1.1]
    dsimp only
    rw [if_pos (.inl (decide_eq_true hc))]
    unfold numP
    rw [if_neg (by rw [e1.1]; intro q; injection q; omega), numT_num e hp (by omega) (fun h => absurd h (Nat.lt_irrefl _)), if_neg (Nat.lt_irrefl _)]
/-- an item is read -/
def Rd (m : Md) (s : List Nat) (t : PT) : Prop := ∀ (l : List Nat) (w : List (List PT)) (v : PT) (j : Nat) (post : List Nat), w ≠ [] → l.drop j = s ++ post → Post post → Run l ⟨w, m, v, j⟩ (putV w t (j + s.length))
theorem rd_item {m : Md} {s : List Nat} {t : PT} (hm : m = .item ∨ m = .first) (h : ∀ (l : List Nat) (j : Nat) (post : List Nat), l.drop j = s ++ post → Post post → itemP l j (decide (m = .first)) = some (t, j + s.length)) (hc : ∃ c r, s = c :: r ∧ c ≠ 40 ∧ c ≠ 41) : Rd m s t := by
  intro l w v j post hw e hp
  obtain ⟨c, r, rfl, h1, h2⟩ := hc
  have e0 := (at_drop (show l.drop j = c :: (r ++ post) from e)).1
  refine Run.one (get_len e0) ?_
  have it := h l j post e hp
  have : (if l[j]? = some 40 then some (⟨[] :: w, .first, v, j + 1⟩ : RS)
      else if m = .first ∧ l[j]? = some 41 then closeV w (j + 1)
      else if w = [] then none
      else match itemP l j (decide (m = .first)) with
        | none => none
        | some (t, e) => some (putV w t e)) = some (putV w t (j + (c :: r).length)) := by
    rw [e0, if_neg (by intro q; injection q; omega), if_neg (by rintro ⟨_, q⟩; injection q; omega), if_neg hw, it]
  rcases hm with rfl | rfl
  · exact this
  · exact this
end K90
set_option Elab.async false
set_option linter.all false
set_option maxRecDepth 100000
set_option maxHeartbeats 4000000
namespace K90
open PySem PySem.Spec PyProof.Rows Fw L2
local macro_rules | `(tactic| walk_at "wp") => `(tactic| try simp only [wpSs, wpSt, wpE, wpEs, wpT, wpTs, wpG, wpI, wpO, List.getElem?_cons_zero, List.getElem?_cons_succ, Option.some.injEq, exists_eq_left', exists_eq_left, Nat.reduceAdd, List.set_cons_zero, List.set_cons_succ, setAll, wipeP, prmV, mtyP, partP, ite_true, ite_false, if_true, if_false, Bool.false_eq_true, true_and, exists_const, List.length_cons, List.length_nil, p_add, p_sub, p_and, q_add, q_sub, c_lt, c_le, c_gt, c_ge, c_eq, c_ne, c_eqs, c_nes, c_is, c_isnt, c_isb, c_isntb, t_bl, t_int, i_int, i_bl, m_two, m_three, m_four, m_min, Item.v, Item.h, PV.int.injEq, PV.bl.injEq, PV.str.injEq, PV.loc.injEq, is_int, is_bl, is_non, is_str, ki_ii, ki_ib, ki_is, ki_it, ki_bi, ki_bb, ki_bs, ki_bt, ki_si, ki_sb, ki_ss, ki_st, ki_ni, ki_nb, ki_ns, ki_nt, Option.map_some, Bool.not_true, Bool.not_false, c_eqb, c_neb])
theorem step_open {l : List Nat} {w : List (List PT)} {m : Md} {v : PT} {j : Nat} {r : List Nat} (hm : m = .item ∨ m = .first) (e : l.drop j = 40 :: r) : Run l ⟨w, m, v, j⟩ ⟨[] :: w, .first, v, j + 1⟩ := by
  have e0 := (at_drop e).1
  refine Run.one (get_len e0) ?_
  rcases hm with rfl | rfl
  · show (if l[j]? = some 40 then _ else _) = _
    rw [if_pos e0]
  · show (if l[j]? = some 40 then _ else _) = _
    rw [if_pos e0]
theorem step_close {l : List Nat} {w : List (List PT)} {x : List PT} {v : PT} {j : Nat} {r : List Nat} (e : l.drop j = 41 :: r) : Run l ⟨x :: w, .behind, v, j⟩ (putV w (.tup x) (j + 1)) := by
  have e0 := (at_drop e).1
  refine Run.one (get_len e0) ?_
  show (if l[j]? = some 41 then _ else _) = _
  rw [if_pos e0]; rfl
theorem step_empty {l : List Nat} {w : List (List PT)} {x : List PT} {v : PT} {j : Nat} {r : List Nat} (e : l.drop j = 41 :: r) : Run l ⟨x :: w, .first, v, j⟩ (putV w (.tup x) (j + 1)) := by
  have e0 := (at_drop e).1
  refine Run.one (get_len e0) ?_
  show (if l[j]? = some 40 then _ else if Md.first = Md.first ∧ l[j]? = some 41 then _ else _) = _
  rw [if_neg (by rw [e0]; decide), if_pos ⟨rfl, e0⟩]; rfl
theorem step_comma {l : List Nat} {w : List (List PT)} {v : PT} {j : Nat} {r : List Nat} (e : l.drop j = 44 :: 32 :: r) : Run l ⟨w, .behind, v, j⟩ ⟨w, .item, v, j + 2⟩ := by
  have e0 := at_drop e
  have e1 := (at_drop e0.2).1
  refine Run.one (get_len e0.1) ?_
  show (if l[j]? = some 41 then _ else if l[j]? = some 44 then (if j + 1 < l.length ∧ l[j + 1]? ≠ some 32 then _ else _) else _) = _
  have := get_len e1
  rw [if_neg (by rw [e0.1]; decide), if_pos e0.1, if_neg (fun q => q.2 e1), show min (j + 2) l.length = j + 2 by omega]
theorem items_run {l : List Nat} {w : List (List PT)} : ∀ (ss : List (List Nat)) (ts : List PT) (s : List Nat) (t : PT) (m : Md) (x : List PT) (v : PT) (j : Nat) (post : List Nat), Paired (Rd .item) ss ts → Rd m s t → l.drop j = joinL [44, 32] (s :: ss) ++ 41 :: post →
    Run l ⟨x :: w, m, v, j⟩ (putV w (.tup (x ++ t :: ts)) (j + (joinL [44, 32] (s :: ss)).length + 1))
  | [], _, s, t, m, x, v, j, post, .nil, h, e => by
    have e' : l.drop j = s ++ 41 :: post := e
    refine (h l (x :: w) v j _ (by simp) e' (.inr (.inr rfl))).trans ?_
    exact step_close (drop_app e')
  | s' :: ss, _, s, t, m, x, v, j, post, .cons (b := t') (l₂ := ts) h' hp, h, e => by
    have e' : l.drop j = s ++ (44 :: 32 :: (joinL [44, 32] (s' :: ss) ++ 41 :: post)) := by
      rw [e]
      show (s ++ [44, 32] ++ joinL [44, 32] (s' :: ss)) ++ _ = _
      simp
    refine (h l (x :: w) v j _ (by simp) e' (.inr (.inl rfl))).trans ?_
    have e2 := drop_app e'
    refine (step_comma e2).trans ?_
    have e3 : l.drop (j + s.length + 2) = joinL [44, 32] (s' :: ss) ++ 41 :: post := (at_drop (at_drop e2).2).2
    have := items_run (w := w) ss ts s' t' .item (x ++ [t]) t (j + s.length + 2) post hp h' e3
    rw [show x ++ [t] ++ t' :: ts = x ++ t :: t' :: ts by simp] at this
    rw [show j + (joinL [44, 32] (s :: s' :: ss)).length + 1 = j + s.length + 2 + (joinL [44, 32] (s' :: ss)).length + 1 by
      show j + (s ++ [44, 32] ++ joinL [44, 32] (s' :: ss)).length + 1 = _
      simp
      omega]
    exact this
/-- what can be written and read back -/
def Gd : Nat → Bool → PT → Prop
  | _, _, .non => True
  | _, _, .int i => i.natAbs < 10 ^ 18
  | _, _, .str l => ∀ c ∈ l, c ∈ SGL
  | 0, _, .tup _ => False
  | d + 1, w, .tup xs => (w = true → ∃ l r, xs = .str l :: r ∧ l ≠ [] ∧ l ≠ noneL ∧ ∀ c ∈ l, isLt c = true) ∧ ∀ (i : Nat) (t : PT), xs[i]? = some t → ¬ (w = true ∧ i = 0) → Gd d (w && holds (hd xs) i) t
theorem Gd.wd : ∀ {d : Nat} {w : Bool} {t : PT}, Gd d w t → Wd d w t
  | 0, _, .non, _ => trivial
  | 0, _, .int _, h => h
  | 0, _, .str _, _ => trivial
  | 0, _, .tup _, h => h.elim
  | d + 1, _, .non, _ => trivial
  | d + 1, _, .int _, h => h
  | d + 1, _, .str _, _ => trivial
  | d + 1, _, .tup xs, ⟨h1, h2⟩ => ⟨fun hw => by
      obtain ⟨l, r, e, _⟩ := h1 hw
      exact ⟨l, r, e⟩, fun i t ht hn => (h2 i t ht hn).wd⟩
theorem putV_tup {w : List (List PT)} {l : List Nat} {m : Md} {v : PT} {j : Nat} {a b : RS} (e : a = b) (h : Run l ⟨w, m, v, j⟩ a) : Run l ⟨w, m, v, j⟩ b := e ▸ h
theorem paired_of {α β : Type} {F : α → β → Prop} : ∀ {xs : List α} {ys : List β}, xs.length = ys.length → (∀ (i : Nat) (x : α) (y : β), xs[i]? = some x → ys[i]? = some y → F x y) → Paired F xs ys
  | [], [], _, _ => .nil
  | x :: xs, y :: ys, hl, h => .cons (h 0 x y rfl rfl) (paired_of (by simpa using hl) fun i a b e1 e2 => h (i + 1) a b (by simpa using e1) (by simpa using e2))
  | [], _ :: _, h, _ => by simp at h
  | _ :: _, [], h, _ => by simp at h
theorem tup_run {d : Nat} {b : Bool} {xs : List PT} (ih : ∀ (b : Bool) (t : PT) (m : Md), m = .item ∨ m = .first → Gd d b t → Rd m (lineP d b t) t) (g : Gd (d + 1) b (.tup xs)) (l : List Nat) (w : List (List PT)) (m : Md) (hm : m = .item ∨ m = .first) (v : PT) (j : Nat) (post : List Nat) (e : l.drop j = lineP (d + 1) b (.tup xs) ++ post) : Run l ⟨w, m, v, j⟩ (putV w (.tup xs) (j + (lineP (d + 1) b (.tup xs)).length)) := by
  obtain ⟨g1, g2⟩ := g
  have el : lineP (d + 1) b (.tup xs) = [40] ++ joinL [44, 32] (itm d b xs) ++ [41] := rfl
  rw [el] at e ⊢
  have e1 : l.drop j = 40 :: (joinL [44, 32] (itm d b xs) ++ 41 :: post) := by rw [e]; simp
  have e2 := (at_drop e1).2
  refine (step_open hm e1).trans ?_
  have il : (itm d b xs).length = xs.length := by simp [itm]
  have i_at : ∀ (i : Nat) (t : PT), xs[i]? = some t → (itm d b xs)[i]? = some (if b = true ∧ i = 0 then hd xs else lineP d (b && holds (hd xs) i) t) := by
    intro i t ht
    rw [List.getElem?_mapIdx, ht]; rfl
  cases xs with
  | nil =>
    have e3 : l.drop (j + 1) = 41 :: post := e2
    exact step_empty e3
  | cons t ts =>
    obtain ⟨s, ss, hss⟩ : ∃ s ss, itm d b (t :: ts) = s :: ss := by
      cases q : itm d b (t :: ts) with
      | nil => rw [q] at il; simp at il
      | cons s ss => exact ⟨s, ss, rfl⟩
    rw [hss] at e2 il i_at ⊢
    have hlen : ss.length = ts.length := by simpa using il
    have tail : Paired (Rd .item) ss ts := by
      refine paired_of hlen ?_
      intro i x y h1 h2
      have q := i_at (i + 1) y (by simpa using h2)
      rw [if_neg (fun z => by have := z.2; omega)] at q
      have q : ss[i]? = some (lineP d (b && holds (hd (t :: ts)) (i + 1)) y) := by simpa using q
      rw [h1] at q
      cases q
      exact ih _ y .item (.inl rfl) (g2 (i + 1) y (by simpa using h2) (fun z => by have := z.2; omega))
    have head : Rd .first s t := by
      have q := i_at 0 t rfl
      have q : s = if b = true ∧ 0 = 0 then hd (t :: ts) else lineP d (b && holds (hd (t :: ts)) 0) t := by
        have q2 : (s :: ss)[0]? = some s := rfl
        rw [q2] at q
        injection q
      by_cases hb : b = true
      · rw [if_pos ⟨hb, rfl⟩] at q
        obtain ⟨x, r, hx, n1, n2, n3⟩ := g1 hb
        cases hx
        have q : s = x := q
        subst q
        refine rd_item (.inr rfl) (fun l j post e hp => item_word e hp n1 n2 n3) ?_
        cases s with
        | nil => exact absurd rfl n1
        | cons c r =>
          have : 97 ≤ c ∧ c ≤ 122 := of_decide_eq_true (n3 c (List.mem_cons_self ..))
          exact ⟨c, r, rfl, by omega, by omega⟩
      · rw [if_neg (fun z => hb z.1)] at q
        rw [q]
        exact ih _ t .first (.inr rfl) (g2 0 t rfl (fun z => hb z.1))
    have := items_run (w := w) ss ts s t .first [] v (j + 1) post tail head e2
    refine putV_tup ?_ this
    congr 1
    simp
    omega
theorem strI_first (i : Int) : ∃ c r, strI i = c :: r ∧ c ≠ 40 ∧ c ≠ 41 := by
  rcases Int.lt_or_le i 0 with z | z
  · obtain ⟨m, rfl⟩ : ∃ m : Nat, i = -(m : Int) := ⟨i.natAbs, by omega⟩
    exact ⟨45, _, strI_neg (by omega), by decide, by decide⟩
  · obtain ⟨m, rfl⟩ : ∃ m : Nat, i = (m : Int) := ⟨i.natAbs, by omega⟩
    rw [strI_nat]
    cases q : TL.numL m with
    | nil => exact absurd q (TL.numL_ne m)
    | cons c r =>
      have := TL.numL_digits m c (by rw [q]; exact List.mem_cons_self ..)
      exact ⟨c, r, rfl, by omega, by omega⟩
theorem read_item : ∀ (d : Nat) (b : Bool) (t : PT) (m : Md), m = .item ∨ m = .first → Gd d b t → Rd m (lineP d b t) t := by
  intro d
  induction d with
  | zero =>
    intro b t m hm g
    cases t with
    | non => exact rd_item hm (fun l j post e hp => item_non e hp) ⟨110, _, rfl, by decide, by decide⟩
    | int i =>
      refine rd_item hm (fun l j post e hp => item_int e hp g) ?_
      exact strI_first i
    | str x => exact rd_item hm (fun l j post e hp => item_text e g) ⟨39, _, rfl, by decide, by decide⟩
    | tup xs => exact g.elim
  | succ d ih =>
    intro b t m hm g
    cases t with
    | non => exact rd_item hm (fun l j post e hp => item_non e hp) ⟨110, _, rfl, by decide, by decide⟩
    | int i =>
      refine rd_item hm (fun l j post e hp => item_int e hp g) ?_
      exact strI_first i
    | str x => exact rd_item hm (fun l j post e hp => item_text e g) ⟨39, _, rfl, by decide, by decide⟩
    | tup xs =>
      intro l w v j post hw e hp
      exact tup_run ih g l w m hm v j post e
/-- what was written is read back -/
theorem read_back {d : Nat} {xs : List PT} {b : Bool} (g : Gd (d + 1) b (.tup xs)) : ∃ f, runR (lineP (d + 1) b (.tup xs)) f ⟨[], .item, .non, 0⟩ = .paper (.tup xs) := by
  obtain ⟨k, h⟩ := tup_run (read_item d) g (lineP (d + 1) b (.tup xs)) [] .item (.inl rfl) .non 0 [] (by simp)
  refine ⟨1 + k, ?_⟩
  rw [h 1]
  show (if 0 + (lineP (d + 1) b (.tup xs)).length < (lineP (d + 1) b (.tup xs)).length then _ else _) = _
  rw [if_neg (by omega)]
  rfl
end K90
set_option Elab.async false
set_option linter.all false
set_option maxRecDepth 100000
set_option maxHeartbeats 4000000
namespace K90
open PySem PySem.Spec PyProof.Rows Fw L2
local macro_rules | `(tactic| walk_at "wp") => `(tactic| try simp only [wpSs, wpSt, wpE, wpEs, wpT, wpTs, wpG, wpI, wpO, List.getElem?_cons_zero, List.getElem?_cons_succ, Option.some.injEq, exists_eq_left', exists_eq_left, Nat.reduceAdd, List.set_cons_zero, List.set_cons_succ, setAll, wipeP, prmV, mtyP, partP, ite_true, ite_false, if_true, if_false, Bool.false_eq_true, true_and, exists_const, List.length_cons, List.length_nil, p_add, p_sub, p_and, q_add, q_sub, c_lt, c_le, c_gt, c_ge, c_eq, c_ne, c_eqs, c_nes, c_is, c_isnt, c_isb, c_isntb, t_bl, t_int, i_int, i_bl, m_two, m_three, m_four, m_min, Item.v, Item.h, PV.int.injEq, PV.bl.injEq, PV.str.injEq, PV.loc.injEq, is_int, is_bl, is_non, is_str, ki_ii, ki_ib, ki_is, ki_it, ki_bi, ki_bb, ki_bs, ki_bt, ki_si, ki_sb, ki_ss, ki_st, ki_ni, ki_nb, ki_ns, ki_nt, Option.map_some, Bool.not_true, Bool.not_false, c_eqb, c_neb])
mutual
def PT.sz : PT → Nat
  | .tup xs => 1 + szs xs
  | .non => 1
  | .int _ => 1
  | .str _ => 1
def szs : List PT → Nat
  | [] => 0
  | x :: r => x.sz + szs r
end
theorem szs_app : ∀ (a b : List PT), szs (a ++ b) = szs a + szs b
  | [], b => by simp [szs]
  | x :: a, b => by
    show x.sz + szs (a ++ b) = x.sz + szs a + szs b
    rw [szs_app a b]; omega
theorem szs_rev : ∀ (a : List PT), szs a.reverse = szs a
  | [] => rfl
  | x :: a => by
    rw [List.reverse_cons, szs_app, szs_rev a]
    show szs a + (x.sz + 0) = x.sz + szs a
    omega
theorem sz_pos (t : PT) : 1 ≤ t.sz := by
  cases t <;> simp [PT.sz]
theorem lts : ∀ (ts : List PT), ts.length ≤ szs ts
  | [] => Nat.le_refl _
  | t :: ts => by
    have := sz_pos t
    have := lts ts
    show ts.length + 1 ≤ t.sz + szs ts
    omega
def PR (h : PH) (n : Nat) (p : PV) (t : PT) : Prop := ∃ m u v, p = .loc m ∧ m ≠ n ∧ h[m]? = some (.lst [u, v]) ∧ AtX h u t ∧ AtX h v t
theorem PR.kp {h h' : PH} {n : Nat} {p : PV} {t : PT} (kp : Kp0 h h') : PR h n p t → PR h' n p t := fun ⟨m, u, v, a, b, c, d, e⟩ => ⟨m, u, v, a, b, kp.get0 c, d.kp kp, e.kp kp⟩
theorem PR.set {h : PH} {n : Nat} {zs zs' : List PV} {p : PV} {t : PT} (q : h[n]? = some (.lst zs)) : PR h n p t → PR (h.set n (.lst zs')) n p t := fun ⟨m, u, v, a, b, c, d, e⟩ => ⟨m, u, v, a, b, by rw [List.getElem?_set_ne b.symm]; exact c, d.set q, e.set q⟩
theorem pop_rev {h : PH} {n : Nat} {p : PV} {r : List PV} (e : h[n]? = some (.lst (p :: r).reverse)) : popV [.loc n] h = some (p, h.set n (.lst r.reverse)) := by
  unfold popV
  dsimp only
  rw [e]
  simp
theorem app_rev {h : PH} {n : Nat} {p : PV} {r : List PV} (e : h[n]? = some (.lst r.reverse)) (hl : r.length ≤ 10000000) : appendV [.loc n, p] h = some (.non, h.set n (.lst (p :: r).reverse)) := by
  rw [append_lst e (by rw [line_eq, List.length_reverse]; omega), List.reverse_cons]
theorem lst2_0 {h : PH} {m : Nat} {u v : PV} (e : h[m]? = some (.lst [u, v])) : idxP G0 h (.loc m) (.int 0) = some u := by rw [idx_seq (seqOf_lst e), show (0 : Int) = ((0 : Nat) : Int) from rfl, atI_nat']; rfl
theorem lst2_1 {h : PH} {m : Nat} {u v : PV} (e : h[m]? = some (.lst [u, v])) : idxP G0 h (.loc m) (.int 1) = some v := by rw [idx_seq (seqOf_lst e), show (1 : Int) = ((1 : Nat) : Int) from rfl, atI_nat']; rfl
theorem At.kpn {h h' : PH} {n : Nat} {zs : List PV} (kp : Kp [n] h h') (e : h[n]? = some (.lst zs)) : ∀ {d : Nat} {v : PV} {t : PT}, At h d v t → At h' d v t
  | 0, _, .non, e => e
  | 0, _, .int _, e => e
  | 0, _, .str _, e => e
  | 0, _, .tup _, e => e
  | d + 1, _, .non, e => e
  | d + 1, _, .int _, e => e
  | d + 1, _, .str _, e => e
  | d + 1, _, .tup _, ⟨m, vs, e1, e2, e3, e4⟩ => ⟨m, vs, e1, kp.get e2 (fun z => by
      rw [List.mem_singleton.mp z, e] at e2; cases e2), e3, fun i u t hu ht => (e4 i u t hu ht).kpn kp e⟩
def b30 : List IS := match List.drop 1 b__law_is with
  | .for_ _ _ b :: _ => b
  | _ => []
/-- one pair -/
theorem pair_ok {k : Nat} {g : PH} {n m : Nat} {u v : PV} {a0 a1 y3 y5 : Option PV} {t : PT} {ws : List PV} {ts : List PT} {D : PEnds} {E : PX → PH → Prop} (en : g[n]? = some (.lst ws.reverse)) (hp : Paired (PR g n) ws ts) (hw : ws.length + t.sz ≤ 10000000) (hm : m ≠ n) (em : g[m]? = some (.lst [u, v])) (hu : AtX g u t) (hv : AtX g v t)
    (hq : ∀ (ws' : List PV) (ts' : List PT) (g' : PH) (y5 : Option PV), (∀ h0, Kp0 h0 g → h0.length ≤ n → Kp0 h0 g') → g'[n]? = some (.lst ws'.reverse) → Paired (PR g' n) ws' ts' → szs ts' + 1 ≤ szs ts + t.sz → D.nx [a0, a1, some (.loc n), y3, some (.loc m), y5] g') :
    wpSs G0 (S k) (Sp k) (fun x _ => E x) (List.drop 2 b30) D [a0, a1, some (.loc n), y3, some (.loc m), y5] g := by
  have stay : 1 ≤ t.sz → D.nx [a0, a1, some (.loc n), y3, some (.loc m), y5] g := fun h1 => hq ws ts g y5 (fun _ kp _ => kp) en hp (by omega)
  rw [show List.drop 2 b30 = [_] from rfl]
  have i0 := lst2_0 em
  have i1 := lst2_1 em
  cases t with
  | non =>
    obtain ⟨d, hu⟩ := hu
    obtain ⟨d', hv⟩ := hv
    have hu : u = .non := by cases d <;> exact hu
    have hv : v = .non := by cases d' <;> exact hv
    subst hu hv
    have := stay (Nat.le_refl _)
    walk_at "wp"
    repeat ((first | rw [i1] | rw [i0] | rw [if_pos (by rfl)] | rw [if_neg (by simp)]); walk_at "wp")
    exact this
  | int i =>
    obtain ⟨d, hu⟩ := hu
    obtain ⟨d', hv⟩ := hv
    have hu : u = .int i := by cases d <;> exact hu
    have hv : v = .int i := by cases d' <;> exact hv
    subst hu hv
    have := stay (Nat.le_refl _)
    walk_at "wp"
    repeat ((first | rw [i1] | rw [i0] | rw [if_pos (by rfl)] | rw [if_neg (by simp)]); walk_at "wp")
    exact this
  | str l =>
    obtain ⟨d, hu⟩ := hu
    obtain ⟨d', hv⟩ := hv
    have hu : u = .str l := by cases d <;> exact hu
    have hv : v = .str l := by cases d' <;> exact hv
    subst hu hv
    have := stay (Nat.le_refl _)
    walk_at "wp"
    repeat ((first | rw [i1] | rw [i0] | rw [if_pos (by rfl)] | rw [if_neg (by simp)]); walk_at "wp")
    exact this
  | tup xs =>
    obtain ⟨d, hu⟩ := hu
    obtain ⟨d', hv⟩ := hv
    cases d with
    | zero => exact hu.elim
    | succ d =>
    cases d' with
    | zero => exact hv.elim
    | succ d' =>
    obtain ⟨a, us, rfl, ea, ⟨la, lb⟩, ha⟩ := hu
    obtain ⟨b, vs, rfl, eb, ⟨lc, ld⟩, hb⟩ := hv
    have hsz : (PT.tup xs).sz = 1 + szs xs := by simp [PT.sz]
    walk_at "wp"
    rw [i1]
    walk_at "wp"
    rw [is_tup (tupOf_tup eb), ki_tt]
    walk_at "wp"
    rw [i0]
    walk_at "wp"
    rw [is_tup (tupOf_tup ea), ki_tt]
    walk_at "wp"
    rw [i0]
    walk_at "wp"
    rw [len_seq (seqOf_tup ea)]
    walk_at "wp"
    rw [i1]
    walk_at "wp"
    rw [len_seq (seqOf_tup eb)]
    walk_at "wp"
    rw [if_neg (by rw [la, lc]; simp)]
    rw [i1]
    walk_at "wp"
    rw [len_seq (seqOf_tup eb)]
    walk_at "wp"
    refine ⟨_, rng_1 (by omega), ?_⟩
    refine for_inv (fun j σ g' => ∃ y5', σ = [a0, a1, some (.loc n), y3, some (.loc m), y5'] ∧ (∀ h0, Kp0 h0 g → h0.length ≤ n → Kp0 h0 g') ∧ Kp [n] g g' ∧ ∃ ws', g'[n]? = some (.lst ws'.reverse) ∧ Paired (PR g' n) ws' ((xs.take j).reverse ++ ts) ∧ ws'.length = ws.length + j) ⟨y5, rfl, fun _ kp _ => kp, Kp.refl, ws, en, hp, rfl⟩ ?_ ?_
    · rintro j x σ g' K hx ⟨y5', rfl, k1, k2, ws', en', hp', hl'⟩ hK
      obtain ⟨hj, rfl⟩ := rng_item hx
      have hj : j < vs.length := hj
      refine ⟨trivial, ?_⟩
      walk_at "wp"
      have na : a ∉ [n] := fun z => by rw [List.mem_singleton.mp z, en] at ea; cases ea
      have nb : b ∉ [n] := fun z => by rw [List.mem_singleton.mp z, en] at eb; cases eb
      have em' := k2.get em (by simp; exact hm)
      have ea' := k2.get ea na
      have eb' := k2.get eb nb
      refine ⟨by rw [lstOf_lst en']; rfl, ?_⟩
      rw [lst2_0 em']
      walk_at "wp"
      have hu : us[j]? = some (us[j]'(by omega)) := List.getElem?_eq_getElem _
      generalize us[j]'(by omega) = u at hu
      have hv : vs[j]? = some (vs[j]'(by omega)) := List.getElem?_eq_getElem _
      generalize vs[j]'(by omega) = v at hv
      have hx : xs[j]? = some (xs[j]'(by omega)) := List.getElem?_eq_getElem _
      generalize xs[j]'(by omega) = t at hx
      rw [idx_seq (seqOf_tup ea'), atI_nat', hu]
      walk_at "wp"
      rw [lst2_1 em']
      walk_at "wp"
      rw [idx_seq (seqOf_tup eb'), atI_nat', hv]
      walk_at "wp"
      refine ⟨by rw [line_eq]; decide, ?_⟩
      have ks : Kp0 g' (g' ++ [.lst [u, v]]) := Kp.snoc
      have en2 := ks.get0 en'
      have hsl : j + 1 ≤ 10000000 := by omega
      have hlx := lts xs
      refine ⟨_, app_rev en2 (by omega), ?_⟩
      have hn' := get_len en'
      have kp2 : Kp [n] g ((g' ++ [PO.lst [u, v]]).set n (.lst (PV.loc g'.length :: ws').reverse)) := (k2.trans ks.to).trans (Kp.set (List.mem_singleton.mpr rfl))
      refine hK _ _ ⟨_, rfl, fun h0 q1 q2 => ((k1 h0 q1 q2).trans ks).put q2, kp2, _, get_put en2, ?_, by simp; omega⟩
      rw [List.take_add_one, hx, show (xs.take j ++ (some t).toList).reverse ++ ts = t :: ((xs.take j).reverse ++ ts) by simp]
      refine .cons ⟨_, u, v, rfl, by omega, ?_, ⟨d, (ha j u t hu hx).kpn kp2 en⟩, ⟨d', (hb j v t hv hx).kpn kp2 en⟩⟩ (Paired.imp (fun _ _ z => (z.kp ks).set en2) hp')
      rw [List.getElem?_set_ne (by omega)]; exact get_new
    · rintro σ g' ⟨y5', rfl, k1, k2, ws', en', hp', hl'⟩
      refine ⟨trivial, ?_⟩
      rw [rngL_len] at hp'
      change Paired _ ws' ((xs.take vs.length).reverse ++ ts) at hp'
      rw [List.take_of_length_le (by omega)] at hp'
      refine hq ws' _ g' y5' k1 en' hp' ?_
      rw [szs_app, szs_rev, hsz]
      omega
/-- what _law_is does with two of the same kind and the same contents -/
theorem lawis_ok {k : Nat} {h : PH} {u v : PV} {t : PT} {Q : PV → PH → Prop} {E : PX → PH → Prop} (hu : AtX h u t) (hv : AtX h v t) (hz : t.sz ≤ 999999) (hq : ∀ h', Kp0 h h' → Q (.bl true) h') : S (k + 1) 30 [u, v] h Q E := by
  refine e__law_is ?_
  rw [show b__law_is = _ :: .for_ (.name 3) (.rng1 (.cst (.int 1000000))) b30 :: List.drop 2 b__law_is from rfl]
  walk_at "wp"
  refine ⟨by rw [line_eq]; decide, by rw [line_eq]; decide, ?_⟩
  refine ⟨_, rng_1' (n := 1000000) (by omega) (by omega), ?_⟩
  show wpFor _ _ _ _ (rngL 0 1 1000000) _ _
  generalize hN : (1000000 : Nat) = N
  have k0 : Kp0 h (h ++ [PO.lst [u, v]]) := Kp.snoc
  refine for_inv (fun i σ g => ∃ ws ts y3 y4 y5, σ = [some u, some v, some (.loc (h ++ [PO.lst [u, v]]).length), y3, y4, y5] ∧ Kp0 h g ∧ g[(h ++ [PO.lst [u, v]]).length]? = some (.lst ws.reverse) ∧ Paired (PR g (h ++ [PO.lst [u, v]]).length) ws ts ∧ szs ts + i ≤ 999999) ?_ ?_ ?_
  · refine ⟨[.loc h.length], [t], none, none, none, rfl, k0.trans Kp.snoc, get_new, .cons ⟨h.length, u, v, rfl, by simp, Kp.snoc.get0 get_new, (hu.kp k0).kp Kp.snoc, (hv.kp k0).kp Kp.snoc⟩ .nil, by simp [szs]; omega⟩
  · rintro i x σ g K hx ⟨ws, ts, y3, y4, y5, rfl, kp, en, hp, hs⟩ hK
    obtain ⟨hi, rfl⟩ := rng_item hx
    have hn : h.length ≤ (h ++ [PO.lst [u, v]]).length := by simp
    generalize (h ++ [PO.lst [u, v]]).length = n at en hp hK hn
    refine ⟨trivial, ?_⟩
    rw [show b30 = _ :: _ :: List.drop 2 b30 from rfl]
    walk_at "wp"
    rw [len_seq (seqOf_lst en)]
    walk_at "wp"
    cases hp with
    | nil =>
      rw [if_pos (by simp)]
      exact hq g kp
    | @cons p t' r ts' hpr hp =>
      rw [if_neg (by simp; omega)]
      refine ⟨by rw [lstOf_lst en]; rfl, ?_⟩
      rw [pop_rev en]
      walk_at "wp"
      obtain ⟨m, u', v', rfl, hm, em, au, av⟩ := hpr
      have hsz : t'.sz + szs ts' + i ≤ 999999 := hs
      have l1 := lts ts'
      have l2 := Paired.length hp
      refine pair_ok (t := t') (ts := ts') (get_put en) (Paired.imp (fun _ _ z => z.set en) hp) (by omega) hm (by rw [List.getElem?_set_ne (fun z => hm z.symm)]; exact em) (au.set en) (av.set en) ?_
      intro ws' ts2 g' y5' q1 q2 q3 q4
      exact hK _ _ ⟨ws', ts2, _, _, _, rfl, q1 h (kp.put hn) hn, q2, q3, by omega⟩
  · rintro σ g ⟨ws, ts, y3, y4, y5, rfl, kp, en, hp, hs⟩
    rw [rngL_len] at hs
    omega
end K90
set_option Elab.async false
set_option linter.all false
set_option maxRecDepth 100000
set_option maxHeartbeats 4000000
namespace K90
open PySem PySem.Spec PyProof.Rows Fw L2
local macro_rules | `(tactic| walk_at "wp") => `(tactic| try simp only [wpSs, wpSt, wpE, wpEs, wpT, wpTs, wpG, wpI, wpO, List.getElem?_cons_zero, List.getElem?_cons_succ, Option.some.injEq, exists_eq_left', exists_eq_left, Nat.reduceAdd, List.set_cons_zero, List.set_cons_succ, setAll, wipeP, prmV, mtyP, partP, ite_true, ite_false, if_true, if_false, Bool.false_eq_true, true_and, exists_const, List.length_cons, List.length_nil, p_add, p_sub, p_and, q_add, q_sub, c_lt, c_le, c_gt, c_ge, c_eq, c_ne, c_eqs, c_nes, c_is, c_isnt, c_isb, c_isntb, t_bl, t_int, i_int, i_bl, m_two, m_three, m_four, m_min, Item.v, Item.h, PV.int.injEq, PV.bl.injEq, PV.str.injEq, PV.loc.injEq, is_int, is_bl, is_non, is_str, ki_ii, ki_ib, ki_is, ki_it, ki_bi, ki_bb, ki_bs, ki_bt, ki_si, ki_sb, ki_ss, ki_st, ki_ni, ki_nb, ki_ns, ki_nt, Option.map_some, Bool.not_true, Bool.not_false, c_eqb, c_neb])
/-! expressions that make trees -/
def Ev (d k : Nat) (σ : PSt) (h : PH) (e : IE) (t : PT) : Prop := ∀ (h' : PH) (Q : PV → PH → Prop) (E : PX → PH → Prop), Kp0 h h' → (∀ v h'', Kp0 h' h'' → At h'' d v t → Q v h'') → wpE G0 (S k) (Sp k) E e σ h' Q
def EvL (d k : Nat) (σ : PSt) (h : PH) (e : IE) (ts : List PT) : Prop := ∀ (h' : PH) (Q : PV → PH → Prop) (E : PX → PH → Prop), Kp0 h h' → (∀ n vs h'', Kp0 h' h'' → h''[n]? = some (.lst vs) → Paired (At h'' d) vs ts → Q (.loc n) h'') → wpE G0 (S k) (Sp k) E e σ h' Q
section
variable {d k : Nat} {σ : PSt} {h : PH}
theorem ev_var {i : Nat} {v : PV} {t : PT} (e : σ[i]? = some (some v)) (a : At h d v t) : Ev d k σ h (.var i) t := fun h' Q E kp hq => by
  unfold wpE
  exact ⟨v, e, hq v h' Kp.refl (a.kp kp)⟩
theorem ev_str {l : List Nat} : Ev d k σ h (.cst (.str l)) (.str l) := fun h' Q E kp hq => by
  unfold wpE
  exact hq _ h' Kp.refl (by cases d <;> rfl)
theorem ev_int {i : Int} : Ev d k σ h (.cst (.int i)) (.int i) := fun h' Q E kp hq => by
  unfold wpE
  exact hq _ h' Kp.refl (by cases d <;> rfl)
theorem ev_non : Ev d k σ h (.cst .non) .non := fun h' Q E kp hq => by
  unfold wpE
  exact hq _ h' Kp.refl (by cases d <;> rfl)
theorem ev_neg {i : Nat} {n : Int} (e : σ[i]? = some (some (.int n))) : Ev d k σ h (.neg (.var i)) (.int (-n)) := fun h' Q E kp hq => by
  unfold wpE
  unfold wpE
  exact ⟨_, e, n, rfl, hq _ h' Kp.refl (by cases d <;> rfl)⟩
theorem evs_ok : ∀ {as : List IE} {ts : List PT}, Paired (Ev d k σ h) as ts → ∀ (h' : PH) (Q : List PV → PH → Prop) (E : PX → PH → Prop), Kp0 h h' → (∀ vs h'', Kp0 h' h'' → Paired (At h'' d) vs ts → Q vs h'') → wpEs G0 (S k) (Sp k) E as σ h' Q
  | _, _, .nil, h', Q, E, kp, hq => by
    unfold wpEs
    exact hq [] h' Kp.refl .nil
  | _, _, .cons r p, h', Q, E, kp, hq => by
    unfold wpEs
    refine r h' _ E kp ?_
    intro v h1 k1 a1
    refine evs_ok p h1 _ E (kp.trans k1) ?_
    intro vs h2 k2 a2
    exact hq _ h2 (k1.trans k2) (.cons (a1.kp k2) a2)
theorem ev_tup {as : List IE} {ts : List PT} (p : Paired (Ev d k σ h) as ts) (hl : ts.length ≤ 1000) : Ev (d + 1) k σ h (.tup as) (.tup ts) := fun h' Q E kp hq => by
  unfold wpE
  refine evs_ok p h' _ E kp ?_
  intro vs h1 k1 a1
  have e := Paired.length a1
  refine ⟨by rw [line_eq]; omega, hq _ _ (k1.trans Kp.snoc) ⟨_, vs, rfl, get_new, ⟨e, by omega⟩, fun i u t hu ht => (paired_at a1 hu ht).kp Kp.snoc⟩⟩
theorem evl_lst {as : List IE} {ts : List PT} (p : Paired (Ev d k σ h) as ts) (hl : ts.length ≤ 1000) : EvL d k σ h (.lst as) ts := fun h' Q E kp hq => by
  unfold wpE
  refine evs_ok p h' _ E kp ?_
  intro vs h1 k1 a1
  have e := Paired.length a1
  exact ⟨by rw [line_eq]; omega, hq _ _ _ (k1.trans Kp.snoc) get_new (Paired.imp (fun _ _ z => z.kp Kp.snoc) a1)⟩
theorem evl_var {i n : Nat} {vs : List PV} {ts : List PT} (e : σ[i]? = some (some (.loc n))) (en : h[n]? = some (.lst vs)) (p : Paired (At h d) vs ts) : EvL d k σ h (.var i) ts := fun h' Q E kp hq => by
  unfold wpE
  exact ⟨_, e, hq n vs h' Kp.refl (kp.get0 en) (Paired.imp (fun _ _ z => z.kp kp) p)⟩
theorem paired_app {α β : Type} {F : α → β → Prop} : ∀ {a : List α} {b : List β} {a' : List α} {b' : List β}, Paired F a b → Paired F a' b' → Paired F (a ++ a') (b ++ b')
  | _, _, _, _, .nil, s => s
  | _, _, _, _, .cons r t, s => .cons r (paired_app t s)
theorem evl_add {a b : IE} {ts us : List PT} (pa : EvL d k σ h a ts) (pb : EvL d k σ h b us) (hl : ts.length + us.length ≤ 1000) : EvL d k σ h (.bin .Add a b) (ts ++ us) := fun h' Q E kp hq => by
  unfold wpE
  refine pa h' _ E kp ?_
  intro n vs h1 k1 e1 a1
  refine pb h1 _ E (kp.trans k1) ?_
  intro m ws h2 k2 e2 a2
  have l1 := Paired.length a1
  have l2 := Paired.length a2
  refine catL (k2.get0 e1) e2 (by omega) ?_
  exact hq _ _ _ (k1.trans (k2.trans Kp.snoc)) get_new (paired_app (Paired.imp (fun _ _ z => (z.kp k2).kp Kp.snoc) a1) (Paired.imp (fun _ _ z => z.kp Kp.snoc) a2))
theorem ev_idx {a : IE} {i j : Nat} {ts : List PT} {t : PT} (pa : EvL d k σ h a ts) (e : σ[i]? = some (some (.int (j : Int)))) (ht : ts[j]? = some t) : Ev d k σ h (.idx a (.var i)) t := fun h' Q E kp hq => by
  unfold wpE
  refine pa h' _ E kp ?_
  intro n vs h1 k1 e1 a1
  unfold wpE
  refine ⟨_, e, ?_⟩
  have l1 := Paired.length a1
  have hj := get_len ht
  have hv : vs[j]? = some (vs[j]'(by omega)) := List.getElem?_eq_getElem _
  refine ⟨_, by rw [idx_seq (seqOf_lst e1), atI_nat']; exact hv, hq _ _ k1 (paired_at a1 hv ht)⟩
end
theorem at_str {h : PH} {d : Nat} {l : List Nat} : At h d (.str l) (.str l) := by cases d <;> rfl
theorem at_int {h : PH} {d : Nat} {i : Int} : At h d (.int i) (.int i) := by cases d <;> rfl
def nn (s : List Nat) : PT := .str s
/-- the reasons -/
def reasonT (text other : List Nat) (number : Int) (table : PT) : List PT := [.tup [.str [99, 117, 116]], .tup [.str [115, 116, 97, 121, 115], table, .str text], .tup [.str [103, 114, 111, 119, 115], table], .tup [.str [116, 117, 114, 110, 101, 100], .str other], .tup [.str [102, 111, 117, 110, 100], .str text, .str other, .int number, .int 2]]
  ++ [.tup [.str [97, 104, 101, 97, 100], .str text, .str other, .int 3, .int number], .tup [.str [115, 119, 105, 116, 99, 104, 101, 100], .str text], .tup [.str [114, 101, 97, 99, 104, 101, 100], .str other, .int number], .tup [.str [112, 97, 100, 100, 101, 100], .int number]]
  ++ [.tup [.str [115, 108, 111, 119, 101, 100], .int number], .tup [.str [99, 111, 110, 116, 114, 97, 114, 121], .str text], .tup [.str [115, 116, 117, 98, 98, 111, 114, 110], .str other]]
theorem wp_asg {k : Nat} {E : PX → PH → Prop} {i : Nat} {e : IE} {r : List IS} {D : PEnds} {σ : PSt} {h : PH} (w : wpE G0 (S k) (Sp k) E e σ h fun v h1 => wpSs G0 (S k) (Sp k) (fun x _ => E x) r D (σ.set i (some v)) h1) : wpSs G0 (S k) (Sp k) (fun x _ => E x) (.asg (.name i) e :: r) D σ h := by
  unfold wpSs wpSt
  simp only [wpG]
  exact w
theorem wp_ret {k : Nat} {E : PX → PH → Prop} {e : IE} {r : List IS} {D : PEnds} {σ : PSt} {h : PH} (w : wpE G0 (S k) (Sp k) E e σ h D.rt) : wpSs G0 (S k) (Sp k) (fun x _ => E x) (.ret e :: r) D σ h := by
  unfold wpSs wpSt
  exact w
theorem reason_ok {k i : Nat} {h : PH} {text other : List Nat} {number : Int} {table : PV} {T t : PT} {Q : PV → PH → Prop} {E : PX → PH → Prop} (ht : At h 2 table T) (hi : (reasonT text other number T)[i]? = some t) (hq : ∀ v h', Kp0 h h' → At h' 3 v t → Q v h') : S (k + 1) 32 [.int (i : Int), .str text, .str other, .int number, table] h Q E := by
  refine e__law_reason ?_
  unfold b__law_reason
  refine wp_asg ?_
  have vt : ∀ {h' : PH} {σ : PSt}, Kp0 h h' → σ[4]? = some (some table) → Ev 2 k σ h' (.var 4) T := fun kp e => ev_var e (ht.kp kp)
  refine evl_lst (d := 3) (ts := (reasonT text other number T).take 5) (h := h) ?_ (by simp [reasonT]) h _ E Kp.refl ?_
  · show Paired _ _ [_, _, _, _, _]
    repeat' first | exact Paired.nil | refine Paired.cons ?_ ?_ | refine ev_tup ?_ (by simp)
    all_goals first | exact vt Kp.refl rfl | exact ev_str | exact ev_int | exact ev_var rfl at_str | exact ev_var rfl at_int
  intro n vs h1 k1 e1 a1
  refine wp_asg ?_
  refine evl_add (d := 3) (us := ((reasonT text other number T).drop 5).take 4) (h := h1) (evl_var rfl e1 a1) (evl_lst ?_ (by simp [reasonT])) (by simp [reasonT]) h1 _ E Kp.refl ?_
  · show Paired _ _ [_, _, _, _]
    repeat' first | exact Paired.nil | refine Paired.cons ?_ ?_ | refine ev_tup ?_ (by simp)
    all_goals first | exact vt k1 rfl | exact ev_str | exact ev_int | exact ev_var rfl at_str | exact ev_var rfl at_int
  intro n2 vs2 h2 k2 e2 a2
  refine wp_ret ?_
  refine ev_idx (d := 3) (h := h2) (evl_add (us := (reasonT text other number T).drop 9) (evl_var rfl e2 a2) (evl_lst ?_ (by simp [reasonT])) (by simp [reasonT])) rfl hi h2 _ E Kp.refl ?_
  · show Paired _ _ [_, _, _]
    repeat' first | exact Paired.nil | refine Paired.cons ?_ ?_ | refine ev_tup ?_ (by simp)
    all_goals first | exact vt (k1.trans k2) rfl | exact ev_str | exact ev_int | exact ev_var rfl at_str | exact ev_var rfl at_int
  intro v h3 k3 a3
  exact hq v h3 (k1.trans (k2.trans k3)) a3
end K90
set_option Elab.async false
set_option linter.all false
set_option maxRecDepth 100000
set_option maxHeartbeats 4000000
namespace K90
open PySem PySem.Spec PyProof.Rows Fw L2
local macro_rules | `(tactic| walk_at "wp") => `(tactic| try simp only [wpSs, wpSt, wpE, wpEs, wpT, wpTs, wpG, wpI, wpO, List.getElem?_cons_zero, List.getElem?_cons_succ, Option.some.injEq, exists_eq_left', exists_eq_left, Nat.reduceAdd, List.set_cons_zero, List.set_cons_succ, setAll, wipeP, prmV, mtyP, partP, ite_true, ite_false, if_true, if_false, Bool.false_eq_true, true_and, exists_const, List.length_cons, List.length_nil, p_add, p_sub, p_and, q_add, q_sub, c_lt, c_le, c_gt, c_ge, c_eq, c_ne, c_eqs, c_nes, c_is, c_isnt, c_isb, c_isntb, t_bl, t_int, i_int, i_bl, m_two, m_three, m_four, m_min, Item.v, Item.h, PV.int.injEq, PV.bl.injEq, PV.str.injEq, PV.loc.injEq, is_int, is_bl, is_non, is_str, ki_ii, ki_ib, ki_is, ki_it, ki_bi, ki_bb, ki_bs, ki_bt, ki_si, ki_sb, ki_ss, ki_st, ki_ni, ki_nb, ki_ns, ki_nt, Option.map_some, Bool.not_true, Bool.not_false, c_eqb, c_neb])
def pairT (reader : List Nat) (z reason : PT) (text other : List Nat) (value : PT) (number : Int) : PT := .tup [.str [112, 97, 105, 114], .str reader, z, reason, (.str text), (.str other), value, (.int number)]
def partT (reader : List Nat) (z : PT) (text other : List Nat) (value : PT) (number : Int) : PT := .tup [.str [112, 97, 114, 116], (.str reader), z, (.str text), value, (.str other), (.int number)]
def pap0 (reader : List Nat) (z : PT) (text other : List Nat) (value : PT) (number : Int) (table reason : PT) : List PT := [(pairT reader z reason text other value number), (partT reader z text other value number), .tup [.str [111, 112, 101, 110], (.str reader), z, (.str text)], .tup [.str [108, 97, 99, 107, 115], table, (.str text), (.int number)], .tup [.str [103, 114, 111, 119, 110], (.str reader), z, table, (.str text), value]]
def pap1 (reader : List Nat) (z : PT) (text other : List Nat) (value : PT) (number : Int) (table reason : PT) : List PT := [.tup [.str [119, 97, 105, 116, 105, 110, 103], (partT reader z text other value number), (.int number)], .tup [.str [97, 103, 114, 101, 101, 100], (partT reader z text other value number), (.int number), .int 2], .tup [.str [119, 97, 105, 116, 105, 110, 103], (pairT reader z reason text other value number), .int 0], .tup [.str [97, 108, 105, 107, 101], (.str reader), z, (.str text), (.str other), value]]
def pap2 (reader : List Nat) (z : PT) (text other : List Nat) (value : PT) (number : Int) (table reason : PT) : List PT := [.tup [.str [115, 116, 101, 97, 100, 102, 97, 115, 116], (.str reader), z, (.str text), value, (.int number)], .tup [.str [109, 111, 100, 117, 108, 117, 115], (.str reader), z, (.str text), (.str other), value, (.str text), (.int number), .int 3]]
def pap3 (reader : List Nat) (z : PT) (text other : List Nat) (value : PT) (number : Int) (table reason : PT) : List PT := [.tup [.str [100, 105, 102, 102, 101, 114], (.str reader), z, (.str text), (.str other), (.int number), .int 9], .tup [.str [97, 112, 97, 114, 116], (.str reader), z, (.str text), (.str other), (.int number), .int 7, .int 8]]
def pap4 (reader : List Nat) (z : PT) (text other : List Nat) (value : PT) (number : Int) (table reason : PT) : List PT := [.tup [.str [108, 105, 115, 116, 101, 100], (.str reader), z, .tup [(.str text), (.str other), .str []], .int 1, (.int number), .tup [.int 0, .int 2], .int 5], .tup [.str [117, 110, 104, 101, 97, 114, 100], (.str reader), z, .tup [(.str text)], .int 0, .tup [], (.int number)]]
def pap5 (reader : List Nat) (z : PT) (text other : List Nat) (value : PT) (number : Int) (table reason : PT) : List PT := [.tup [.str [113, 117, 105, 101, 116], (.str reader), z, (.int number)], .tup [.str [98, 101, 97, 116, 101, 110], (.str reader), z, (.str other), (.int number), .int 2, .int 1, (.str text), .int 4], .tup [.str [109, 111, 100, 101, 115, 116], (.str reader), z, (.str text), (.int number), .int 3]]
def pap6 (reader : List Nat) (z : PT) (text other : List Nat) (value : PT) (number : Int) (table reason : PT) : List PT := [.tup [.str [115, 104, 111, 114, 116, 101, 114], (.str reader), z, (.str other), (.int number), .int 0, (.str text), (.int number), (.str other)], .tup [.str [116, 111, 103, 101, 116, 104, 101, 114], (.str reader), z, (.str text), (.str other), value, (.int number), .int 0]]
def pap7 (reader : List Nat) (z : PT) (text other : List Nat) (value : PT) (number : Int) (table reason : PT) : List PT := [.tup [.str [114, 111, 117, 110, 100], (.str reader), z, (.int number), (.str text), value, .int 3], .tup [.str [108, 101, 100], (.str reader), z, (.str text), value, (.str other), (.int number)], .tup [.str [108, 101, 97, 115, 116], (.str reader), z, (.str text), value, table]]
def pap8 (reader : List Nat) (z : PT) (text other : List Nat) (value : PT) (number : Int) (table reason : PT) : List PT := [.tup [.str [108, 105, 115, 116, 101, 100], .non, .int (-number), .tup [.tup [], .tup [table, .tup []]], .int 0]]
def papersT (reader : List Nat) (z : PT) (text other : List Nat) (value : PT) (number : Int) (table reason : PT) : List PT := pap0 reader z text other value number table reason ++ pap1 reader z text other value number table reason ++ pap2 reader z text other value number table reason ++ pap3 reader z text other value number table reason ++ pap4 reader z text other value number table reason ++ pap5 reader z text other value number table reason ++ pap6 reader z text other value number table reason ++ pap7 reader z text other value number table reason ++ pap8 reader z text other value number table reason
theorem paper_ok {k i : Nat} {h : PH} {reader text other : List Nat} {number : Int} {zv vv tv rv : PV} {z value table reason t : PT} {Q : PV → PH → Prop} {E : PX → PH → Prop} (hz : ∀ d, At h d zv z) (hv : ∀ d, At h d vv value) (ht : At h 2 tv table) (hr : At h 3 rv reason) (hi : (papersT reader z text other value number table reason)[i]? = some t) (hq : ∀ v h', Kp0 h h' → At h' 5 v t → Q v h') : S (k + 1) 33 [.int (i : Int), .str reader, zv, .str text, .str other, vv, .int number, tv, rv] h Q E := by
  refine e__law_paper ?_
  unfold b__law_paper
  refine wp_asg ?_
  refine ev_tup (d := 3) (ts := [.str [112, 97, 105, 114], .str reader, z, reason, .str text, .str other, value, .int number]) (h := h) ?_ (by simp) h _ E Kp.refl ?_
  · repeat' first | exact Paired.nil | refine Paired.cons ?_ ?_
    all_goals first | exact ev_str | exact ev_var rfl at_str | exact ev_var rfl at_int | exact ev_var rfl (hz _) | exact ev_var rfl (hv _) | exact ev_var rfl (hr.le (by decide))
  intro v9 h1 k1 hp
  have hz := fun d => (hz d).kp k1
  have hv := fun d => (hv d).kp k1
  have ht := ht.kp k1
  have hr := hr.kp k1
  refine wp_asg ?_
  refine ev_tup (d := 3) (ts := [.str [112, 97, 114, 116], .str reader, z, .str text, value, .str other, .int number]) (h := h1) ?_ (by simp) h1 _ E Kp.refl ?_
  · repeat' first | exact Paired.nil | refine Paired.cons ?_ ?_
    all_goals first | exact ev_str | exact ev_var rfl at_str | exact ev_var rfl at_int | exact ev_var rfl (hz _) | exact ev_var rfl (hv _)
  intro v10 h2 k2' hq2
  have k2 := k1.trans k2'
  have hz := fun d => (hz d).kp k2'
  have hv := fun d => (hv d).kp k2'
  have ht := ht.kp k2'
  have hr := hr.kp k2'
  have hp := hp.kp k2' 
  refine wp_asg ?_
  refine evl_lst (d := 5) (k := k) (ts := pap0 reader z text other value number table reason) (h := h2) ?_ (by simp [pap0]) h2 _ E Kp.refl ?_
  · unfold pap0
    repeat' first | exact Paired.nil | refine Paired.cons ?_ ?_ | refine ev_tup ?_ (by simp)
    all_goals first | exact ev_str | exact ev_int | exact ev_non | exact ev_neg rfl | exact ev_var rfl at_str | exact ev_var rfl at_int | exact ev_var rfl (hz _) | exact ev_var rfl (hv _) | exact ev_var rfl (ht.le (by decide)) | exact ev_var rfl (hr.le (by decide)) | exact ev_var rfl (hp.le (by decide)) | exact ev_var rfl (hq2.le (by decide))
  intro n0 vs0 h3 kn en an
  have k3 := k2.trans kn
  have hz := fun d => (hz d).kp kn
  have hv := fun d => (hv d).kp kn
  have ht := ht.kp kn
  have hr := hr.kp kn
  have hp := hp.kp kn
  have hq2 := hq2.kp kn
  refine wp_asg ?_
  refine evl_add (d := 5) (k := k) (h := h3) (evl_var rfl en an) (evl_lst (d := 5) (k := k) (ts := pap1 reader z text other value number table reason) (h := h3) ?_ (by simp [pap1])) (by simp [pap0, pap1]) h3 _ E Kp.refl ?_
  · unfold pap1
    repeat' first | exact Paired.nil | refine Paired.cons ?_ ?_ | refine ev_tup ?_ (by simp)
    all_goals first | exact ev_str | exact ev_int | exact ev_non | exact ev_neg rfl | exact ev_var rfl at_str | exact ev_var rfl at_int | exact ev_var rfl (hz _) | exact ev_var rfl (hv _) | exact ev_var rfl (ht.le (by decide)) | exact ev_var rfl (hr.le (by decide)) | exact ev_var rfl (hp.le (by decide)) | exact ev_var rfl (hq2.le (by decide))
  intro n1 vs1 h4 kn en an
  have k4 := k3.trans kn
  have hz := fun d => (hz d).kp kn
  have hv := fun d => (hv d).kp kn
  have ht := ht.kp kn
  have hr := hr.kp kn
  have hp := hp.kp kn
  have hq2 := hq2.kp kn
  refine wp_asg ?_
  refine evl_add (d := 5) (k := k) (h := h4) (evl_var rfl en an) (evl_lst (d := 5) (k := k) (ts := pap2 reader z text other value number table reason) (h := h4) ?_ (by simp [pap2])) (by simp [pap0, pap1, pap2]) h4 _ E Kp.refl ?_
  · unfold pap2
    repeat' first | exact Paired.nil | refine Paired.cons ?_ ?_ | refine ev_tup ?_ (by simp)
    all_goals first | exact ev_str | exact ev_int | exact ev_non | exact ev_neg rfl | exact ev_var rfl at_str | exact ev_var rfl at_int | exact ev_var rfl (hz _) | exact ev_var rfl (hv _) | exact ev_var rfl (ht.le (by decide)) | exact ev_var rfl (hr.le (by decide)) | exact ev_var rfl (hp.le (by decide)) | exact ev_var rfl (hq2.le (by decide))
  intro n2 vs2 h5 kn en an
  have k5 := k4.trans kn
  have hz := fun d => (hz d).kp kn
  have hv := fun d => (hv d).kp kn
  have ht := ht.kp kn
  have hr := hr.kp kn
  have hp := hp.kp kn
  have hq2 := hq2.kp kn
  refine wp_asg ?_
  refine evl_add (d := 5) (k := k) (h := h5) (evl_var rfl en an) (evl_lst (d := 5) (k := k) (ts := pap3 reader z text other value number table reason) (h := h5) ?_ (by simp [pap3])) (by simp [pap0, pap1, pap2, pap3]) h5 _ E Kp.refl ?_
  · unfold pap3
    repeat' first | exact Paired.nil | refine Paired.cons ?_ ?_ | refine ev_tup ?_ (by simp)
    all_goals first | exact ev_str | exact ev_int | exact ev_non | exact ev_neg rfl | exact ev_var rfl at_str | exact ev_var rfl at_int | exact ev_var rfl (hz _) | exact ev_var rfl (hv _) | exact ev_var rfl (ht.le (by decide)) | exact ev_var rfl (hr.le (by decide)) | exact ev_var rfl (hp.le (by decide)) | exact ev_var rfl (hq2.le (by decide))
  intro n3 vs3 h6 kn en an
  have k6 := k5.trans kn
  have hz := fun d => (hz d).kp kn
  have hv := fun d => (hv d).kp kn
  have ht := ht.kp kn
  have hr := hr.kp kn
  have hp := hp.kp kn
  have hq2 := hq2.kp kn
  refine wp_asg ?_
  refine evl_add (d := 5) (k := k) (h := h6) (evl_var rfl en an) (evl_lst (d := 5) (k := k) (ts := pap4 reader z text other value number table reason) (h := h6) ?_ (by simp [pap4])) (by simp [pap0, pap1, pap2, pap3, pap4]) h6 _ E Kp.refl ?_
  · unfold pap4
    repeat' first | exact Paired.nil | refine Paired.cons ?_ ?_ | refine ev_tup ?_ (by simp)
    all_goals first | exact ev_str | exact ev_int | exact ev_non | exact ev_neg rfl | exact ev_var rfl at_str | exact ev_var rfl at_int | exact ev_var rfl (hz _) | exact ev_var rfl (hv _) | exact ev_var rfl (ht.le (by decide)) | exact ev_var rfl (hr.le (by decide)) | exact ev_var rfl (hp.le (by decide)) | exact ev_var rfl (hq2.le (by decide))
  intro n4 vs4 h7 kn en an
  have k7 := k6.trans kn
  have hz := fun d => (hz d).kp kn
  have hv := fun d => (hv d).kp kn
  have ht := ht.kp kn
  have hr := hr.kp kn
  have hp := hp.kp kn
  have hq2 := hq2.kp kn
  refine wp_asg ?_
  refine evl_add (d := 5) (k := k) (h := h7) (evl_var rfl en an) (evl_lst (d := 5) (k := k) (ts := pap5 reader z text other value number table reason) (h := h7) ?_ (by simp [pap5])) (by simp [pap0, pap1, pap2, pap3, pap4, pap5]) h7 _ E Kp.refl ?_
  · unfold pap5
    repeat' first | exact Paired.nil | refine Paired.cons ?_ ?_ | refine ev_tup ?_ (by simp)
    all_goals first | exact ev_str | exact ev_int | exact ev_non | exact ev_neg rfl | exact ev_var rfl at_str | exact ev_var rfl at_int | exact ev_var rfl (hz _) | exact ev_var rfl (hv _) | exact ev_var rfl (ht.le (by decide)) | exact ev_var rfl (hr.le (by decide)) | exact ev_var rfl (hp.le (by decide)) | exact ev_var rfl (hq2.le (by decide))
  intro n5 vs5 h8 kn en an
  have k8 := k7.trans kn
  have hz := fun d => (hz d).kp kn
  have hv := fun d => (hv d).kp kn
  have ht := ht.kp kn
  have hr := hr.kp kn
  have hp := hp.kp kn
  have hq2 := hq2.kp kn
  refine wp_asg ?_
  refine evl_add (d := 5) (k := k) (h := h8) (evl_var rfl en an) (evl_lst (d := 5) (k := k) (ts := pap6 reader z text other value number table reason) (h := h8) ?_ (by simp [pap6])) (by simp [pap0, pap1, pap2, pap3, pap4, pap5, pap6]) h8 _ E Kp.refl ?_
  · unfold pap6
    repeat' first | exact Paired.nil | refine Paired.cons ?_ ?_ | refine ev_tup ?_ (by simp)
    all_goals first | exact ev_str | exact ev_int | exact ev_non | exact ev_neg rfl | exact ev_var rfl at_str | exact ev_var rfl at_int | exact ev_var rfl (hz _) | exact ev_var rfl (hv _) | exact ev_var rfl (ht.le (by decide)) | exact ev_var rfl (hr.le (by decide)) | exact ev_var rfl (hp.le (by decide)) | exact ev_var rfl (hq2.le (by decide))
  intro n6 vs6 h9 kn en an
  have k9 := k8.trans kn
  have hz := fun d => (hz d).kp kn
  have hv := fun d => (hv d).kp kn
  have ht := ht.kp kn
  have hr := hr.kp kn
  have hp := hp.kp kn
  have hq2 := hq2.kp kn
  refine wp_asg ?_
  refine evl_add (d := 5) (k := k) (h := h9) (evl_var rfl en an) (evl_lst (d := 5) (k := k) (ts := pap7 reader z text other value number table reason) (h := h9) ?_ (by simp [pap7])) (by simp [pap0, pap1, pap2, pap3, pap4, pap5, pap6, pap7]) h9 _ E Kp.refl ?_
  · unfold pap7
    repeat' first | exact Paired.nil | refine Paired.cons ?_ ?_ | refine ev_tup ?_ (by simp)
    all_goals first | exact ev_str | exact ev_int | exact ev_non | exact ev_neg rfl | exact ev_var rfl at_str | exact ev_var rfl at_int | exact ev_var rfl (hz _) | exact ev_var rfl (hv _) | exact ev_var rfl (ht.le (by decide)) | exact ev_var rfl (hr.le (by decide)) | exact ev_var rfl (hp.le (by decide)) | exact ev_var rfl (hq2.le (by decide))
  intro n7 vs7 h10 kn en an
  have k10 := k9.trans kn
  have hz := fun d => (hz d).kp kn
  have hv := fun d => (hv d).kp kn
  have ht := ht.kp kn
  have hr := hr.kp kn
  have hp := hp.kp kn
  have hq2 := hq2.kp kn
  refine wp_ret ?_
  refine ev_idx (d := 5) (h := h10) (evl_add (d := 5) (k := k) (h := h10) (evl_var rfl en an) (evl_lst (d := 5) (k := k) (ts := pap8 reader z text other value number table reason) (h := h10) ?_ (by simp [pap8])) (by simp [pap0, pap1, pap2, pap3, pap4, pap5, pap6, pap7, pap8])) rfl hi h10 _ E Kp.refl ?_
  · unfold pap8
    repeat' first | exact Paired.nil | refine Paired.cons ?_ ?_ | refine ev_tup ?_ (by simp)
    all_goals first | exact ev_str | exact ev_int | exact ev_non | exact ev_neg rfl | exact ev_var rfl at_str | exact ev_var rfl at_int | exact ev_var rfl (hz _) | exact ev_var rfl (hv _) | exact ev_var rfl (ht.le (by decide)) | exact ev_var rfl (hr.le (by decide)) | exact ev_var rfl (hp.le (by decide)) | exact ev_var rfl (hq2.le (by decide))
  intro v hx kx a
  exact hq v hx (k10.trans kx) a
end K90
set_option Elab.async false
set_option linter.all false
set_option maxRecDepth 100000
set_option maxHeartbeats 4000000
namespace K90
open PySem PySem.Spec PyProof.Rows Fw L2
local macro_rules | `(tactic| walk_at "wp") => `(tactic| try simp only [wpSs, wpSt, wpE, wpEs, wpT, wpTs, wpG, wpI, wpO, List.getElem?_cons_zero, List.getElem?_cons_succ, Option.some.injEq, exists_eq_left', exists_eq_left, Nat.reduceAdd, List.set_cons_zero, List.set_cons_succ, setAll, wipeP, prmV, mtyP, partP, ite_true, ite_false, if_true, if_false, Bool.false_eq_true, true_and, exists_const, List.length_cons, List.length_nil, p_add, p_sub, p_and, q_add, q_sub, c_lt, c_le, c_gt, c_ge, c_eq, c_ne, c_eqs, c_nes, c_is, c_isnt, c_isb, c_isntb, t_bl, t_int, i_int, i_bl, m_two, m_three, m_four, m_min, Item.v, Item.h, PV.int.injEq, PV.bl.injEq, PV.str.injEq, PV.loc.injEq, is_int, is_bl, is_non, is_str, ki_ii, ki_ib, ki_is, ki_it, ki_bi, ki_bb, ki_bs, ki_bt, ki_si, ki_sb, ki_ss, ki_st, ki_ni, ki_nb, ki_ns, ki_nt, Option.map_some, Bool.not_true, Bool.not_false, c_eqb, c_neb])
/-! the papers can be written and read back -/
def GA (d : Nat) (ts : List PT) : Prop := ∀ (i : Nat) (t : PT), ts[i]? = some t → Gd d false t
def GL (d : Nat) (l : List Nat) (k : Nat) (ts : List PT) : Prop := ∀ (i : Nat) (t : PT), ts[i]? = some t → Gd d (holds l (k + i)) t
theorem ga_nil {d : Nat} : GA d [] := fun i t h => by simp at h
theorem ga_cons {d : Nat} {t : PT} {ts : List PT} (h : Gd d false t) (r : GA d ts) : GA d (t :: ts) := fun i u hu => by
  cases i with
  | zero => cases hu; exact h
  | succ i => exact r i u (by simpa using hu)
theorem gl_nil {d k : Nat} {l : List Nat} : GL d l k [] := fun i t h => by simp at h
theorem gl_cons {d k : Nat} {l : List Nat} {t : PT} {ts : List PT} (h : Gd d (holds l k) t) (r : GL d l (k + 1) ts) : GL d l k (t :: ts) := fun i u hu => by
  cases i with
  | zero => cases hu; exact h
  | succ i =>
    have := r i u (by simpa using hu)
    rw [show k + (i + 1) = k + 1 + i by omega]
    exact this
theorem gd_t {d : Nat} {ts : List PT} (h : GA d ts) : Gd (d + 1) false (.tup ts) := ⟨fun z => absurd z (by decide), fun i t ht _ => by
  rw [Bool.false_and]
  exact h i t ht⟩
theorem gd_w {d : Nat} {l : List Nat} {ts : List PT} (hl : (l ≠ [] ∧ l ≠ noneL) ∧ ∀ c ∈ l, isLt c = true) (h : GL d l 1 ts) : Gd (d + 1) true (.tup (.str l :: ts)) := ⟨fun _ => ⟨l, ts, rfl, hl.1.1, hl.1.2, hl.2⟩, fun i t ht hn => by
  cases i with
  | zero => exact absurd ⟨rfl, rfl⟩ hn
  | succ i =>
    have := h i t (by simpa using ht)
    rw [Bool.true_and, show i + 1 = 1 + i by omega]
    exact this⟩
theorem gd_str {d : Nat} {w : Bool} {l : List Nat} (h : ∀ c ∈ l, c ∈ SGL) : Gd d w (.str l) := by cases d <;> exact h
theorem gd_int {d : Nat} {w : Bool} {i : Int} (h : i.natAbs < 10 ^ 18) : Gd d w (.int i) := by cases d <;> exact h
theorem gd_non {d : Nat} {w : Bool} : Gd d w .non := by cases d <;> trivial
mutual
def PT.lw : PT → Nat
  | .non => 4
  | .int _ => 20
  | .str l => l.length + 2
  | .tup xs => 2 + lws xs
def lws : List PT → Nat
  | [] => 0
  | x :: r => x.lw + 2 + lws r
end
theorem join_lw {d : Nat} {b : Bool} {l : List Nat} (f : Nat → PT → List Nat) : ∀ (xs : List PT), (∀ (i : Nat) (t : PT), xs[i]? = some t → (f i t).length ≤ t.lw) → (joinL [44, 32] (xs.mapIdx f)).length ≤ lws xs
  | [], _ => by simp [joinL]
  | [x], h => by
    have := h 0 x rfl
    simp only [List.mapIdx_cons, List.mapIdx_nil, joinL, lws]
    omega
  | x :: y :: r, h => by
    have h0 := h 0 x rfl
    have ih := join_lw (d := d) (b := b) (l := l) (fun i => f (i + 1)) (y :: r) (fun i t ht => h (i + 1) t (by simpa using ht))
    rw [List.mapIdx_cons, List.mapIdx_cons] at *
    show (f 0 x ++ [44, 32] ++ joinL [44, 32] _).length ≤ x.lw + 2 + lws (y :: r)
    rw [List.length_append, List.length_append]
    have : ([44, 32] : List Nat).length = 2 := rfl
    omega
theorem strI_len {i : Int} (h : i.natAbs < 10 ^ 18) : (strI i).length ≤ 20 := by
  rcases Int.lt_or_le i 0 with z | z
  · obtain ⟨m, rfl⟩ : ∃ m : Nat, i = -(m : Int) := ⟨i.natAbs, by omega⟩
    rw [strI_neg (by omega)]
    have := TL.numL_len (n := m) (k := 18) (by decide) (by omega)
    simp only [List.length_cons]
    omega
  · obtain ⟨m, rfl⟩ : ∃ m : Nat, i = (m : Int) := ⟨i.natAbs, by omega⟩
    rw [strI_nat]
    have := TL.numL_len (n := m) (k := 18) (by decide) (by omega)
    omega
theorem line_lw : ∀ (d : Nat) (b : Bool) (t : PT), Gd d b t → (lineP d b t).length ≤ t.lw
  | 0, _, .non, _ => Nat.le_refl 4
  | 0, _, .int _, h => strI_len h
  | 0, _, .str l, _ => by simp [lineP, PT.lw]
  | 0, _, .tup _, h => h.elim
  | d + 1, _, .non, _ => Nat.le_refl 4
  | d + 1, _, .int _, h => strI_len h
  | d + 1, _, .str l, _ => by simp [lineP, PT.lw]
  | d + 1, b, .tup xs, ⟨h1, h2⟩ => by
    have el : lineP (d + 1) b (.tup xs) = [40] ++ joinL [44, 32] (itm d b xs) ++ [41] := rfl
    rw [el]
    have := join_lw (d := d) (b := b) (l := []) (fun i t => if b = true ∧ i = 0 then hd xs else lineP d (b && holds (hd xs) i) t) xs (fun i t ht => by
      split
      · rename_i z
        obtain ⟨l, r, rfl, _⟩ := h1 z.1
        rw [z.2] at ht
        cases ht
        show l.length ≤ l.length + 2
        omega
      · rename_i z
        exact line_lw d _ t (h2 i t ht z))
    simp only [List.length_append, List.length_cons, List.length_nil, PT.lw]
    show 0 + 1 + (joinL [44, 32] (itm d b xs)).length + (0 + 1) ≤ _
    have e : (joinL [44, 32] (itm d b xs)).length ≤ lws xs := this
    omega
theorem lit_sg {l : List Nat} (h : l.all (fun c => decide (c ∈ SGL)) = true) : ∀ c ∈ l, c ∈ SGL := fun c hc => of_decide_eq_true (List.all_eq_true.mp h c hc)
section
variable {reader text other : List Nat} {z value table reason : PT} {number : Int}
structure PG (reader text other : List Nat) (z value table reason : PT) (number : Int) : Prop where
  r : ∀ c ∈ reader, c ∈ SGL
  t : ∀ c ∈ text, c ∈ SGL
  o : ∀ c ∈ other, c ∈ SGL
  n : number.natAbs < 10 ^ 18
  n2 : (-number).natAbs < 10 ^ 18
  z : ∀ d w, Gd d w z
  v : ∀ d w, Gd d w value
  T : ∀ d, Gd (d + 2) false table
  R : ∀ d, Gd (d + 3) true reason
theorem pair_gd (p : PG reader text other z value table reason number) (d : Nat) : Gd (d + 4) true (pairT reader z reason text other value number) := by
  unfold pairT
  refine gd_w (by decide) ?_
  repeat' first | exact gl_nil | refine gl_cons ?_ ?_
  all_goals first | exact gd_str p.r | exact gd_str p.t | exact gd_str p.o | exact gd_int p.n | exact p.z _ _ | exact p.v _ _ | exact p.R _
theorem part_gd (p : PG reader text other z value table reason number) (d : Nat) : Gd (d + 1) true (partT reader z text other value number) := by
  unfold partT
  refine gd_w (by decide) ?_
  repeat' first | exact gl_nil | refine gl_cons ?_ ?_
  all_goals first | exact gd_str p.r | exact gd_str p.t | exact gd_str p.o | exact gd_int p.n | exact p.z _ _ | exact p.v _ _
theorem papers_gd (p : PG reader text other z value table reason number) (d : Nat) : ∀ t ∈ papersT reader z text other value number table reason, Gd (d + 5) true t := by
  unfold papersT pap0 pap1 pap2 pap3 pap4 pap5 pap6 pap7 pap8
  simp only [List.forall_mem_append, List.forall_mem_cons]
  repeat' with_reducible apply And.intro
  all_goals first
    | exact fun _ h => by cases h
    | exact pair_gd p (d + 1)
    | exact part_gd p (d + 4)
    | (refine gd_w (by decide) ?_
       repeat' first | exact gl_nil | refine gl_cons ?_ ?_ | exact ga_nil | refine ga_cons ?_ ?_ | exact gd_str p.r | exact gd_str p.t | exact gd_str p.o | exact gd_int p.n | exact gd_int p.n2 | exact gd_int (by decide) | exact gd_str (lit_sg (by decide)) | exact gd_non | exact p.z _ _ | exact p.v _ _ | exact p.T (d + 2) | exact p.T d | exact pair_gd p d | exact part_gd p (d + 3) | refine gd_t ?_)
theorem reasons_gd (p : PG reader text other z value table reason number) (d : Nat) : ∀ t ∈ reasonT text other number table, Gd (d + 3) true t := by
  unfold reasonT
  simp only [List.forall_mem_append, List.forall_mem_cons]
  repeat' with_reducible apply And.intro
  all_goals first
    | exact fun _ h => by cases h
    | (refine gd_w (by decide) ?_
       repeat' first | exact gl_nil | refine gl_cons ?_ ?_ | exact gd_str p.t | exact gd_str p.o | exact gd_int p.n | exact gd_int (by decide) | exact p.T d)
theorem papers_lw {B : Nat} (hB : B ≤ 1000000) (hr : reader.length ≤ B) (ht : text.length ≤ B) (ho : other.length ≤ B) (hz : z.lw ≤ B + 100) (hv : value.lw ≤ B + 100) (hT : table.lw ≤ 2 * B + 200) (hR : reason.lw ≤ 4 * B + 400) (sz : z.sz ≤ 1) (sv : value.sz ≤ 1) (sT : table.sz ≤ 20) (sR : reason.sz ≤ 40) : ∀ t ∈ papersT reader z text other value number table reason, t.lw ≤ 9 * B + 2000 ∧ t.sz ≤ 1000 := by
  unfold papersT pap0 pap1 pap2 pap3 pap4 pap5 pap6 pap7 pap8 pairT partT
  simp only [List.forall_mem_append, List.forall_mem_cons]
  repeat' with_reducible apply And.intro
  all_goals first
    | exact fun _ h => by cases h
    | (simp only [PT.lw, lws, PT.sz, szs, List.length_cons, List.length_nil]; omega)
theorem reasons_lw {B : Nat} (ht : text.length ≤ B) (ho : other.length ≤ B) (hT : table.lw ≤ 2 * B + 200) (sT : table.sz ≤ 20) : ∀ t ∈ reasonT text other number table, t.lw ≤ 4 * B + 400 ∧ t.sz ≤ 40 := by
  unfold reasonT
  simp only [List.forall_mem_append, List.forall_mem_cons]
  repeat' with_reducible apply And.intro
  all_goals first
    | exact fun _ h => by cases h
    | (simp only [PT.lw, lws, PT.sz, szs, List.length_cons, List.length_nil]; omega)
end
end K90
set_option Elab.async false
set_option linter.all false
set_option maxRecDepth 100000
set_option maxHeartbeats 4000000
namespace K90
open PySem PySem.Spec PyProof.Rows Fw L2
local macro_rules | `(tactic| walk_at "wp") => `(tactic| try simp only [wpSs, wpSt, wpE, wpEs, wpT, wpTs, wpG, wpI, wpO, List.getElem?_cons_zero, List.getElem?_cons_succ, Option.some.injEq, exists_eq_left', exists_eq_left, Nat.reduceAdd, List.set_cons_zero, List.set_cons_succ, setAll, wipeP, prmV, mtyP, partP, ite_true, ite_false, if_true, if_false, Bool.false_eq_true, true_and, exists_const, List.length_cons, List.length_nil, p_add, p_sub, p_and, q_add, q_sub, c_lt, c_le, c_gt, c_ge, c_eq, c_ne, c_eqs, c_nes, c_is, c_isnt, c_isb, c_isntb, t_bl, t_int, i_int, i_bl, m_two, m_three, m_four, m_min, Item.v, Item.h, PV.int.injEq, PV.bl.injEq, PV.str.injEq, PV.loc.injEq, is_int, is_bl, is_non, is_str, ki_ii, ki_ib, ki_is, ki_it, ki_bi, ki_bb, ki_bs, ki_bt, ki_si, ki_sb, ki_ss, ki_st, ki_ni, ki_nb, ki_ns, ki_nt, Option.map_some, Bool.not_true, Bool.not_false, c_eqb, c_neb])
theorem dig_nat {ds ss : List Int} (D : Dig ds ss) : ∃ rs : List Nat, IL ds = NL rs ∧ rs.length = ss.length ∧ ∀ i, i < ss.length → ((rs.getD i 0 : Nat) : Int) < ss.getD i 0 := by
  have hm : ∀ c ∈ ds, 0 ≤ c := by
    intro c hc
    obtain ⟨i, hi⟩ := List.mem_iff_getElem?.mp hc
    have := (D.2 i (by rw [← D.1]; exact get_len hi)).1
    rw [getD_of hi] at this
    exact this
  have e : ds = (ds.map Int.toNat).map Int.ofNat := by
    rw [List.map_map]
    conv => lhs; rw [← List.map_id ds]
    refine List.map_congr_left fun c hc => ?_
    have := hm c hc
    show c = ((c.toNat : Nat) : Int)
    omega
  refine ⟨ds.map Int.toNat, congrArg IL e, by rw [List.length_map, D.1], fun i hi => ?_⟩
  have h2 := D.2 i hi
  have hg := get_getD (a := ds) (i := i) (by rw [D.1]; exact hi)
  have : (ds.map Int.toNat).getD i 0 = (ds.getD i 0).toNat := by
    rw [List.getD_eq_getElem?_getD, List.getElem?_map, hg]
    rfl
  rw [this]
  omega
/-- a number or a text -/
def SV (v : PV) (t : PT) : Prop := (∃ i : Int, v = .int i ∧ t = .int i ∧ i.natAbs < 10 ^ 18) ∨ ∃ l, v = .str l ∧ t = .str l ∧ Tx 300000 l
theorem SV.at {v : PV} {t : PT} (s : SV v t) (h : PH) (d : Nat) : At h d v t := by
  rcases s with ⟨i, rfl, rfl, _⟩ | ⟨l, rfl, rfl, _⟩
  · exact at_int
  · exact at_str
theorem SV.gd {v : PV} {t : PT} (s : SV v t) (d : Nat) (w : Bool) : Gd d w t := by
  rcases s with ⟨i, rfl, rfl, h⟩ | ⟨l, rfl, rfl, h⟩
  · exact gd_int h
  · exact gd_str h.1
theorem SV.lw {v : PV} {t : PT} (s : SV v t) : t.lw ≤ 300100 ∧ t.sz ≤ 1 := by
  rcases s with ⟨i, rfl, rfl, h⟩ | ⟨l, rfl, rfl, h⟩
  · simp [PT.lw, PT.sz]
  · have := h.2
    simp [PT.lw, PT.sz]; omega
theorem sv_pick {h : PH} {n i : Nat} {vs : List PV} (e : h[n]? = some (.lst vs)) (hv : ∀ v ∈ vs, ∃ t, SV v t) (hi : i < vs.length) : ∃ v t, idxP G0 h (.loc n) (.int (i : Int)) = some v ∧ SV v t := by
  have hg : vs[i]? = some (vs[i]'hi) := List.getElem?_eq_getElem _
  obtain ⟨t, ht⟩ := hv _ (List.mem_of_getElem? hg)
  exact ⟨_, t, by rw [idx_seq (seqOf_lst e), atI_nat']; exact hg, ht⟩
theorem papers_tup {reader text other : List Nat} {z value table reason : PT} {number : Int} : ∀ t ∈ papersT reader z text other value number table reason, ∃ xs, t = .tup xs := by
  unfold papersT pap0 pap1 pap2 pap3 pap4 pap5 pap6 pap7 pap8 pairT partT
  simp only [List.forall_mem_append, List.forall_mem_cons]
  repeat' with_reducible apply And.intro
  all_goals first
    | exact fun _ h => by cases h
    | exact ⟨_, rfl⟩
/-- what the law draws -/
structure Drawn (h : PH) (rs : List Nat) (n1 n2 : Nat) (reader text other : List Nat) (number : Nat) (zv vv tv : PV) (z value table : PT) (rq : PV) : Prop where
  e1 : h[n1]? = some (.lst (NL rs))
  l1 : rs.length = 6
  r1 : rs.getD 1 0 < 12
  e2 : h[n2]? = some (.lst [.str reader, rq])
  hr : Tx 2000 reader
  ht : Tx 300000 text
  ho : Tx 300000 other
  hn : number < 10 ^ 18
  z : SV zv z
  v : SV vv value
  t : At h 2 tv table
  tg : ∀ d, Gd (d + 2) false table
  tl : table.lw ≤ 600200
  ts : table.sz ≤ 20
theorem Drawn.kp {h h' : PH} {rs : List Nat} {n1 n2 : Nat} {reader text other : List Nat} {number : Nat} {zv vv tv : PV} {z value table : PT} {rq : PV} (D : Drawn h rs n1 n2 reader text other number zv vv tv z value table rq) (kp : Kp0 h h') : Drawn h' rs n1 n2 reader text other number zv vv tv z value table rq :=
  ⟨kp.get0 D.e1, D.l1, D.r1, kp.get0 D.e2, D.hr, D.ht, D.ho, D.hn, D.z, D.v, D.t.kp kp, D.tg, D.tl, D.ts⟩
def b35 : List IS := match List.drop 9 b_law with
  | .for_ _ _ b :: _ => b
  | _ => []
/-- one paper -/
theorem kind_ok {h : PH} {rs : List Nat} {n1 n2 i : Nat} {reader text other : List Nat} {number : Nat} {zv vv tv : PV} {z value table : PT} {rq : PV} {y4 y11 y12 y13 y14 y0 : Option PV} {F : PEnds} {E : PX → PH → Prop} (D : Drawn h rs n1 n2 reader text other number zv vv tv z value table rq) (hi : i < 24)
    (hq : ∀ h' y11 y12 y13, Kp0 h h' → F.nx [y0, some (.loc n1), some (.loc n2), some (.str text), y4, some (.str other), some (.int (number : Int)), some zv, some vv, some tv, some (.int (i : Int)), y11, y12, y13, y14] h') :
    wpSs G0 (S 39) (Sp 39) (fun x _ => E x) b35 F [y0, some (.loc n1), some (.loc n2), some (.str text), y4, some (.str other), some (.int (number : Int)), some zv, some vv, some tv, some (.int (i : Int)), y11, y12, y13, y14] h := by
  rw [show b35 = _ :: List.drop 1 b35 from rfl]
  walk_at "wp"
  have rd : ∀ {g' : PH} (i : Nat) (j : Int), Kp0 h g' → j = (i : Int) → i < 6 → idxP G0 g' (.loc n1) (.int j) = some (.int ((rs.getD i 0 : Nat) : Int)) := fun i j kk e hi => nl_at (kk.get0 D.e1) e (by rw [D.l1]; exact hi)
  rw [rd 1 1 Kp.refl rfl (by decide)]
  walk_at "wp"
  have hlr : (reasonT text other (number : Int) table).length = 12 := rfl
  have hr0 : (reasonT text other (number : Int) table)[rs.getD 1 0]? = some ((reasonT text other (number : Int) table)[rs.getD 1 0]'(by rw [hlr]; exact D.r1)) := List.getElem?_eq_getElem _
  generalize (reasonT text other (number : Int) table)[rs.getD 1 0]'(by rw [hlr]; exact D.r1) = R at hr0
  refine reason_ok (k := 38) D.t hr0 ?_
  intro rv h1 k1 a1
  have D1 := D.kp k1
  rw [show List.drop 1 b35 = _ :: List.drop 2 b35 from rfl]
  walk_at "wp"
  rw [lst2_0 D1.e2]
  walk_at "wp"
  have hlp : (papersT reader z text other value (number : Int) table R).length = 24 := rfl
  have hp0 : (papersT reader z text other value (number : Int) table R)[i]? = some ((papersT reader z text other value (number : Int) table R)[i]'(by rw [hlp]; exact hi)) := List.getElem?_eq_getElem _
  generalize (papersT reader z text other value (number : Int) table R)[i]'(by rw [hlp]; exact hi) = P at hp0
  refine paper_ok (k := 38) (fun d => D.z.at h1 d) (fun d => D.v.at h1 d) D1.t a1 hp0 ?_
  intro pv h2 k2 a2
  have hnum : ((number : Int)).natAbs < 10 ^ 18 := by have := D.hn; omega
  have hnum2 : (-(number : Int)).natAbs < 10 ^ 18 := by have := D.hn; omega
  have pg0 : PG reader text other z value table (.tup [.str [99, 117, 116]]) (number : Int) := ⟨D.hr.1, D.ht.1, D.ho.1, hnum, hnum2, D.z.gd, D.v.gd, D.tg, fun d => gd_w (by decide) gl_nil⟩
  have gR : ∀ d, Gd (d + 3) true R := fun d => reasons_gd pg0 d R (List.mem_of_getElem? hr0)
  have pg : PG reader text other z value table R (number : Int) := ⟨D.hr.1, D.ht.1, D.ho.1, hnum, hnum2, D.z.gd, D.v.gd, D.tg, gR⟩
  have gP : Gd 5 true P := papers_gd pg 0 P (List.mem_of_getElem? hp0)
  obtain ⟨lR, sR⟩ := reasons_lw (B := 300000) (text := text) (other := other) (number := (number : Int)) (table := table) D.ht.2 D.ho.2 (by have := D.tl; omega) D.ts R (List.mem_of_getElem? hr0)
  obtain ⟨lP, sP⟩ := papers_lw (B := 300000) (number := (number : Int)) (by decide) (by have := D.hr.2; omega) D.ht.2 D.ho.2 (by have := D.z.lw; omega) (by have := D.v.lw; omega) (by have := D.tl; omega) lR D.z.lw.2 D.v.lw.2 D.ts sR P (List.mem_of_getElem? hp0)
  have ll : (lineP 5 true P).length ≤ 10000000 := by have := line_lw 5 true P gP; omega
  rw [show List.drop 2 b35 = _ :: List.drop 3 b35 from rfl]
  walk_at "wp"
  refine lawline_ok (k := 33) 5 a2 gP.wd ll ?_
  intro h3 k3
  rw [show List.drop 3 b35 = _ :: List.drop 4 b35 from rfl]
  walk_at "wp"
  have a3 := a2.kp k3
  refine format_ok (k := 31) (d := 5) a3.toL gP.wd ll ?_
  intro h4 k4
  walk_at "wp"
  refine lawis_ok (k := 38) (t := .str (lineP 5 true P)) ⟨0, at_str⟩ ⟨0, at_str⟩ (by simp [PT.sz]) ?_
  intro h5 k5
  walk_at "wp"
  obtain ⟨xs, hxs⟩ : ∃ xs, P = .tup xs := papers_tup P (List.mem_of_getElem? hp0)
  obtain ⟨f, rb⟩ : ∃ f, runR (lineP 5 true P) f ⟨[], .item, .non, 0⟩ = .paper P := by
    subst hxs
    exact read_back (d := 4) gP
  refine parse_ok (k := 35) ll rb ?_
  intro v6 h6 k6 a6
  walk_at "wp"
  have a6' := ((a3.kp k4).kp k5).kp k6
  refine lawis_ok (k := 38) a6 ⟨5, a6'⟩ (by omega) ?_
  intro h7 k7
  walk_at "wp"
  have a7 := a6'.kp k7
  rw [show List.drop 4 b35 = [_] from rfl]
  walk_at "wp"
  refine thawed_ok (k := 33) 5 a7 ?_
  intro h8 v8 k8 a8
  walk_at "wp"
  refine format_ok (k := 31) (d := 5) a8.toL gP.wd ll ?_
  intro h9 k9
  walk_at "wp"
  refine lawis_ok (k := 38) (t := .str (lineP 5 true P)) ⟨0, at_str⟩ ⟨0, at_str⟩ (by simp [PT.sz]) ?_
  intro h10 k10
  walk_at "wp"
  exact hq h10 _ _ _ (k1.trans (k2.trans (k3.trans (k4.trans (k5.trans (k6.trans (k7.trans (k8.trans (k9.trans k10)))))))))
theorem pow_n {h : PH} {a b : Int} {n : Int} (e : binV G0 .Pow (.int a) (.int b) h = some (.int n, h)) {P : PV × PH → Prop} (hP : P (.int n, h)) : ∃ r, binV G0 .Pow (.int a) (.int b) h = some r ∧ P r := ⟨_, e, hP⟩
theorem pw6 {h : PH} : binV G0 .Pow (.int 10) (.int 6) h = some (.int 1000000, h) := by
  rw [p_pow, if_pos (by decide)]; rfl
theorem pw9 {h : PH} : binV G0 .Pow (.int 10) (.int 9) h = some (.int 1000000000, h) := by
  rw [p_pow, if_pos (by decide)]; rfl
theorem pw17 {h : PH} : binV G0 .Pow (.int 10) (.int 17) h = some (.int 100000000000000000, h) := by
  rw [p_pow, if_pos (by decide)]; rfl
theorem slc_tup {g : PH} {n m d : Nat} {vs : List PV} {ts : List PT} (e : g[n]? = some (.tup vs)) (p : Paired (At g d) vs ts) (hl : ts.length ≤ 1000) : ∃ r, slcV G0 (.loc n) none (some (m : Int)) g = some r ∧ Kp0 g r.2 ∧ At r.2 (d + 1) r.1 (.tup (ts.take m)) := by
  have el := Paired.length p
  unfold slcV
  dsimp only
  rw [show lstOf G0 g (.loc n) = none by unfold lstOf; rw [deref_loc e], tupOf_tup e]
  dsimp only
  have key : ∀ {vs : List PV} {ts : List PT} (m : Nat), Paired (At g d) vs ts → Paired (At g d) (vs.take m) (ts.take m) := by
    intro vs ts m p
    induction p generalizing m with
    | nil => cases m <;> exact .nil
    | cons r t ih =>
      cases m with
      | zero => exact .nil
      | succ m => exact .cons r (ih m)
  have km := key m p
  split
  · rename_i hz
    refine ⟨_, rfl, Kp.refl, n, vs, rfl, e, ?_, fun i u t hu ht => ?_⟩
    · have : min m vs.length = vs.length := by
        have := hz.2
        rw [HT.sIx_nat] at this
        exact this
      rw [List.take_of_length_le (by omega)]
      exact ⟨el, by omega⟩
    · have : min m vs.length = vs.length := by
        have := hz.2
        rw [HT.sIx_nat] at this
        exact this
      rw [List.take_of_length_le (by omega)] at ht
      exact paired_at p hu ht
  · have ec : cutP vs none (some (m : Int)) = vs.take m := by
      unfold cutP
      rw [HT.sIx_nat, HT.sIx_none, List.drop_zero, Nat.sub_zero]
      rw [← List.take_eq_take_min]
    rw [ec]
    have l2 := Paired.length km
    refine ⟨_, rfl, Kp.snoc, _, _, rfl, get_new, ⟨l2, by rw [List.length_take]; omega⟩, fun i u t hu ht => (paired_at km hu ht).kp Kp.snoc⟩
theorem siz_of {ss : List Int} (hl : ss.length ≤ 64) (h : ∀ s ∈ ss, 0 < s ∧ s < 2 ^ 90) : Siz ss := ⟨hl, fun s hs => ⟨(h s hs).1, sm_rng (n := 2 ^ 90) (by have := (h s hs).1; omega) (by have := (h s hs).2; omega) (by decide)⟩⟩
theorem mod4 {h : PH} {n : Nat} {P : PV × PH → Prop} (hP : P (.int ((n % 4 : Nat) : Int), h)) : ∃ r, binV G0 .Mod (.int (n : Int)) (.int 4) h = some r ∧ P r := by
  refine p_smod (by decide) ?_
  rw [Int.fmod_eq_emod_of_nonneg _ (by decide)]
  exact hP
theorem law_math (ns : List Int) (hl : ns.length ≤ 63) : semF G0 (prgOf recs bodies) 40 35 [.loc 0] [.rol (ns.map .int)] (fun v _ => v = .bl true) (fun _ _ => False) := by
  show S (39 + 1) 35 [.loc 0] _ _ _
  refine e_law ?_
  have sc : Scr [PO.rol (ns.map PV.int)] ns := ⟨rfl, hl⟩
  generalize [PO.rol (ns.map PV.int)] = h0 at sc ⊢
  rw [show b_law = _ :: List.drop 1 b_law from rfl]
  walk_at "wp"
  refine cell_ok (k := 38) (c := 0) sc (by decide) ?_
  intro c0
  walk_at "wp"
  refine pow_n pw6 ?_
  walk_at "wp"
  refine pow_n pw9 ?_
  walk_at "wp"
  refine ⟨by rw [line_eq]; decide, ?_⟩
  refine digits_ok (k := 38) (ss := [24, 12, 1000000, 4, 1000000000, 24]) get_new (siz_of (by decide) (by decide)) ?_
  intro h1 n1 ds1 k1 _ D1 e1
  have k1 := Kp.snoc.trans k1
  obtain ⟨rs, er, l1, b1⟩ := dig_nat D1
  rw [er] at e1
  walk_at "wp"
  rw [show List.drop 1 b_law = _ :: List.drop 2 b_law from rfl]
  walk_at "wp"
  refine cell_ok (k := 38) (c := 1) (sc.kp k1) (by decide) ?_
  intro c1
  walk_at "wp"
  refine ⟨by rw [line_eq]; decide, by rw [line_eq]; decide, ?_⟩
  refine rep_lst (ns := [38]) get_new (by decide) (by decide) (by decide) ?_
  refine cat_ints (ns := [24, 6]) (Kp.snoc.get0 (Kp.snoc.get0 get_new)) get_new (by decide) ?_
  refine digits_ok (k := 38) get_new (siz_of (by decide) (by decide)) ?_
  intro h2 n2' ds2 k2' _ D2 e2'
  have k2 : Kp0 h1 h2 := (((Kp.snoc.trans Kp.snoc).trans Kp.snoc).trans Kp.snoc).trans k2'
  obtain ⟨rs2, er2, l2, b2⟩ := dig_nat D2
  rw [er2] at e2'
  walk_at "wp"
  have l2 : rs2.length = 16 := l2
  have b2 : ∀ i, i < 16 → ((rs2.getD i 0 : Nat) : Int) < ([24, 6] ++ (List.replicate (Int.toNat 14) [38]).flatten : List Int).getD i 0 := b2
  have b2' : ∀ r ∈ rs2, r < 38 := by
    intro r hr
    obtain ⟨i, hi⟩ := List.mem_iff_getElem?.mp hr
    have hl := get_len hi
    rw [l2] at hl
    have := b2 i hl
    have e : rs2.getD i 0 = r := by rw [List.getD_eq_getElem?_getD, hi]; rfl
    rw [e] at this
    have q : ∀ i, i < 16 → ([24, 6] ++ (List.replicate (Int.toNat 14) [38]).flatten : List Int).getD i 0 ≤ 38 := by decide
    have := q i hl
    omega
  refine reader_ok (k := 36) e2' l2 b2' (by have := b2 0 (by decide); have e : ([24, 6] ++ (List.replicate (Int.toNat 14) [38]).flatten : List Int).getD 0 0 = 24 := by decide
                                            omega) ?_
  intro reader n2 h3 k3 e2 hrd
  have hq0 : rs2.getD 1 0 < 6 := by
    have := b2 1 (by decide)
    have e : ([24, 6] ++ (List.replicate (Int.toNat 14) [38]).flatten : List Int).getD 1 0 = 6 := by decide
    omega
  rw [show List.drop 2 b_law = _ :: List.drop 3 b_law from rfl]
  walk_at "wp"
  refine cell_ok (k := 38) (c := 2) (sc.kp (k1.trans (k2.trans k3))) (by decide) ?_
  intro c2
  walk_at "wp"
  refine ⟨by rw [line_eq]; decide, by rw [line_eq]; decide, ?_⟩
  refine rep_lst (ns := [10]) get_new (by decide) (by decide) (by decide) ?_
  refine cat_ints (ns := [16, 7]) (Kp.snoc.get0 (Kp.snoc.get0 get_new)) get_new (by decide) ?_
  refine ⟨by rw [line_eq]; decide, ?_⟩
  refine cat_ints (ms := [6]) (Kp.snoc.get0 get_new) get_new (by decide) ?_
  refine digits_ok (k := 38) get_new (siz_of (by decide) (by decide)) ?_
  intro h4 n4 ds4 k4' _ D4 e4'
  have k4 : Kp0 h3 h4 := (((((Kp.snoc.trans Kp.snoc).trans Kp.snoc).trans Kp.snoc).trans Kp.snoc).trans Kp.snoc).trans k4'
  obtain ⟨rs4, er4, l4, b4⟩ := dig_nat D4
  rw [er4] at e4'
  walk_at "wp"
  have b4 : ∀ i, i < 9 → ((rs4.getD i 0 : Nat) : Int) < ([16, 7] ++ (List.replicate (Int.toNat 6) [10]).flatten ++ [6] : List Int).getD i 0 := b4
  have R4 : Row9 rs4 := by
    refine ⟨l4, ?_, fun i h2 h7 => ?_, ?_⟩
    · have := b4 1 (by decide)
      have e : ([16, 7] ++ (List.replicate (Int.toNat 6) [10]).flatten ++ [6] : List Int).getD 1 0 = 7 := by decide
      omega
    · have := b4 i (by omega)
      have e : ∀ i, i < 9 → 2 ≤ i ∧ i ≤ 7 → ([16, 7] ++ (List.replicate (Int.toNat 6) [10]).flatten ++ [6] : List Int).getD i 0 = 10 := by decide
      have := e i (by omega) ⟨h2, h7⟩
      omega
    · have := b4 8 (by decide)
      have e : ([16, 7] ++ (List.replicate (Int.toNat 6) [10]).flatten ++ [6] : List Int).getD 8 0 = 6 := by decide
      omega
  refine anytext_ok (k := 33) e4' R4 (by have := b4 0 (by decide); have e : ([16, 7] ++ (List.replicate (Int.toNat 6) [10]).flatten ++ [6] : List Int).getD 0 0 = 16 := by decide
                                         omega) ?_
  intro text h5 k5 htx
  rw [show List.drop 3 b_law = _ :: List.drop 4 b_law from rfl]
  walk_at "wp"
  refine cell_ok (k := 38) (c := 3) (sc.kp (k1.trans (k2.trans (k3.trans (k4.trans k5))))) (by decide) ?_
  intro c3
  walk_at "wp"
  refine ⟨by rw [line_eq]; decide, ?_⟩
  refine rep_lst (ns := [33]) get_new (by decide) (by decide) (by decide) ?_
  refine digits_ok (k := 38) get_new (siz_of (by decide) (by decide)) ?_
  intro h6 n6 ds6 k6' _ D6 e6
  have k6 : Kp0 h5 h6 := (Kp.snoc.trans Kp.snoc).trans k6'
  obtain ⟨rs6, er6, l6, b6⟩ := dig_nat D6
  rw [er6] at e6
  have l6 : rs6.length = 20 := l6
  have b6 : ∀ i, i < 20 → rs6.getD i 0 < 33 := by
    intro i hi
    have := b6 i hi
    have e : ∀ i, i < 20 → ((List.replicate (Int.toNat 20) [33]).flatten : List Int).getD i 0 = 33 := by decide
    have := e i hi
    omega
  walk_at "wp"
  rw [show List.drop 4 b_law = _ :: List.drop 5 b_law from rfl]
  walk_at "wp"
  refine ⟨_, _, deref_loc e6, rfl, ?_⟩
  refine lc_map (rs6.map fun i => .str [SGL.getD i 0]) rfl (by simp) (by rw [line_eq]; simp [l6]) (fun _ => deref_loc (Kp.snoc.get0 e6)) vals_val ?_ ?_
  · intro i v y g K kg hi hy hK
    rw [List.getElem?_map] at hi hy
    obtain ⟨v', hv', hv2⟩ := Option.map_eq_some_iff.mp hi
    cases hv2
    rw [IL_get, List.getElem?_map] at hv'
    obtain ⟨c, hc, rfl⟩ := Option.map_eq_some_iff.mp hy
    rw [hc] at hv'
    cases hv'
    have hil := get_len hc
    have hcl : c < 33 := by
      have := b6 i (by omega)
      have e : rs6.getD i 0 = c := by rw [List.getD_eq_getElem?_getD, hc]; rfl
      omega
    walk_at "wp"
    refine signs_ok (k := 38) ?_
    walk_at "wp"
    obtain ⟨s, hs1, hs2⟩ := mem_sgl hcl
    have hsd : SGL.getD c 0 = s := by rw [List.getD_eq_getElem?_getD, hs1]; rfl
    rw [hsd] at hK
    rw [show (Int.ofNat c) = (c : Int) from rfl, idx_str (by decide) hs1]
    walk_at "wp"
    exact hK
  refine p_join (b := 1) get_new ?_ (by simp [l6]) ?_
  · intro y hy
    obtain ⟨c, hc, rfl⟩ := List.mem_map.mp hy
    obtain ⟨i, hi⟩ := List.mem_iff_getElem?.mp hc
    have hil := get_len hi
    have hcl : c < 33 := by
      have := b6 i (by omega)
      have e : rs6.getD i 0 = c := by rw [List.getD_eq_getElem?_getD, hi]; rfl
      omega
    obtain ⟨s, hs1, hs2⟩ := mem_sgl hcl
    have hsd : SGL.getD c 0 = s := by rw [List.getD_eq_getElem?_getD, hs1]; rfl
    rw [hsd]
    exact ⟨_, rfl, fun c hc => by rw [List.mem_singleton.mp hc]; exact hs2, Nat.le_refl _⟩
  intro other hot
  have hot : Tx 300000 other := hot.mono (by simp [l6])
  have k7 : Kp0 h6 (h6 ++ [PO.lst (rs6.map fun i => .str [SGL.getD i 0])]) := Kp.snoc
  generalize h6 ++ [PO.lst (rs6.map fun i => .str [SGL.getD i 0])] = h7 at k7
  have kk : Kp0 h1 h7 := k2.trans (k3.trans (k4.trans (k5.trans (k6.trans k7))))
  have e1 := kk.get0 e1
  have e2 := (k4.trans (k5.trans (k6.trans k7))).get0 e2
  have l1 : rs.length = 6 := l1
  have b1 : ∀ i, i < 6 → ((rs.getD i 0 : Nat) : Int) < ([24, 12, 1000000, 4, 1000000000, 24] : List Int).getD i 0 := b1
  have r0 : rs.getD 0 0 < 24 := by have := b1 0 (by decide); have : ((rs.getD 0 0 : Nat) : Int) < 24 := this; omega
  have r1 : rs.getD 1 0 < 12 := by have := b1 1 (by decide); have : ((rs.getD 1 0 : Nat) : Int) < 12 := this; omega
  have r2 : rs.getD 2 0 < 1000000 := by have := b1 2 (by decide); have : ((rs.getD 2 0 : Nat) : Int) < 1000000 := this; omega
  have r3 : rs.getD 3 0 < 4 := by have := b1 3 (by decide); have : ((rs.getD 3 0 : Nat) : Int) < 4 := this; omega
  have r4 : rs.getD 4 0 < 1000000000 := by have := b1 4 (by decide); have : ((rs.getD 4 0 : Nat) : Int) < 1000000000 := this; omega
  have r5 : rs.getD 5 0 < 24 := by have := b1 5 (by decide); have : ((rs.getD 5 0 : Nat) : Int) < 24 := this; omega
  have rd : ∀ {g' : PH} (i : Nat) (j : Int), Kp0 h7 g' → j = (i : Int) → i < 6 → idxP G0 g' (.loc n1) (.int j) = some (.int ((rs.getD i 0 : Nat) : Int)) := fun i j kk e hi => nl_at (kk.get0 e1) e (by rw [l1]; exact hi)
  have rr : ∀ {g' : PH}, Kp0 h7 g' → idxP G0 g' (.loc n2) (.int 1) = some (.int ((rs2.getD 1 0 : Nat) : Int)) := fun kk => lst2_1 (kk.get0 e2)
  rw [show List.drop 5 b_law = _ :: List.drop 6 b_law from rfl]
  walk_at "wp"
  rw [rd 2 2 Kp.refl rfl (by decide)]
  walk_at "wp"
  rw [rd 4 4 Kp.refl rfl (by decide)]
  walk_at "wp"
  refine p_smul 100 100 (sm_rng (n := 1000000000) (by omega) (by omega) (by decide)) (sm_rng (n := 1000000000) (by omega) (by omega) (by decide)) (by decide) (by decide) (by decide) ?_
  walk_at "wp"
  refine pow_n pw17 ?_
  walk_at "wp"
  rw [rd 2 2 Kp.refl rfl (by decide)]
  walk_at "wp"
  refine ⟨by rw [line_eq]; decide, ?_⟩
  rw [rd 3 3 Kp.snoc rfl (by decide)]
  walk_at "wp"
  have hmul : rs.getD 2 0 * rs.getD 4 0 ≤ 1000000 * 1000000000 := Nat.mul_le_mul (by omega) (by omega)
  obtain ⟨number, hnum, hnb⟩ : ∃ number : Nat, ([PV.int ((rs.getD 2 0 : Nat) : Int), .int (((rs.getD 2 0 : Nat) : Int) * ((rs.getD 4 0 : Nat) : Int)), .int (100000000000000000 + ((rs.getD 2 0 : Nat) : Int)), .int 3] : List PV)[rs.getD 3 0]? = some (.int (number : Int)) ∧ number < 10 ^ 18 := by
    generalize rs.getD 3 0 = q3 at r3
    match q3, r3 with
    | 0, _ => exact ⟨_, rfl, by omega⟩
    | 1, _ => exact ⟨rs.getD 2 0 * rs.getD 4 0, by simp, by omega⟩
    | 2, _ => exact ⟨100000000000000000 + rs.getD 2 0, by simp, by omega⟩
    | 3, _ => exact ⟨3, by simp, by omega⟩
  refine ⟨_, by rw [idx_seq (seqOf_lst get_new), atI_nat']; exact hnum, ?_⟩
  clear hnum hmul
  have k8 : ∀ {o : PO}, Kp0 h7 (h7 ++ [o]) := Kp.snoc
  have kk8 := @k8 (PO.lst [PV.int ((rs.getD 2 0 : Nat) : Int), .int (((rs.getD 2 0 : Nat) : Int) * ((rs.getD 4 0 : Nat) : Int)), .int (100000000000000000 + ((rs.getD 2 0 : Nat) : Int)), .int 3])
  generalize h7 ++ [PO.lst [PV.int ((rs.getD 2 0 : Nat) : Int), .int (((rs.getD 2 0 : Nat) : Int) * ((rs.getD 4 0 : Nat) : Int)), .int (100000000000000000 + ((rs.getD 2 0 : Nat) : Int)), .int 3]] = h8 at kk8
  have svn : ∀ n : Nat, n < 10 ^ 18 → ∃ t, SV (.int (n : Int)) t := fun n h => ⟨_, .inl ⟨_, rfl, rfl, by omega⟩⟩
  have svt : ∀ l, Tx 300000 l → ∃ t, SV (.str l) t := fun l h => ⟨_, .inr ⟨_, rfl, rfl, h⟩⟩
  rw [show List.drop 6 b_law = _ :: List.drop 7 b_law from rfl]
  walk_at "wp"
  rw [rr kk8]
  walk_at "wp"
  refine ⟨by rw [line_eq]; decide, ?_⟩
  rw [rd 3 3 (kk8.trans Kp.snoc) rfl (by decide)]
  walk_at "wp"
  obtain ⟨zv, z, ez, sz⟩ := sv_pick (i := rs.getD 3 0) (get_new (h := h8) (o := .lst [.int ((rs2.getD 1 0 : Nat) : Int), .str other, .int (number : Int), .str []])) (by
    intro v hv
    simp only [List.mem_cons, List.not_mem_nil, or_false] at hv
    rcases hv with rfl | rfl | rfl | rfl
    · exact svn _ (by omega)
    · exact svt _ hot
    · exact svn _ hnb
    · exact svt _ Tx.nil) (by simpa using r3)
  rw [ez]
  walk_at "wp"
  have k9 : Kp0 h7 (h8 ++ [.lst [.int ((rs2.getD 1 0 : Nat) : Int), .str other, .int (number : Int), .str []]]) := kk8.trans Kp.snoc
  clear ez
  generalize h8 ++ [PO.lst [.int ((rs2.getD 1 0 : Nat) : Int), .str other, .int (number : Int), .str []]] = h9 at k9
  rw [show List.drop 7 b_law = _ :: List.drop 8 b_law from rfl]
  walk_at "wp"
  refine ⟨by rw [line_eq]; decide, ?_⟩
  rw [rd 2 2 (k9.trans Kp.snoc) rfl (by decide)]
  walk_at "wp"
  refine mod4 ?_
  walk_at "wp"
  obtain ⟨vv, value, ev, sv⟩ := sv_pick (i := rs.getD 2 0 % 4) (get_new (h := h9) (o := .lst [.int (number : Int), .str text, .int 0, .str [117]])) (by
    intro v hv
    simp only [List.mem_cons, List.not_mem_nil, or_false] at hv
    rcases hv with rfl | rfl | rfl | rfl
    · exact svn _ hnb
    · exact svt _ htx
    · exact svn 0 (by decide)
    · exact svt _ ⟨by decide, by decide⟩) (by have : rs.getD 2 0 % 4 < 4 := Nat.mod_lt _ (by decide); simpa using this)
  rw [ev]
  walk_at "wp"
  have k10 : Kp0 h7 (h9 ++ [.lst [.int (number : Int), .str text, .int 0, .str [117]]]) := k9.trans Kp.snoc
  clear ev
  generalize h9 ++ [PO.lst [.int (number : Int), .str text, .int 0, .str [117]]] = h10 at k10
  rw [show List.drop 8 b_law = _ :: List.drop 9 b_law from rfl]
  walk_at "wp"
  refine ⟨by rw [line_eq]; decide, by rw [line_eq]; decide, by rw [line_eq]; decide, by rw [line_eq]; decide, ?_⟩
  have ka : Kp0 h10 (h10 ++ [PO.tup [.int 0, .int 5]] ++ [PO.tup [.int 2, .str text]] ++ [PO.tup [.int (number : Int), .str other]] ++ [PO.tup [.loc h10.length, .loc (h10 ++ [PO.tup [.int 0, .int 5]]).length, .loc (h10 ++ [PO.tup [.int 0, .int 5]] ++ [PO.tup [.int 2, .str text]]).length]]) := ((Kp.snoc.trans Kp.snoc).trans Kp.snoc).trans Kp.snoc
  have k11 := k10.trans ka
  rw [rd 2 2 k11 rfl (by decide)]
  walk_at "wp"
  refine mod4 ?_
  walk_at "wp"
  have pt : Paired (At (h10 ++ [PO.tup [.int 0, .int 5]] ++ [PO.tup [.int 2, .str text]] ++ [PO.tup [.int (number : Int), .str other]] ++ [PO.tup [.loc h10.length, .loc (h10 ++ [PO.tup [.int 0, .int 5]]).length, .loc (h10 ++ [PO.tup [.int 0, .int 5]] ++ [PO.tup [.int 2, .str text]]).length]]) 1) [.loc h10.length, .loc (h10 ++ [PO.tup [.int 0, .int 5]]).length, .loc (h10 ++ [PO.tup [.int 0, .int 5]] ++ [PO.tup [.int 2, .str text]]).length] [.tup [.int 0, .int 5], .tup [.int 2, .str text], .tup [.int (number : Int), .str other]] := by
    have two : ∀ {g : PH} {n : Nat} {a b : PV} {s t : PT}, g[n]? = some (.tup [a, b]) → At g 0 a s → At g 0 b t → At g 1 (.loc n) (.tup [s, t]) := by
      intro g n a b s t e ha hb
      refine ⟨n, _, rfl, e, ⟨rfl, by simp⟩, fun i u t' hu ht => ?_⟩
      match i with
      | 0 => cases hu; cases ht; exact ha
      | 1 => cases hu; cases ht; exact hb
      | i + 2 => simp at hu
    refine .cons (two (Kp.snoc.get0 (Kp.snoc.get0 (Kp.snoc.get0 get_new))) at_int at_int) (.cons (two (Kp.snoc.get0 (Kp.snoc.get0 get_new)) at_int at_str) (.cons (two (Kp.snoc.get0 get_new) at_int at_str) .nil))
  obtain ⟨⟨tv, h11⟩, et, kt, at_⟩ := slc_tup (m := rs.getD 2 0 % 4) get_new pt (by simp)
  refine ⟨_, et, ?_⟩
  have k12 : Kp0 h7 h11 := k11.trans kt
  have tbl : ∀ {P : PT → Prop}, P (.tup []) → P (.tup [.tup [.int 0, .int 5]]) → P (.tup [.tup [.int 0, .int 5], .tup [.int 2, .str text]]) → P (.tup [.tup [.int 0, .int 5], .tup [.int 2, .str text], .tup [.int (number : Int), .str other]]) → P (.tup ([.tup [.int 0, .int 5], .tup [.int 2, .str text], .tup [.int (number : Int), .str other]].take (rs.getD 2 0 % 4))) := by
    intro P p0 p1 p2 p3
    have hm : rs.getD 2 0 % 4 < 4 := Nat.mod_lt _ (by decide)
    generalize rs.getD 2 0 % 4 = m at hm
    match m, hm with
    | 0, _ => exact p0
    | 1, _ => exact p1
    | 2, _ => exact p2
    | 3, _ => exact p3
  have D : Drawn h11 rs n1 n2 reader text other number zv vv tv z value (.tup ([.tup [.int 0, .int 5], .tup [.int 2, .str text], .tup [.int (number : Int), .str other]].take (rs.getD 2 0 % 4))) (.int ((rs2.getD 1 0 : Nat) : Int)) := by
    refine ⟨k12.get0 e1, l1, r1, k12.get0 e2, hrd, htx, hot, hnb, sz, sv, at_, ?_, ?_, ?_⟩
    · have g : ∀ d (i j : PT), Gd d false i → Gd d false j → Gd (d + 1) false (.tup [i, j]) := fun d i j a b => gd_t (ga_cons a (ga_cons b ga_nil))
      have g1 : ∀ d, Gd (d + 1) false (.tup [.int 0, .int 5]) := fun d => g d _ _ (gd_int (by decide)) (gd_int (by decide))
      have g2 : ∀ d, Gd (d + 1) false (.tup [.int 2, .str text]) := fun d => g d _ _ (gd_int (by decide)) (gd_str htx.1)
      have g3 : ∀ d, Gd (d + 1) false (.tup [.int (number : Int), .str other]) := fun d => g d _ _ (gd_int (by omega)) (gd_str hot.1)
      exact tbl (P := fun t => ∀ d, Gd (d + 2) false t) (fun d => gd_t ga_nil) (fun d => gd_t (ga_cons (g1 d) ga_nil)) (fun d => gd_t (ga_cons (g1 d) (ga_cons (g2 d) ga_nil))) (fun d => gd_t (ga_cons (g1 d) (ga_cons (g2 d) (ga_cons (g3 d) ga_nil))))
    · have t2 := htx.2
      have o2 := hot.2
      refine tbl (P := fun t => t.lw ≤ 600200) ?_ ?_ ?_ ?_ <;> simp only [PT.lw, lws] <;> omega
    · refine tbl (P := fun t => t.sz ≤ 20) ?_ ?_ ?_ ?_ <;> simp only [PT.sz, szs] <;> omega
  generalize (PT.tup ([.tup [.int 0, .int 5], .tup [.int 2, .str text], .tup [.int (number : Int), .str other]].take (rs.getD 2 0 % 4))) = table at D
  rw [show List.drop 9 b_law = .for_ (.name 10) (.seq (.lst [.idx (.var 1) (.cst (.int 0)), .idx (.var 1) (.cst (.int 5)), .cst (.int 0), .cst (.int 5), .cst (.int 6)])) b35 :: List.drop 10 b_law from rfl]
  walk_at "wp"
  rw [rd 0 0 k12 rfl (by decide)]
  walk_at "wp"
  rw [rd 5 5 k12 rfl (by decide)]
  walk_at "wp"
  refine ⟨by rw [line_eq]; decide, _, _, deref_loc get_new, rfl, ?_⟩
  have D := D.kp (Kp.snoc (o := .lst [.int ((rs.getD 0 0 : Nat) : Int), .int ((rs.getD 5 0 : Nat) : Int), .int 0, .int 5, .int 6]))
  have ek := get_new (h := h11) (o := .lst [.int ((rs.getD 0 0 : Nat) : Int), .int ((rs.getD 5 0 : Nat) : Int), .int 0, .int 5, .int 6])
  generalize h11 ++ [PO.lst [.int ((rs.getD 0 0 : Nat) : Int), .int ((rs.getD 5 0 : Nat) : Int), .int 0, .int 5, .int 6]] = h12 at D ek
  refine for_inv (fun i σ g => Kp0 h12 g ∧ ∃ y10 y11 y12 y13 y14, σ = [some (.loc 0), some (.loc n1), some (.loc n2), some (.str text), some (.loc n6), some (.str other), some (.int (number : Int)), some zv, some vv, some tv, y10, y11, y12, y13, y14]) ⟨Kp.refl, _, _, _, _, _, rfl⟩ ?_ ?_
  · rintro i x σ g K hx ⟨kg, y10, y11, y12, y13, y14, rfl⟩ hK
    refine ⟨deref_loc (kg.get0 ek), ?_⟩
    obtain ⟨v, hv, rfl⟩ := val_item hx
    obtain ⟨j, rfl, hj⟩ : ∃ j : Nat, v = .int (j : Int) ∧ j < 24 := by
      have := List.mem_of_getElem? hv
      simp only [List.mem_cons, List.not_mem_nil, or_false] at this
      rcases this with rfl | rfl | rfl | rfl | rfl
      · exact ⟨_, rfl, r0⟩
      · exact ⟨_, rfl, r5⟩
      · exact ⟨0, rfl, by decide⟩
      · exact ⟨5, rfl, by decide⟩
      · exact ⟨6, rfl, by decide⟩
    walk_at "wp"
    refine kind_ok (D.kp kg) hj ?_
    intro h' y11' y12' y13' kh
    exact hK _ _ ⟨kg.trans kh, _, _, _, _, _, rfl⟩
  · rintro σ g ⟨kg, y10, y11, y12, y13, y14, rfl⟩
    refine ⟨deref_loc (kg.get0 ek), ?_⟩
    rw [show List.drop 10 b_law = [_] from rfl]
    walk_at "wp"
end K90
set_option Elab.async false
set_option linter.all false
set_option maxRecDepth 100000
set_option maxHeartbeats 4000000
namespace K90
open PySem PySem.Spec PyProof.Rows Fw L2

theorem kok {K : PySem.W.Frag} : KOk ⟨K, [], [], []⟩ G0 := ⟨rfl, fun n a o h => by simp at h⟩
theorem comp_all : ∀ (i : Nat) (r : Rec), recs[i]? = some r → ∃ b, bodies[i]? = some b ∧ compD (pEnv recs kst blt) r = some b := by
  intro i r h
  match i, h with
  | 0, h => cases h; exact ⟨_, rfl, c_first_odd⟩
  | 1, h => cases h; exact ⟨_, rfl, c_digits_end⟩
  | 2, h => cases h; exact ⟨_, rfl, c_letters_end⟩
  | 3, h => cases h; exact ⟨_, rfl, c_number_piece⟩
  | 4, h => cases h; exact ⟨_, rfl, c_text_piece⟩
  | 5, h => cases h; exact ⟨_, rfl, c_item_piece⟩
  | 6, h => cases h; exact ⟨_, rfl, c_behind_item⟩
  | 7, h => cases h; exact ⟨_, rfl, c_parse_paper⟩
  | 8, h => cases h; exact ⟨_, rfl, c_frozen⟩
  | 9, h => cases h; exact ⟨_, rfl, c_holds_words⟩
  | 10, h => cases h; exact ⟨_, rfl, c_line_of⟩
  | 11, h => cases h; exact ⟨_, rfl, c_format_paper⟩
  | 12, h => cases h; exact ⟨_, rfl, c__law_cell⟩
  | 13, h => cases h; exact ⟨_, rfl, c__law_digits⟩
  | 14, h => cases h; exact ⟨_, rfl, c__law_signs⟩
  | 15, h => cases h; exact ⟨_, rfl, c__law_text_of⟩
  | 16, h => cases h; exact ⟨_, rfl, c__law_quote⟩
  | 17, h => cases h; exact ⟨_, rfl, c__law_literal⟩
  | 18, h => cases h; exact ⟨_, rfl, c__law_row_number⟩
  | 19, h => cases h; exact ⟨_, rfl, c__law_table⟩
  | 20, h => cases h; exact ⟨_, rfl, c__law_part⟩
  | 21, h => cases h; exact ⟨_, rfl, c__law_put_in⟩
  | 22, h => cases h; exact ⟨_, rfl, c__law_padded⟩
  | 23, h => cases h; exact ⟨_, rfl, c__law_slowed⟩
  | 24, h => cases h; exact ⟨_, rfl, c__law_steady⟩
  | 25, h => cases h; exact ⟨_, rfl, c__law_any_text⟩
  | 26, h => cases h; exact ⟨_, rfl, c__law_expression⟩
  | 27, h => cases h; exact ⟨_, rfl, c__law_asker⟩
  | 28, h => cases h; exact ⟨_, rfl, c__law_looker⟩
  | 29, h => cases h; exact ⟨_, rfl, c__law_reader⟩
  | 30, h => cases h; exact ⟨_, rfl, c__law_is⟩
  | 31, h => cases h; exact ⟨_, rfl, c__law_line⟩
  | 32, h => cases h; exact ⟨_, rfl, c__law_reason⟩
  | 33, h => cases h; exact ⟨_, rfl, c__law_paper⟩
  | 34, h => cases h; exact ⟨_, rfl, c__law_thawed⟩
  | 35, h => cases h; exact ⟨_, rfl, c_law⟩
  | n + 36, h => simp [recs] at h
theorem all_mk {w : World} {K : PySem.W.Frag} {h : Heap} {mg : Str → Option Value} {fa : Addr} (X : K.In h) (G : h.Ns mainGlobals mg) (hfa : mg "law" = some (.ref fa))
    {oc0 kV0 dc0 pm0 cd0 ct0 : Value} {od0 an0 : Option Addr} {sl0 : Array (Option Value)} {f0 : Addr}
    {oc1 kV1 dc1 pm1 cd1 ct1 : Value} {od1 an1 : Option Addr} {sl1 : Array (Option Value)} {f1 : Addr}
    {oc2 kV2 dc2 pm2 cd2 ct2 : Value} {od2 an2 : Option Addr} {sl2 : Array (Option Value)} {f2 : Addr}
    {oc3 kV3 dc3 pm3 cd3 ct3 : Value} {od3 an3 : Option Addr} {sl3 : Array (Option Value)} {f3 : Addr}
    {oc4 kV4 dc4 pm4 cd4 ct4 : Value} {od4 an4 : Option Addr} {sl4 : Array (Option Value)} {f4 : Addr}
    {oc5 kV5 dc5 pm5 cd5 ct5 : Value} {od5 an5 : Option Addr} {sl5 : Array (Option Value)} {f5 : Addr}
    {oc6 kV6 dc6 pm6 cd6 ct6 : Value} {od6 an6 : Option Addr} {sl6 : Array (Option Value)} {f6 : Addr}
    {oc7 kV7 dc7 pm7 cd7 ct7 : Value} {od7 an7 : Option Addr} {sl7 : Array (Option Value)} {f7 : Addr}
    {oc8 kV8 dc8 pm8 cd8 ct8 : Value} {od8 an8 : Option Addr} {sl8 : Array (Option Value)} {f8 : Addr}
    {oc9 kV9 dc9 pm9 cd9 ct9 : Value} {od9 an9 : Option Addr} {sl9 : Array (Option Value)} {f9 : Addr}
    {oc10 kV10 dc10 pm10 cd10 ct10 : Value} {od10 an10 : Option Addr} {sl10 : Array (Option Value)} {f10 : Addr}
    {oc11 kV11 dc11 pm11 cd11 ct11 : Value} {od11 an11 : Option Addr} {sl11 : Array (Option Value)} {f11 : Addr}
    {oc12 kV12 dc12 pm12 cd12 ct12 : Value} {od12 an12 : Option Addr} {sl12 : Array (Option Value)} {f12 : Addr}
    {oc13 kV13 dc13 pm13 cd13 ct13 : Value} {od13 an13 : Option Addr} {sl13 : Array (Option Value)} {f13 : Addr}
    {oc14 kV14 dc14 pm14 cd14 ct14 : Value} {od14 an14 : Option Addr} {sl14 : Array (Option Value)} {f14 : Addr}
    {oc15 kV15 dc15 pm15 cd15 ct15 : Value} {od15 an15 : Option Addr} {sl15 : Array (Option Value)} {f15 : Addr}
    {oc16 kV16 dc16 pm16 cd16 ct16 : Value} {od16 an16 : Option Addr} {sl16 : Array (Option Value)} {f16 : Addr}
    {oc17 kV17 dc17 pm17 cd17 ct17 : Value} {od17 an17 : Option Addr} {sl17 : Array (Option Value)} {f17 : Addr}
    {oc18 kV18 dc18 pm18 cd18 ct18 : Value} {od18 an18 : Option Addr} {sl18 : Array (Option Value)} {f18 : Addr}
    {oc19 kV19 dc19 pm19 cd19 ct19 : Value} {od19 an19 : Option Addr} {sl19 : Array (Option Value)} {f19 : Addr}
    {oc20 kV20 dc20 pm20 cd20 ct20 : Value} {od20 an20 : Option Addr} {sl20 : Array (Option Value)} {f20 : Addr}
    {oc21 kV21 dc21 pm21 cd21 ct21 : Value} {od21 an21 : Option Addr} {sl21 : Array (Option Value)} {f21 : Addr}
    {oc22 kV22 dc22 pm22 cd22 ct22 : Value} {od22 an22 : Option Addr} {sl22 : Array (Option Value)} {f22 : Addr}
    {oc23 kV23 dc23 pm23 cd23 ct23 : Value} {od23 an23 : Option Addr} {sl23 : Array (Option Value)} {f23 : Addr}
    {oc24 kV24 dc24 pm24 cd24 ct24 : Value} {od24 an24 : Option Addr} {sl24 : Array (Option Value)} {f24 : Addr}
    {oc25 kV25 dc25 pm25 cd25 ct25 : Value} {od25 an25 : Option Addr} {sl25 : Array (Option Value)} {f25 : Addr}
    {oc26 kV26 dc26 pm26 cd26 ct26 : Value} {od26 an26 : Option Addr} {sl26 : Array (Option Value)} {f26 : Addr}
    {oc27 kV27 dc27 pm27 cd27 ct27 : Value} {od27 an27 : Option Addr} {sl27 : Array (Option Value)} {f27 : Addr}
    {oc28 kV28 dc28 pm28 cd28 ct28 : Value} {od28 an28 : Option Addr} {sl28 : Array (Option Value)} {f28 : Addr}
    {oc29 kV29 dc29 pm29 cd29 ct29 : Value} {od29 an29 : Option Addr} {sl29 : Array (Option Value)} {f29 : Addr}
    {oc30 kV30 dc30 pm30 cd30 ct30 : Value} {od30 an30 : Option Addr} {sl30 : Array (Option Value)} {f30 : Addr}
    {oc31 kV31 dc31 pm31 cd31 ct31 : Value} {od31 an31 : Option Addr} {sl31 : Array (Option Value)} {f31 : Addr}
    {oc32 kV32 dc32 pm32 cd32 ct32 : Value} {od32 an32 : Option Addr} {sl32 : Array (Option Value)} {f32 : Addr}
    {oc33 kV33 dc33 pm33 cd33 ct33 : Value} {od33 an33 : Option Addr} {sl33 : Array (Option Value)} {f33 : Addr}
    {oc34 kV34 dc34 pm34 cd34 ct34 : Value} {od34 an34 : Option Addr} {sl34 : Array (Option Value)} {f34 : Addr}
    {oc35 kV35 dc35 pm35 cd35 ct35 : Value} {od35 an35 : Option Addr} {sl35 : Array (Option Value)} {f35 : Addr}
    (a0 : PySem.W.nsIn K mainGlobals "first_odd" = some (some (.ref f0))) (l0 : K.lookup f0 = some ⟨oc0, od0, .func (PySem.W.fnOf "first_odd" "first_odd" (defArgs r_first_odd.st) (defBody r_first_odd.st) (defScope r_first_odd.st) .none kV0 dc0 pm0 an0 cd0 ct0), sl0⟩) (c0 : PySem.W.codeIn K cd0 "first_odd" = true) (k0 : PySem.W.keepIn K (.ref f0) = true)
    (a1 : PySem.W.nsIn K mainGlobals "digits_end" = some (some (.ref f1))) (l1 : K.lookup f1 = some ⟨oc1, od1, .func (PySem.W.fnOf "digits_end" "digits_end" (defArgs r_digits_end.st) (defBody r_digits_end.st) (defScope r_digits_end.st) .none kV1 dc1 pm1 an1 cd1 ct1), sl1⟩) (c1 : PySem.W.codeIn K cd1 "digits_end" = true) (k1 : PySem.W.keepIn K (.ref f1) = true)
    (a2 : PySem.W.nsIn K mainGlobals "letters_end" = some (some (.ref f2))) (l2 : K.lookup f2 = some ⟨oc2, od2, .func (PySem.W.fnOf "letters_end" "letters_end" (defArgs r_letters_end.st) (defBody r_letters_end.st) (defScope r_letters_end.st) .none kV2 dc2 pm2 an2 cd2 ct2), sl2⟩) (c2 : PySem.W.codeIn K cd2 "letters_end" = true) (k2 : PySem.W.keepIn K (.ref f2) = true)
    (a3 : PySem.W.nsIn K mainGlobals "number_piece" = some (some (.ref f3))) (l3 : K.lookup f3 = some ⟨oc3, od3, .func (PySem.W.fnOf "number_piece" "number_piece" (defArgs r_number_piece.st) (defBody r_number_piece.st) (defScope r_number_piece.st) .none kV3 dc3 pm3 an3 cd3 ct3), sl3⟩) (c3 : PySem.W.codeIn K cd3 "number_piece" = true) (k3 : PySem.W.keepIn K (.ref f3) = true)
    (a4 : PySem.W.nsIn K mainGlobals "text_piece" = some (some (.ref f4))) (l4 : K.lookup f4 = some ⟨oc4, od4, .func (PySem.W.fnOf "text_piece" "text_piece" (defArgs r_text_piece.st) (defBody r_text_piece.st) (defScope r_text_piece.st) .none kV4 dc4 pm4 an4 cd4 ct4), sl4⟩) (c4 : PySem.W.codeIn K cd4 "text_piece" = true) (k4 : PySem.W.keepIn K (.ref f4) = true)
    (a5 : PySem.W.nsIn K mainGlobals "item_piece" = some (some (.ref f5))) (l5 : K.lookup f5 = some ⟨oc5, od5, .func (PySem.W.fnOf "item_piece" "item_piece" (defArgs r_item_piece.st) (defBody r_item_piece.st) (defScope r_item_piece.st) .none kV5 dc5 pm5 an5 cd5 ct5), sl5⟩) (c5 : PySem.W.codeIn K cd5 "item_piece" = true) (k5 : PySem.W.keepIn K (.ref f5) = true)
    (a6 : PySem.W.nsIn K mainGlobals "behind_item" = some (some (.ref f6))) (l6 : K.lookup f6 = some ⟨oc6, od6, .func (PySem.W.fnOf "behind_item" "behind_item" (defArgs r_behind_item.st) (defBody r_behind_item.st) (defScope r_behind_item.st) .none kV6 dc6 pm6 an6 cd6 ct6), sl6⟩) (c6 : PySem.W.codeIn K cd6 "behind_item" = true) (k6 : PySem.W.keepIn K (.ref f6) = true)
    (a7 : PySem.W.nsIn K mainGlobals "parse_paper" = some (some (.ref f7))) (l7 : K.lookup f7 = some ⟨oc7, od7, .func (PySem.W.fnOf "parse_paper" "parse_paper" (defArgs r_parse_paper.st) (defBody r_parse_paper.st) (defScope r_parse_paper.st) .none kV7 dc7 pm7 an7 cd7 ct7), sl7⟩) (c7 : PySem.W.codeIn K cd7 "parse_paper" = true) (k7 : PySem.W.keepIn K (.ref f7) = true)
    (a8 : PySem.W.nsIn K mainGlobals "frozen" = some (some (.ref f8))) (l8 : K.lookup f8 = some ⟨oc8, od8, .func (PySem.W.fnOf "frozen" "frozen" (defArgs r_frozen.st) (defBody r_frozen.st) (defScope r_frozen.st) .none kV8 dc8 pm8 an8 cd8 ct8), sl8⟩) (c8 : PySem.W.codeIn K cd8 "frozen" = true) (k8 : PySem.W.keepIn K (.ref f8) = true)
    (a9 : PySem.W.nsIn K mainGlobals "holds_words" = some (some (.ref f9))) (l9 : K.lookup f9 = some ⟨oc9, od9, .func (PySem.W.fnOf "holds_words" "holds_words" (defArgs r_holds_words.st) (defBody r_holds_words.st) (defScope r_holds_words.st) .none kV9 dc9 pm9 an9 cd9 ct9), sl9⟩) (c9 : PySem.W.codeIn K cd9 "holds_words" = true) (k9 : PySem.W.keepIn K (.ref f9) = true)
    (a10 : PySem.W.nsIn K mainGlobals "line_of" = some (some (.ref f10))) (l10 : K.lookup f10 = some ⟨oc10, od10, .func (PySem.W.fnOf "line_of" "line_of" (defArgs r_line_of.st) (defBody r_line_of.st) (defScope r_line_of.st) .none kV10 dc10 pm10 an10 cd10 ct10), sl10⟩) (c10 : PySem.W.codeIn K cd10 "line_of" = true) (k10 : PySem.W.keepIn K (.ref f10) = true)
    (a11 : PySem.W.nsIn K mainGlobals "format_paper" = some (some (.ref f11))) (l11 : K.lookup f11 = some ⟨oc11, od11, .func (PySem.W.fnOf "format_paper" "format_paper" (defArgs r_format_paper.st) (defBody r_format_paper.st) (defScope r_format_paper.st) .none kV11 dc11 pm11 an11 cd11 ct11), sl11⟩) (c11 : PySem.W.codeIn K cd11 "format_paper" = true) (k11 : PySem.W.keepIn K (.ref f11) = true)
    (a12 : PySem.W.nsIn K mainGlobals "_law_cell" = some (some (.ref f12))) (l12 : K.lookup f12 = some ⟨oc12, od12, .func (PySem.W.fnOf "_law_cell" "_law_cell" (defArgs r__law_cell.st) (defBody r__law_cell.st) (defScope r__law_cell.st) .none kV12 dc12 pm12 an12 cd12 ct12), sl12⟩) (c12 : PySem.W.codeIn K cd12 "_law_cell" = true) (k12 : PySem.W.keepIn K (.ref f12) = true)
    (a13 : PySem.W.nsIn K mainGlobals "_law_digits" = some (some (.ref f13))) (l13 : K.lookup f13 = some ⟨oc13, od13, .func (PySem.W.fnOf "_law_digits" "_law_digits" (defArgs r__law_digits.st) (defBody r__law_digits.st) (defScope r__law_digits.st) .none kV13 dc13 pm13 an13 cd13 ct13), sl13⟩) (c13 : PySem.W.codeIn K cd13 "_law_digits" = true) (k13 : PySem.W.keepIn K (.ref f13) = true)
    (a14 : PySem.W.nsIn K mainGlobals "_law_signs" = some (some (.ref f14))) (l14 : K.lookup f14 = some ⟨oc14, od14, .func (PySem.W.fnOf "_law_signs" "_law_signs" (defArgs r__law_signs.st) (defBody r__law_signs.st) (defScope r__law_signs.st) .none kV14 dc14 pm14 an14 cd14 ct14), sl14⟩) (c14 : PySem.W.codeIn K cd14 "_law_signs" = true) (k14 : PySem.W.keepIn K (.ref f14) = true)
    (a15 : PySem.W.nsIn K mainGlobals "_law_text_of" = some (some (.ref f15))) (l15 : K.lookup f15 = some ⟨oc15, od15, .func (PySem.W.fnOf "_law_text_of" "_law_text_of" (defArgs r__law_text_of.st) (defBody r__law_text_of.st) (defScope r__law_text_of.st) .none kV15 dc15 pm15 an15 cd15 ct15), sl15⟩) (c15 : PySem.W.codeIn K cd15 "_law_text_of" = true) (k15 : PySem.W.keepIn K (.ref f15) = true)
    (a16 : PySem.W.nsIn K mainGlobals "_law_quote" = some (some (.ref f16))) (l16 : K.lookup f16 = some ⟨oc16, od16, .func (PySem.W.fnOf "_law_quote" "_law_quote" (defArgs r__law_quote.st) (defBody r__law_quote.st) (defScope r__law_quote.st) .none kV16 dc16 pm16 an16 cd16 ct16), sl16⟩) (c16 : PySem.W.codeIn K cd16 "_law_quote" = true) (k16 : PySem.W.keepIn K (.ref f16) = true)
    (a17 : PySem.W.nsIn K mainGlobals "_law_literal" = some (some (.ref f17))) (l17 : K.lookup f17 = some ⟨oc17, od17, .func (PySem.W.fnOf "_law_literal" "_law_literal" (defArgs r__law_literal.st) (defBody r__law_literal.st) (defScope r__law_literal.st) .none kV17 dc17 pm17 an17 cd17 ct17), sl17⟩) (c17 : PySem.W.codeIn K cd17 "_law_literal" = true) (k17 : PySem.W.keepIn K (.ref f17) = true)
    (a18 : PySem.W.nsIn K mainGlobals "_law_row_number" = some (some (.ref f18))) (l18 : K.lookup f18 = some ⟨oc18, od18, .func (PySem.W.fnOf "_law_row_number" "_law_row_number" (defArgs r__law_row_number.st) (defBody r__law_row_number.st) (defScope r__law_row_number.st) .none kV18 dc18 pm18 an18 cd18 ct18), sl18⟩) (c18 : PySem.W.codeIn K cd18 "_law_row_number" = true) (k18 : PySem.W.keepIn K (.ref f18) = true)
    (a19 : PySem.W.nsIn K mainGlobals "_law_table" = some (some (.ref f19))) (l19 : K.lookup f19 = some ⟨oc19, od19, .func (PySem.W.fnOf "_law_table" "_law_table" (defArgs r__law_table.st) (defBody r__law_table.st) (defScope r__law_table.st) .none kV19 dc19 pm19 an19 cd19 ct19), sl19⟩) (c19 : PySem.W.codeIn K cd19 "_law_table" = true) (k19 : PySem.W.keepIn K (.ref f19) = true)
    (a20 : PySem.W.nsIn K mainGlobals "_law_part" = some (some (.ref f20))) (l20 : K.lookup f20 = some ⟨oc20, od20, .func (PySem.W.fnOf "_law_part" "_law_part" (defArgs r__law_part.st) (defBody r__law_part.st) (defScope r__law_part.st) .none kV20 dc20 pm20 an20 cd20 ct20), sl20⟩) (c20 : PySem.W.codeIn K cd20 "_law_part" = true) (k20 : PySem.W.keepIn K (.ref f20) = true)
    (a21 : PySem.W.nsIn K mainGlobals "_law_put_in" = some (some (.ref f21))) (l21 : K.lookup f21 = some ⟨oc21, od21, .func (PySem.W.fnOf "_law_put_in" "_law_put_in" (defArgs r__law_put_in.st) (defBody r__law_put_in.st) (defScope r__law_put_in.st) .none kV21 dc21 pm21 an21 cd21 ct21), sl21⟩) (c21 : PySem.W.codeIn K cd21 "_law_put_in" = true) (k21 : PySem.W.keepIn K (.ref f21) = true)
    (a22 : PySem.W.nsIn K mainGlobals "_law_padded" = some (some (.ref f22))) (l22 : K.lookup f22 = some ⟨oc22, od22, .func (PySem.W.fnOf "_law_padded" "_law_padded" (defArgs r__law_padded.st) (defBody r__law_padded.st) (defScope r__law_padded.st) .none kV22 dc22 pm22 an22 cd22 ct22), sl22⟩) (c22 : PySem.W.codeIn K cd22 "_law_padded" = true) (k22 : PySem.W.keepIn K (.ref f22) = true)
    (a23 : PySem.W.nsIn K mainGlobals "_law_slowed" = some (some (.ref f23))) (l23 : K.lookup f23 = some ⟨oc23, od23, .func (PySem.W.fnOf "_law_slowed" "_law_slowed" (defArgs r__law_slowed.st) (defBody r__law_slowed.st) (defScope r__law_slowed.st) .none kV23 dc23 pm23 an23 cd23 ct23), sl23⟩) (c23 : PySem.W.codeIn K cd23 "_law_slowed" = true) (k23 : PySem.W.keepIn K (.ref f23) = true)
    (a24 : PySem.W.nsIn K mainGlobals "_law_steady" = some (some (.ref f24))) (l24 : K.lookup f24 = some ⟨oc24, od24, .func (PySem.W.fnOf "_law_steady" "_law_steady" (defArgs r__law_steady.st) (defBody r__law_steady.st) (defScope r__law_steady.st) .none kV24 dc24 pm24 an24 cd24 ct24), sl24⟩) (c24 : PySem.W.codeIn K cd24 "_law_steady" = true) (k24 : PySem.W.keepIn K (.ref f24) = true)
    (a25 : PySem.W.nsIn K mainGlobals "_law_any_text" = some (some (.ref f25))) (l25 : K.lookup f25 = some ⟨oc25, od25, .func (PySem.W.fnOf "_law_any_text" "_law_any_text" (defArgs r__law_any_text.st) (defBody r__law_any_text.st) (defScope r__law_any_text.st) .none kV25 dc25 pm25 an25 cd25 ct25), sl25⟩) (c25 : PySem.W.codeIn K cd25 "_law_any_text" = true) (k25 : PySem.W.keepIn K (.ref f25) = true)
    (a26 : PySem.W.nsIn K mainGlobals "_law_expression" = some (some (.ref f26))) (l26 : K.lookup f26 = some ⟨oc26, od26, .func (PySem.W.fnOf "_law_expression" "_law_expression" (defArgs r__law_expression.st) (defBody r__law_expression.st) (defScope r__law_expression.st) .none kV26 dc26 pm26 an26 cd26 ct26), sl26⟩) (c26 : PySem.W.codeIn K cd26 "_law_expression" = true) (k26 : PySem.W.keepIn K (.ref f26) = true)
    (a27 : PySem.W.nsIn K mainGlobals "_law_asker" = some (some (.ref f27))) (l27 : K.lookup f27 = some ⟨oc27, od27, .func (PySem.W.fnOf "_law_asker" "_law_asker" (defArgs r__law_asker.st) (defBody r__law_asker.st) (defScope r__law_asker.st) .none kV27 dc27 pm27 an27 cd27 ct27), sl27⟩) (c27 : PySem.W.codeIn K cd27 "_law_asker" = true) (k27 : PySem.W.keepIn K (.ref f27) = true)
    (a28 : PySem.W.nsIn K mainGlobals "_law_looker" = some (some (.ref f28))) (l28 : K.lookup f28 = some ⟨oc28, od28, .func (PySem.W.fnOf "_law_looker" "_law_looker" (defArgs r__law_looker.st) (defBody r__law_looker.st) (defScope r__law_looker.st) .none kV28 dc28 pm28 an28 cd28 ct28), sl28⟩) (c28 : PySem.W.codeIn K cd28 "_law_looker" = true) (k28 : PySem.W.keepIn K (.ref f28) = true)
    (a29 : PySem.W.nsIn K mainGlobals "_law_reader" = some (some (.ref f29))) (l29 : K.lookup f29 = some ⟨oc29, od29, .func (PySem.W.fnOf "_law_reader" "_law_reader" (defArgs r__law_reader.st) (defBody r__law_reader.st) (defScope r__law_reader.st) .none kV29 dc29 pm29 an29 cd29 ct29), sl29⟩) (c29 : PySem.W.codeIn K cd29 "_law_reader" = true) (k29 : PySem.W.keepIn K (.ref f29) = true)
    (a30 : PySem.W.nsIn K mainGlobals "_law_is" = some (some (.ref f30))) (l30 : K.lookup f30 = some ⟨oc30, od30, .func (PySem.W.fnOf "_law_is" "_law_is" (defArgs r__law_is.st) (defBody r__law_is.st) (defScope r__law_is.st) .none kV30 dc30 pm30 an30 cd30 ct30), sl30⟩) (c30 : PySem.W.codeIn K cd30 "_law_is" = true) (k30 : PySem.W.keepIn K (.ref f30) = true)
    (a31 : PySem.W.nsIn K mainGlobals "_law_line" = some (some (.ref f31))) (l31 : K.lookup f31 = some ⟨oc31, od31, .func (PySem.W.fnOf "_law_line" "_law_line" (defArgs r__law_line.st) (defBody r__law_line.st) (defScope r__law_line.st) .none kV31 dc31 pm31 an31 cd31 ct31), sl31⟩) (c31 : PySem.W.codeIn K cd31 "_law_line" = true) (k31 : PySem.W.keepIn K (.ref f31) = true)
    (a32 : PySem.W.nsIn K mainGlobals "_law_reason" = some (some (.ref f32))) (l32 : K.lookup f32 = some ⟨oc32, od32, .func (PySem.W.fnOf "_law_reason" "_law_reason" (defArgs r__law_reason.st) (defBody r__law_reason.st) (defScope r__law_reason.st) .none kV32 dc32 pm32 an32 cd32 ct32), sl32⟩) (c32 : PySem.W.codeIn K cd32 "_law_reason" = true) (k32 : PySem.W.keepIn K (.ref f32) = true)
    (a33 : PySem.W.nsIn K mainGlobals "_law_paper" = some (some (.ref f33))) (l33 : K.lookup f33 = some ⟨oc33, od33, .func (PySem.W.fnOf "_law_paper" "_law_paper" (defArgs r__law_paper.st) (defBody r__law_paper.st) (defScope r__law_paper.st) .none kV33 dc33 pm33 an33 cd33 ct33), sl33⟩) (c33 : PySem.W.codeIn K cd33 "_law_paper" = true) (k33 : PySem.W.keepIn K (.ref f33) = true)
    (a34 : PySem.W.nsIn K mainGlobals "_law_thawed" = some (some (.ref f34))) (l34 : K.lookup f34 = some ⟨oc34, od34, .func (PySem.W.fnOf "_law_thawed" "_law_thawed" (defArgs r__law_thawed.st) (defBody r__law_thawed.st) (defScope r__law_thawed.st) .none kV34 dc34 pm34 an34 cd34 ct34), sl34⟩) (c34 : PySem.W.codeIn K cd34 "_law_thawed" = true) (k34 : PySem.W.keepIn K (.ref f34) = true)
    (a35 : PySem.W.nsIn K mainGlobals "law" = some (some (.ref f35))) (l35 : K.lookup f35 = some ⟨oc35, od35, .func (PySem.W.fnOf "law" "law" (defArgs r_law.st) (defBody r_law.st) (defScope r_law.st) .none kV35 dc35 pm35 an35 cd35 ct35), sl35⟩) (c35 : PySem.W.codeIn K cd35 "law" = true) (k35 : PySem.W.keepIn K (.ref f35) = true)
    (z0 : PySem.W.nsIn K mainGlobals "len" = some none) (z1 : PySem.W.nsIn K mainGlobals "isinstance" = some none) (z2 : PySem.W.nsIn K mainGlobals "int" = some none) (z3 : PySem.W.nsIn K mainGlobals "range" = some none) (z4 : PySem.W.nsIn K mainGlobals "tuple" = some none) (z5 : PySem.W.nsIn K mainGlobals "list" = some none) (z6 : PySem.W.nsIn K mainGlobals "min" = some none) (z7 : PySem.W.nsIn K mainGlobals "reversed" = some none) (z8 : PySem.W.nsIn K mainGlobals "enumerate" = some none) (z9 : PySem.W.nsIn K mainGlobals "bool" = some none) (z10 : PySem.W.nsIn K mainGlobals "str" = some none) {tq0 : Tok} (q0 : PySem.W.nsIn K mainGlobals "SIGNS" = some (some (.str (sOf [48, 49, 50, 51, 52, 53, 54, 55, 56, 57, 97, 98, 99, 111, 117, 35, 34, 110, 116, 113, 43, 45, 47, 126, 61, 60, 115, 114, 38, 63, 64, 33, 46]) tq0))) {tq1 : Tok} (q1 : PySem.W.nsIn K mainGlobals "DIGITS" = some (some (.str (sOf [48, 49, 50, 51, 52, 53, 54, 55, 56, 57]) tq1))) {tq2 : Tok} (q2 : PySem.W.nsIn K mainGlobals "LETTERS" = some (some (.str (sOf [97, 98, 99, 100, 101, 102, 103, 104, 105, 106, 107, 108, 109, 110, 111, 112, 113, 114, 115, 116, 117, 118, 119, 120, 121, 122]) tq2))) :
    ∃ fd : FuncData, (∀ (s : Shared) (v : Value), BindsTo s fd ⟨[v], []⟩ [("script", v)]) ∧ ∀ base : Heap, K.In base → base.Ns mainGlobals mg → FnOk PySem.Challenge.rw_onlylength_k90_notes_read_back.prog w K mg base (L2.CX PySem.Challenge.rw_onlylength_k90_notes_read_back.prog w) 40 fa fd ["script"] (spOf ⟨K, [], [], []⟩ (semF G0 (prgOf recs bodies) 40 35) 1) := by
  have d0 : Def K mg r_first_odd := ⟨f0, _, PySem.W.mg_of X G a0, fun_mk (st := r_first_odd.st) l0 c0 k0, (fun_mk (st := r_first_odd.st) l0 c0 k0).binds (ps := r_first_odd.ps) fun _ _ _ _ _ _ us hl => match us, hl with | [_], _ => rfl⟩
  have d1 : Def K mg r_digits_end := ⟨f1, _, PySem.W.mg_of X G a1, fun_mk (st := r_digits_end.st) l1 c1 k1, (fun_mk (st := r_digits_end.st) l1 c1 k1).binds (ps := r_digits_end.ps) fun _ _ _ _ _ _ us hl => match us, hl with | [_, _], _ => rfl⟩
  have d2 : Def K mg r_letters_end := ⟨f2, _, PySem.W.mg_of X G a2, fun_mk (st := r_letters_end.st) l2 c2 k2, (fun_mk (st := r_letters_end.st) l2 c2 k2).binds (ps := r_letters_end.ps) fun _ _ _ _ _ _ us hl => match us, hl with | [_, _], _ => rfl⟩
  have d3 : Def K mg r_number_piece := ⟨f3, _, PySem.W.mg_of X G a3, fun_mk (st := r_number_piece.st) l3 c3 k3, (fun_mk (st := r_number_piece.st) l3 c3 k3).binds (ps := r_number_piece.ps) fun _ _ _ _ _ _ us hl => match us, hl with | [_, _], _ => rfl⟩
  have d4 : Def K mg r_text_piece := ⟨f4, _, PySem.W.mg_of X G a4, fun_mk (st := r_text_piece.st) l4 c4 k4, (fun_mk (st := r_text_piece.st) l4 c4 k4).binds (ps := r_text_piece.ps) fun _ _ _ _ _ _ us hl => match us, hl with | [_, _], _ => rfl⟩
  have d5 : Def K mg r_item_piece := ⟨f5, _, PySem.W.mg_of X G a5, fun_mk (st := r_item_piece.st) l5 c5 k5, (fun_mk (st := r_item_piece.st) l5 c5 k5).binds (ps := r_item_piece.ps) fun _ _ _ _ _ _ us hl => match us, hl with | [_, _, _], _ => rfl⟩
  have d6 : Def K mg r_behind_item := ⟨f6, _, PySem.W.mg_of X G a6, fun_mk (st := r_behind_item.st) l6 c6 k6, (fun_mk (st := r_behind_item.st) l6 c6 k6).binds (ps := r_behind_item.ps) fun _ _ _ _ _ _ us hl => match us, hl with | [_, _, _], _ => rfl⟩
  have d7 : Def K mg r_parse_paper := ⟨f7, _, PySem.W.mg_of X G a7, fun_mk (st := r_parse_paper.st) l7 c7 k7, (fun_mk (st := r_parse_paper.st) l7 c7 k7).binds (ps := r_parse_paper.ps) fun _ _ _ _ _ _ us hl => match us, hl with | [_], _ => rfl⟩
  have d8 : Def K mg r_frozen := ⟨f8, _, PySem.W.mg_of X G a8, fun_mk (st := r_frozen.st) l8 c8 k8, (fun_mk (st := r_frozen.st) l8 c8 k8).binds (ps := r_frozen.ps) fun _ _ _ _ _ _ us hl => match us, hl with | [_], _ => rfl⟩
  have d9 : Def K mg r_holds_words := ⟨f9, _, PySem.W.mg_of X G a9, fun_mk (st := r_holds_words.st) l9 c9 k9, (fun_mk (st := r_holds_words.st) l9 c9 k9).binds (ps := r_holds_words.ps) fun _ _ _ _ _ _ us hl => match us, hl with | [_, _], _ => rfl⟩
  have d10 : Def K mg r_line_of := ⟨f10, _, PySem.W.mg_of X G a10, fun_mk (st := r_line_of.st) l10 c10 k10, (fun_mk (st := r_line_of.st) l10 c10 k10).binds (ps := r_line_of.ps) fun _ _ _ _ _ _ us hl => match us, hl with | [_, _], _ => rfl⟩
  have d11 : Def K mg r_format_paper := ⟨f11, _, PySem.W.mg_of X G a11, fun_mk (st := r_format_paper.st) l11 c11 k11, (fun_mk (st := r_format_paper.st) l11 c11 k11).binds (ps := r_format_paper.ps) fun _ _ _ _ _ _ us hl => match us, hl with | [_], _ => rfl⟩
  have d12 : Def K mg r__law_cell := ⟨f12, _, PySem.W.mg_of X G a12, fun_mk (st := r__law_cell.st) l12 c12 k12, (fun_mk (st := r__law_cell.st) l12 c12 k12).binds (ps := r__law_cell.ps) fun _ _ _ _ _ _ us hl => match us, hl with | [_, _], _ => rfl⟩
  have d13 : Def K mg r__law_digits := ⟨f13, _, PySem.W.mg_of X G a13, fun_mk (st := r__law_digits.st) l13 c13 k13, (fun_mk (st := r__law_digits.st) l13 c13 k13).binds (ps := r__law_digits.ps) fun _ _ _ _ _ _ us hl => match us, hl with | [_, _], _ => rfl⟩
  have d14 : Def K mg r__law_signs := ⟨f14, _, PySem.W.mg_of X G a14, fun_mk (st := r__law_signs.st) l14 c14 k14, (fun_mk (st := r__law_signs.st) l14 c14 k14).binds (ps := r__law_signs.ps) fun _ _ _ _ _ _ us hl => match us, hl with | [], _ => rfl⟩
  have d15 : Def K mg r__law_text_of := ⟨f15, _, PySem.W.mg_of X G a15, fun_mk (st := r__law_text_of.st) l15 c15 k15, (fun_mk (st := r__law_text_of.st) l15 c15 k15).binds (ps := r__law_text_of.ps) fun _ _ _ _ _ _ us hl => match us, hl with | [_], _ => rfl⟩
  have d16 : Def K mg r__law_quote := ⟨f16, _, PySem.W.mg_of X G a16, fun_mk (st := r__law_quote.st) l16 c16 k16, (fun_mk (st := r__law_quote.st) l16 c16 k16).binds (ps := r__law_quote.ps) fun _ _ _ _ _ _ us hl => match us, hl with | [_], _ => rfl⟩
  have d17 : Def K mg r__law_literal := ⟨f17, _, PySem.W.mg_of X G a17, fun_mk (st := r__law_literal.st) l17 c17 k17, (fun_mk (st := r__law_literal.st) l17 c17 k17).binds (ps := r__law_literal.ps) fun _ _ _ _ _ _ us hl => match us, hl with | [_], _ => rfl⟩
  have d18 : Def K mg r__law_row_number := ⟨f18, _, PySem.W.mg_of X G a18, fun_mk (st := r__law_row_number.st) l18 c18 k18, (fun_mk (st := r__law_row_number.st) l18 c18 k18).binds (ps := r__law_row_number.ps) fun _ _ _ _ _ _ us hl => match us, hl with | [_], _ => rfl⟩
  have d19 : Def K mg r__law_table := ⟨f19, _, PySem.W.mg_of X G a19, fun_mk (st := r__law_table.st) l19 c19 k19, (fun_mk (st := r__law_table.st) l19 c19 k19).binds (ps := r__law_table.ps) fun _ _ _ _ _ _ us hl => match us, hl with | [_], _ => rfl⟩
  have d20 : Def K mg r__law_part := ⟨f20, _, PySem.W.mg_of X G a20, fun_mk (st := r__law_part.st) l20 c20 k20, (fun_mk (st := r__law_part.st) l20 c20 k20).binds (ps := r__law_part.ps) fun _ _ _ _ _ _ us hl => match us, hl with | [_], _ => rfl⟩
  have d21 : Def K mg r__law_put_in := ⟨f21, _, PySem.W.mg_of X G a21, fun_mk (st := r__law_put_in.st) l21 c21 k21, (fun_mk (st := r__law_put_in.st) l21 c21 k21).binds (ps := r__law_put_in.ps) fun _ _ _ _ _ _ us hl => match us, hl with | [_, _], _ => rfl⟩
  have d22 : Def K mg r__law_padded := ⟨f22, _, PySem.W.mg_of X G a22, fun_mk (st := r__law_padded.st) l22 c22 k22, (fun_mk (st := r__law_padded.st) l22 c22 k22).binds (ps := r__law_padded.ps) fun _ _ _ _ _ _ us hl => match us, hl with | [_, _], _ => rfl⟩
  have d23 : Def K mg r__law_slowed := ⟨f23, _, PySem.W.mg_of X G a23, fun_mk (st := r__law_slowed.st) l23 c23 k23, (fun_mk (st := r__law_slowed.st) l23 c23 k23).binds (ps := r__law_slowed.ps) fun _ _ _ _ _ _ us hl => match us, hl with | [_, _], _ => rfl⟩
  have d24 : Def K mg r__law_steady := ⟨f24, _, PySem.W.mg_of X G a24, fun_mk (st := r__law_steady.st) l24 c24 k24, (fun_mk (st := r__law_steady.st) l24 c24 k24).binds (ps := r__law_steady.ps) fun _ _ _ _ _ _ us hl => match us, hl with | [_], _ => rfl⟩
  have d25 : Def K mg r__law_any_text := ⟨f25, _, PySem.W.mg_of X G a25, fun_mk (st := r__law_any_text.st) l25 c25 k25, (fun_mk (st := r__law_any_text.st) l25 c25 k25).binds (ps := r__law_any_text.ps) fun _ _ _ _ _ _ us hl => match us, hl with | [_], _ => rfl⟩
  have d26 : Def K mg r__law_expression := ⟨f26, _, PySem.W.mg_of X G a26, fun_mk (st := r__law_expression.st) l26 c26 k26, (fun_mk (st := r__law_expression.st) l26 c26 k26).binds (ps := r__law_expression.ps) fun _ _ _ _ _ _ us hl => match us, hl with | [_], _ => rfl⟩
  have d27 : Def K mg r__law_asker := ⟨f27, _, PySem.W.mg_of X G a27, fun_mk (st := r__law_asker.st) l27 c27 k27, (fun_mk (st := r__law_asker.st) l27 c27 k27).binds (ps := r__law_asker.ps) fun _ _ _ _ _ _ us hl => match us, hl with | [_], _ => rfl⟩
  have d28 : Def K mg r__law_looker := ⟨f28, _, PySem.W.mg_of X G a28, fun_mk (st := r__law_looker.st) l28 c28 k28, (fun_mk (st := r__law_looker.st) l28 c28 k28).binds (ps := r__law_looker.ps) fun _ _ _ _ _ _ us hl => match us, hl with | [_], _ => rfl⟩
  have d29 : Def K mg r__law_reader := ⟨f29, _, PySem.W.mg_of X G a29, fun_mk (st := r__law_reader.st) l29 c29 k29, (fun_mk (st := r__law_reader.st) l29 c29 k29).binds (ps := r__law_reader.ps) fun _ _ _ _ _ _ us hl => match us, hl with | [_], _ => rfl⟩
  have d30 : Def K mg r__law_is := ⟨f30, _, PySem.W.mg_of X G a30, fun_mk (st := r__law_is.st) l30 c30 k30, (fun_mk (st := r__law_is.st) l30 c30 k30).binds (ps := r__law_is.ps) fun _ _ _ _ _ _ us hl => match us, hl with | [_, _], _ => rfl⟩
  have d31 : Def K mg r__law_line := ⟨f31, _, PySem.W.mg_of X G a31, fun_mk (st := r__law_line.st) l31 c31 k31, (fun_mk (st := r__law_line.st) l31 c31 k31).binds (ps := r__law_line.ps) fun _ _ _ _ _ _ us hl => match us, hl with | [_, _], _ => rfl⟩
  have d32 : Def K mg r__law_reason := ⟨f32, _, PySem.W.mg_of X G a32, fun_mk (st := r__law_reason.st) l32 c32 k32, (fun_mk (st := r__law_reason.st) l32 c32 k32).binds (ps := r__law_reason.ps) fun _ _ _ _ _ _ us hl => match us, hl with | [_, _, _, _, _], _ => rfl⟩
  have d33 : Def K mg r__law_paper := ⟨f33, _, PySem.W.mg_of X G a33, fun_mk (st := r__law_paper.st) l33 c33 k33, (fun_mk (st := r__law_paper.st) l33 c33 k33).binds (ps := r__law_paper.ps) fun _ _ _ _ _ _ us hl => match us, hl with | [_, _, _, _, _, _, _, _, _], _ => rfl⟩
  have d34 : Def K mg r__law_thawed := ⟨f34, _, PySem.W.mg_of X G a34, fun_mk (st := r__law_thawed.st) l34 c34 k34, (fun_mk (st := r__law_thawed.st) l34 c34 k34).binds (ps := r__law_thawed.ps) fun _ _ _ _ _ _ us hl => match us, hl with | [_], _ => rfl⟩
  have d35 : Def K mg r_law := ⟨f35, _, PySem.W.mg_of X G a35, fun_mk (st := r_law.st) l35 c35 k35, (fun_mk (st := r_law.st) l35 c35 k35).binds (ps := r_law.ps) fun _ _ _ _ _ _ us hl => match us, hl with | [_], _ => rfl⟩
  have e := hfa.symm.trans (PySem.W.mg_of X G a35)
  cases e
  refine ⟨PySem.W.fnOf "law" "law" (defArgs r_law.st) (defBody r_law.st) (defScope r_law.st) .none kV35 dc35 pm35 an35 cd35 ct35, fun s v => .of_eq rfl, fun base _ _ => ?_⟩
  have ds : ∀ r ∈ recs, Def K mg r := by
    intro r hr
    simp only [recs, List.mem_cons, List.not_mem_nil, or_false] at hr
    rcases hr with rfl | rfl | rfl | rfl | rfl | rfl | rfl | rfl | rfl | rfl | rfl | rfl | rfl | rfl | rfl | rfl | rfl | rfl | rfl | rfl | rfl | rfl | rfl | rfl | rfl | rfl | rfl | rfl | rfl | rfl | rfl | rfl | rfl | rfl | rfl | rfl
    · exact d0
    · exact d1
    · exact d2
    · exact d3
    · exact d4
    · exact d5
    · exact d6
    · exact d7
    · exact d8
    · exact d9
    · exact d10
    · exact d11
    · exact d12
    · exact d13
    · exact d14
    · exact d15
    · exact d16
    · exact d17
    · exact d18
    · exact d19
    · exact d20
    · exact d21
    · exact d22
    · exact d23
    · exact d24
    · exact d25
    · exact d26
    · exact d27
    · exact d28
    · exact d29
    · exact d30
    · exact d31
    · exact d32
    · exact d33
    · exact d34
    · exact d35
  have bl : ∀ x, blt.contains x = true → mg x = none := by
    intro x hx
    simp only [blt, List.contains_cons, List.contains_nil, Bool.or_false, Bool.or_eq_true, beq_iff_eq] at hx
    rcases hx with rfl | rfl | rfl | rfl | rfl | rfl | rfl | rfl | rfl | rfl | rfl
    · exact PySem.W.mg_none_of X G z0
    · exact PySem.W.mg_none_of X G z1
    · exact PySem.W.mg_none_of X G z2
    · exact PySem.W.mg_none_of X G z3
    · exact PySem.W.mg_none_of X G z4
    · exact PySem.W.mg_none_of X G z5
    · exact PySem.W.mg_none_of X G z6
    · exact PySem.W.mg_none_of X G z7
    · exact PySem.W.mg_none_of X G z8
    · exact PySem.W.mg_none_of X G z9
    · exact PySem.W.mg_none_of X G z10
  have hks : ∀ (x : Str) (p : PV), kst.lookup x = some p → ∃ u v, mg x = some u ∧ RelV v u ∧ ∀ m, RV ⟨K, [], [], []⟩ m p v := by
    intro x p hx
    unfold kst at hx
    simp only [List.lookup] at hx
    repeat' split at hx
    all_goals first | (cases hx; done) | skip
    all_goals (rename_i hy; have hy := beq_iff_eq.mp hy; subst hy; cases hx)
    · exact ⟨_, .str (sOf [48, 49, 50, 51, 52, 53, 54, 55, 56, 57, 97, 98, 99, 111, 117, 35, 34, 110, 116, 113, 43, 45, 47, 126, 61, 60, 115, 114, 38, 63, 64, 33, 46]), PySem.W.mg_of X G q0, ⟨_, rfl⟩, fun _ => rfl⟩
    · exact ⟨_, .str (sOf [48, 49, 50, 51, 52, 53, 54, 55, 56, 57]), PySem.W.mg_of X G q1, ⟨_, rfl⟩, fun _ => rfl⟩
    · exact ⟨_, .str (sOf [97, 98, 99, 100, 101, 102, 103, 104, 105, 106, 107, 108, 109, 110, 111, 112, 113, 114, 115, 116, 117, 118, 119, 120, 121, 122]), PySem.W.mg_of X G q2, ⟨_, rfl⟩, fun _ => rfl⟩
  obtain ⟨fa', fd', h1, h2, h3, h4⟩ := prog_ok (T := ⟨K, [], [], []⟩) (G := G0) (rs := recs) (bs := bodies) (ks := kst) (blt := blt) (prog := PySem.Challenge.rw_onlylength_k90_notes_read_back.prog) (w := w) (mg := mg) (base := base) kok sc_all comp_all hks bl ds 40 35 r_law rfl
  have e2 := h1.symm.trans (PySem.W.mg_of X G a35)
  cases e2
  obtain ⟨oc, od, kV, doc, pm, an, cdv, ct, osl, rfl, lk, _⟩ := h2.ex
  have e3 := lk.symm.trans l35
  cases e3
  exact h4
end K90
open PySem PySem.W PyProof.Rows
set_option maxHeartbeats 0 in
theorem PySem.Challenge.cw_onlylength_k90_notes_read_back_holds : PySem.Challenge.rw_onlylength_k90_notes_read_back.Holds := by
  w_on; o_law; k_head; (case hw => w_witness2)
  k_fill
  refine L2.walk_of (l := PySem.Challenge.rw_onlylength_k90_notes_read_back) (n := 63) (k := 40) (x := "script") (CX := fun w => L2.CX PySem.Challenge.rw_onlylength_k90_notes_read_back.prog w) (sp := fun w => Fw.spOf ⟨_, [], [], []⟩ (Fw.semF K90.G0 (Fw.prgOf K90.recs K90.bodies) 40 35) 1) rfl (by decide) rfl ⟨rfl, by decide, by decide⟩ (fun w h Y => PySem.W.kIn_of Y) ?F (fun _ H a ns hl ho hS => Fw.law_sp ho hS (K90.law_math ns hl)) (fun _ _ _ _ _ h => Fw.cx_never h)
  case F =>
    intro w mg fa h KX G hmg
    refine' K90.all_mk KX G hmg ?a0 ?l0 ?c0 ?k0 ?a1 ?l1 ?c1 ?k1 ?a2 ?l2 ?c2 ?k2 ?a3 ?l3 ?c3 ?k3 ?a4 ?l4 ?c4 ?k4 ?a5 ?l5 ?c5 ?k5 ?a6 ?l6 ?c6 ?k6 ?a7 ?l7 ?c7 ?k7 ?a8 ?l8 ?c8 ?k8 ?a9 ?l9 ?c9 ?k9 ?a10 ?l10 ?c10 ?k10 ?a11 ?l11 ?c11 ?k11 ?a12 ?l12 ?c12 ?k12 ?a13 ?l13 ?c13 ?k13 ?a14 ?l14 ?c14 ?k14 ?a15 ?l15 ?c15 ?k15 ?a16 ?l16 ?c16 ?k16 ?a17 ?l17 ?c17 ?k17 ?a18 ?l18 ?c18 ?k18 ?a19 ?l19 ?c19 ?k19 ?a20 ?l20 ?c20 ?k20 ?a21 ?l21 ?c21 ?k21 ?a22 ?l22 ?c22 ?k22 ?a23 ?l23 ?c23 ?k23 ?a24 ?l24 ?c24 ?k24 ?a25 ?l25 ?c25 ?k25 ?a26 ?l26 ?c26 ?k26 ?a27 ?l27 ?c27 ?k27 ?a28 ?l28 ?c28 ?k28 ?a29 ?l29 ?c29 ?k29 ?a30 ?l30 ?c30 ?k30 ?a31 ?l31 ?c31 ?k31 ?a32 ?l32 ?c32 ?k32 ?a33 ?l33 ?c33 ?k33 ?a34 ?l34 ?c34 ?k34 ?a35 ?l35 ?c35 ?k35 ?z0 ?z1 ?z2 ?z3 ?z4 ?z5 ?z6 ?z7 ?z8 ?z9 ?z10 ?q0 ?q1 ?q2
    (case a0 => k_is); (case l0 => k_is); (case c0 => k_is); (case k0 => k_is); (case a1 => k_is); (case l1 => k_is); (case c1 => k_is); (case k1 => k_is); (case a2 => k_is); (case l2 => k_is); (case c2 => k_is); (case k2 => k_is); (case a3 => k_is); (case l3 => k_is); (case c3 => k_is); (case k3 => k_is); (case a4 => k_is); (case l4 => k_is); (case c4 => k_is); (case k4 => k_is); (case a5 => k_is); (case l5 => k_is); (case c5 => k_is); (case k5 => k_is); (case a6 => k_is); (case l6 => k_is); (case c6 => k_is); (case k6 => k_is); (case a7 => k_is); (case l7 => k_is); (case c7 => k_is); (case k7 => k_is); (case a8 => k_is); (case l8 => k_is); (case c8 => k_is); (case k8 => k_is); (case a9 => k_is); (case l9 => k_is); (case c9 => k_is); (case k9 => k_is); (case a10 => k_is); (case l10 => k_is); (case c10 => k_is); (case k10 => k_is); (case a11 => k_is); (case l11 => k_is); (case c11 => k_is); (case k11 => k_is); (case a12 => k_is); (case l12 => k_is); (case c12 => k_is); (case k12 => k_is); (case a13 => k_is); (case l13 => k_is); (case c13 => k_is); (case k13 => k_is); (case a14 => k_is); (case l14 => k_is); (case c14 => k_is); (case k14 => k_is); (case a15 => k_is); (case l15 => k_is); (case c15 => k_is); (case k15 => k_is); (case a16 => k_is); (case l16 => k_is); (case c16 => k_is); (case k16 => k_is); (case a17 => k_is); (case l17 => k_is); (case c17 => k_is); (case k17 => k_is); (case a18 => k_is); (case l18 => k_is); (case c18 => k_is); (case k18 => k_is); (case a19 => k_is); (case l19 => k_is); (case c19 => k_is); (case k19 => k_is); (case a20 => k_is); (case l20 => k_is); (case c20 => k_is); (case k20 => k_is); (case a21 => k_is); (case l21 => k_is); (case c21 => k_is); (case k21 => k_is); (case a22 => k_is); (case l22 => k_is); (case c22 => k_is); (case k22 => k_is); (case a23 => k_is); (case l23 => k_is); (case c23 => k_is); (case k23 => k_is); (case a24 => k_is); (case l24 => k_is); (case c24 => k_is); (case k24 => k_is); (case a25 => k_is); (case l25 => k_is); (case c25 => k_is); (case k25 => k_is); (case a26 => k_is); (case l26 => k_is); (case c26 => k_is); (case k26 => k_is); (case a27 => k_is); (case l27 => k_is); (case c27 => k_is); (case k27 => k_is); (case a28 => k_is); (case l28 => k_is); (case c28 => k_is); (case k28 => k_is); (case a29 => k_is); (case l29 => k_is); (case c29 => k_is); (case k29 => k_is); (case a30 => k_is); (case l30 => k_is); (case c30 => k_is); (case k30 => k_is); (case a31 => k_is); (case l31 => k_is); (case c31 => k_is); (case k31 => k_is); (case a32 => k_is); (case l32 => k_is); (case c32 => k_is); (case k32 => k_is); (case a33 => k_is); (case l33 => k_is); (case c33 => k_is); (case k33 => k_is); (case a34 => k_is); (case l34 => k_is); (case c34 => k_is); (case k34 => k_is); (case a35 => k_is); (case l35 => k_is); (case c35 => k_is); (case k35 => k_is); (case z0 => k_is); (case z1 => k_is); (case z2 => k_is); (case z3 => k_is); (case z4 => k_is); (case z5 => k_is); (case z6 => k_is); (case z7 => k_is); (case z8 => k_is); (case z9 => k_is); (case z10 => k_is); (case q0 => k_is); (case q1 => k_is); (case q2 => k_is)
