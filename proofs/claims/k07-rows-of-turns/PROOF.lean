import PyProof.Rows.All
import Wide.All
import OpenK.AllK
import Wide.FinOn
import HandS.ForMost
import HandS.Exc
import HandS.ExcOwn
import HandS.WordsExc
import HandS.Slots
import HandS.Lambda
import HandS.TupMul
import HandS.IsInst
import HandS.SortInts
import HandS.SortRule
import HandS.Conv
import HandS.TupLen
import HandS.TupAny
import HandS.Walk
import HandS.Star
import HandS.Property
import HandS.SlotsOwn
import KE.GoesEnum
import HandS.AnyAll
import HandS.MakeKwOnly
import KE.DataMinMax
import KE.DataFind
import KE.DataCmp
import KE.DataEq
import HandS.Remove
import HandS.DictTup
import HandS.DictSubView
import HandS.DictComp
import HandS.Small
import HandS.Style
import PyProof.InstNe
import HandS.Zip
import HandS.Text
import HandS.FStr
import KE.KWithOwn
import KE.SortData
import PyProof.ReprBulk
import HandS.ExcValue
import KE.KExcSuper
import KE.KExcInit
import HandS.TryMany
import KE.KDflt
import KE.KIsAll
import KE.KTryMore
import KE.KExcIs
import HandS.ExcField
import HandS.EndTab
import KE.KNest
import KE.KNestM
import HandS.ExcIs
import HandS.NamedTupGet
import PyProof.FactsLen
import HandS.Deep
import PySem.Challenge.RW_likepairs_k07_rows_of_turns
set_option Elab.async false
set_option linter.all false
set_option maxRecDepth 100000
set_option maxHeartbeats 1000000
/-! Dn, part A: deep values, the heap of what can change, how they lie in the hand layer's heap. -/
namespace Dn
open PySem L2

/-- a value; tuples by what they hold -/
inductive AV where
  | non | bl (b : Bool) | int (i : Int) | str (x : Str) | ty (n : String) | scr (ns : List Int) | obj (n : Nat) | tup (xs : List AV)

/-- what can change -/
inductive AO where
  | lst (xs : List AV)
  | dK (kvs : List (Key × AV))
  | dT (kvs : List (List Key × AV))
  | ins (c : Nat) (fs : List AV)
  | slt (c : Nat) (fs : List (Option AV))
  | lk (kvs : List (List Key × AV))
  | exn (c : Nat) (fs : List AV)
  | unk

abbrev AH := List AO
structure Cfg where
  K : PySem.W.Frag
  cls : Nat → Addr
  nam : Nat → List Str
  lam : List (Str × Addr × Addr) := []
/-- the tables of code objects of the defs that make lambdas, and the lambdas' names -/
def Cfg.tab (cf : Cfg) : List (Addr × Str) := cf.lam.map fun q => (q.2.2, q.1 ++ ".<locals>." ++ "<lambda>")

def FrzL (K : PySem.W.Frag) (H : Hp) (a : Addr) (xs : List V) : Prop :=
  (∃ o, H a = some (.frz o (.lst xs))) ∨
    ∃ (o : Obj) (its : Array Value) (n : Nat), K.lookup a = some o ∧ o.cls = .type "list" ∧ o.dict = none ∧ o.data = .seq its n ∧ its.size ≤ sizeLine ∧ Vals xs its.toList
theorem FrzL.sq {K : PySem.W.Frag} {H : Hp} {a : Addr} {xs : List V} (h : FrzL K H a xs) : SqL K H a xs := by
  rcases h with h | h
  · exact .inl (.inr h)
  · exact .inr h

mutual
inductive RelA (K : PySem.W.Frag) (m : List Addr) (H : Hp) : AV → V → Prop
  | non : RelA K m H .non .non
  | bl (b : Bool) : RelA K m H (.bl b) (.bl b)
  | int (i : Int) : RelA K m H (.int i) (.int i)
  | str (x : Str) : RelA K m H (.str x) (.str x)
  | ty (n : String) : RelA K m H (.ty n) (.ty n)
  | scr {ns : List Int} {a : Addr} (h : FrzL K H a (ns.map V.int)) : RelA K m H (.scr ns) (.ref a)
  | obj {n : Nat} {a : Addr} (h : m[n]? = some a) : RelA K m H (.obj n) (.ref a)
  | tup {a : Addr} {xs : List AV} {vs : List V} (h : H a = some (.tup vs)) (r : RelAs K m H xs vs) : RelA K m H (.tup xs) (.ref a)
inductive RelAs (K : PySem.W.Frag) (m : List Addr) (H : Hp) : List AV → List V → Prop
  | nil : RelAs K m H [] []
  | cons {x : AV} {v : V} {xs : List AV} {vs : List V} (h : RelA K m H x v) (t : RelAs K m H xs vs) : RelAs K m H (x :: xs) (v :: vs)
end

/-- tuples and what is frozen stay -/
structure Fz (H H' : Hp) : Prop where
  tup : ∀ a xs, H a = some (.tup xs) → H' a = some (.tup xs)
  frz : ∀ a o u, H a = some (.frz o u) → H' a = some (.frz o u)
theorem Fz.refl (H : Hp) : Fz H H := ⟨fun _ _ h => h, fun _ _ _ h => h⟩
theorem Fz.trans {H H1 H2 : Hp} (a : Fz H H1) (b : Fz H1 H2) : Fz H H2 := ⟨fun c x h => b.tup c x (a.tup c x h), fun c o u h => b.frz c o u (a.frz c o u h)⟩
theorem FrzL.mono {K : PySem.W.Frag} {H H' : Hp} {a : Addr} {xs : List V} (f : Fz H H') (h : FrzL K H a xs) : FrzL K H' a xs := by
  rcases h with ⟨o, h⟩ | h
  · exact .inl ⟨o, f.frz _ _ _ h⟩
  · exact .inr h

/-- the places are kept, more may come -/
def Pre (m m' : List Addr) : Prop := ∀ (n : Nat) (a : Addr), m[n]? = some a → m'[n]? = some a
theorem Pre.refl (m : List Addr) : Pre m m := fun _ _ h => h
theorem Pre.trans {m m1 m2 : List Addr} (a : Pre m m1) (b : Pre m1 m2) : Pre m m2 := fun n c h => b n c (a n c h)
theorem Pre.app (m l : List Addr) : Pre m (m ++ l) := fun n a h => by
  obtain ⟨hl, _⟩ := List.getElem?_eq_some_iff.mp h
  rw [List.getElem?_append_left hl]
  exact h

mutual
theorem RelA.mono {K : PySem.W.Frag} {m m' : List Addr} {H H' : Hp} (p : Pre m m') (f : Fz H H') : ∀ {x : AV} {v : V}, RelA K m H x v → RelA K m' H' x v
  | _, _, .non => .non
  | _, _, .bl b => .bl b
  | _, _, .int i => .int i
  | _, _, .str x => .str x
  | _, _, .ty x => .ty x
  | _, _, .scr h => .scr (h.mono f)
  | _, _, .obj h => .obj (p _ _ h)
  | _, _, .tup h r => .tup (f.tup _ _ h) (RelAs.mono p f r)
theorem RelAs.mono {K : PySem.W.Frag} {m m' : List Addr} {H H' : Hp} (p : Pre m m') (f : Fz H H') : ∀ {xs : List AV} {vs : List V}, RelAs K m H xs vs → RelAs K m' H' xs vs
  | _, _, .nil => .nil
  | _, _, .cons h t => .cons (RelA.mono p f h) (RelAs.mono p f t)
end
section
variable {K : PySem.W.Frag} {m m' : List Addr} {H H' : Hp}
theorem RelAs.length : ∀ {xs : List AV} {vs : List V}, RelAs K m H xs vs → xs.length = vs.length
  | _, _, .nil => rfl
  | _, _, .cons _ t => by rw [List.length_cons, List.length_cons, RelAs.length t]
theorem RelAs.get : ∀ {xs : List AV} {vs : List V} {i : Nat} {x : AV}, RelAs K m H xs vs → xs[i]? = some x → ∃ v, vs[i]? = some v ∧ RelA K m H x v
  | _, _, _, _, .nil, e => by simp at e
  | _, _, 0, _, .cons r _, e => by
    simp at e
    subst e
    exact ⟨_, rfl, r⟩
  | _, _, i + 1, x, .cons _ t, e => by
    obtain ⟨u, h1, h2⟩ := RelAs.get (i := i) (x := x) t (by simpa using e)
    exact ⟨u, by simpa using h1, h2⟩
theorem RelAs.get' : ∀ {xs : List AV} {vs : List V} {i : Nat} {v : V}, RelAs K m H xs vs → vs[i]? = some v → ∃ x, xs[i]? = some x ∧ RelA K m H x v
  | _, _, _, _, .nil, e => by simp at e
  | _, _, 0, _, .cons r _, e => by
    simp at e
    subst e
    exact ⟨_, rfl, r⟩
  | _, _, i + 1, x, .cons _ t, e => by
    obtain ⟨u, h1, h2⟩ := RelAs.get' (i := i) (v := x) t (by simpa using e)
    exact ⟨u, by simpa using h1, h2⟩
theorem RelAs.app : ∀ {xs ys : List AV} {vs ws : List V}, RelAs K m H xs vs → RelAs K m H ys ws → RelAs K m H (xs ++ ys) (vs ++ ws)
  | _, _, _, _, .nil, s => s
  | _, _, _, _, .cons r t, s => .cons r (RelAs.app t s)
theorem RelAs.set {x : AV} {v : V} (r : RelA K m H x v) : ∀ {xs : List AV} {vs : List V} (i : Nat), RelAs K m H xs vs → RelAs K m H (xs.set i x) (vs.set i v)
  | _, _, _, .nil => .nil
  | _, _, 0, .cons _ t => .cons r t
  | _, _, i + 1, .cons q t => .cons q (RelAs.set r i t)
theorem RelAs.erase : ∀ {xs : List AV} {vs : List V} (i : Nat), RelAs K m H xs vs → RelAs K m H (xs.eraseIdx i) (vs.eraseIdx i)
  | _, _, _, .nil => .nil
  | _, _, 0, .cons _ t => t
  | _, _, i + 1, .cons q t => .cons q (RelAs.erase i t)
theorem RelAs.take : ∀ {xs : List AV} {vs : List V} (n : Nat), RelAs K m H xs vs → RelAs K m H (xs.take n) (vs.take n)
  | _, _, 0, _ => .nil
  | _, _, _ + 1, .nil => .nil
  | _, _, n + 1, .cons r t => .cons r (RelAs.take n t)
theorem RelAs.drop : ∀ {xs : List AV} {vs : List V} (n : Nat), RelAs K m H xs vs → RelAs K m H (xs.drop n) (vs.drop n)
  | _, _, 0, r => r
  | _, _, _ + 1, .nil => .nil
  | _, _, n + 1, .cons _ t => RelAs.drop n t
theorem RelAs.rev : ∀ {xs : List AV} {vs : List V}, RelAs K m H xs vs → RelAs K m H xs.reverse vs.reverse
  | _, _, .nil => .nil
  | _, _, .cons r t => by
    rw [List.reverse_cons, List.reverse_cons]
    exact (RelAs.rev t).app (.cons r .nil)
theorem RelAs.ints : ∀ (ns : List Int), RelAs K m H (ns.map AV.int) (ns.map V.int)
  | [] => .nil
  | n :: ns => .cons (.int n) (RelAs.ints ns)
theorem RelA.to_int {i : Int} {v : V} (r : RelA K m H (.int i) v) : v = .int i := by cases r; rfl
theorem RelA.to_bl {i : Bool} {v : V} (r : RelA K m H (.bl i) v) : v = .bl i := by cases r; rfl
theorem RelA.to_str {i : Str} {v : V} (r : RelA K m H (.str i) v) : v = .str i := by cases r; rfl
theorem RelA.to_non {v : V} (r : RelA K m H .non v) : v = .non := by cases r; rfl
theorem RelA.to_obj {n : Nat} {v : V} (r : RelA K m H (.obj n) v) : ∃ a, m[n]? = some a ∧ v = .ref a := by
  cases r with
  | obj h => exact ⟨_, h, rfl⟩
theorem RelA.to_tup {xs : List AV} {v : V} (r : RelA K m H (.tup xs) v) : ∃ a vs, v = .ref a ∧ H a = some (.tup vs) ∧ RelAs K m H xs vs := by
  cases r with
  | tup h r => exact ⟨_, _, rfl, h, r⟩
end

/-- the pairs of a dict -/
def RelKV {κ : Type} (K : PySem.W.Frag) (m : List Addr) (H : Hp) : List (κ × AV) → List (κ × V) → Prop := Paired fun p q => p.1 = q.1 ∧ RelA K m H p.2 q.2
theorem RelKV.mono {κ : Type} {K : PySem.W.Frag} {m m' : List Addr} {H H' : Hp} (p : Pre m m') (f : Fz H H') {xs : List (κ × AV)} {vs : List (κ × V)} (r : RelKV K m H xs vs) : RelKV K m' H' xs vs :=
  Paired.mapP r fun _ _ h => ⟨h.1, h.2.mono p f⟩

def RelOA (K : PySem.W.Frag) (m : List Addr) (H : Hp) : Option AV → Option V → Prop
  | some x, some v => RelA K m H x v
  | none, none => True
  | _, _ => False
def RelOs (K : PySem.W.Frag) (m : List Addr) (H : Hp) : List (Option AV) → List (Option V) → Prop := Paired (RelOA K m H)
theorem RelOA.mono {K : PySem.W.Frag} {m m' : List Addr} {H H' : Hp} (p : Pre m m') (f : Fz H H') : ∀ {x : Option AV} {v : Option V}, RelOA K m H x v → RelOA K m' H' x v
  | some _, some _, h => RelA.mono p f h
  | none, none, _ => trivial
  | some _, none, h => h.elim
  | none, some _, h => h.elim
theorem RelOs.mono {K : PySem.W.Frag} {m m' : List Addr} {H H' : Hp} (p : Pre m m') (f : Fz H H') {xs : List (Option AV)} {vs : List (Option V)} (r : RelOs K m H xs vs) : RelOs K m' H' xs vs := Paired.mapP r fun _ _ h => h.mono p f
/-- an exception that was caught: its class, its own dict -/
def ExoH (cls : Value) (d : Option Addr) (a : Addr) : HO := .ext fun h => ∃ (oe : Obj) (vs : Array Value), h.get? a = some oe ∧ oe.cls = cls ∧ oe.dict = d ∧ oe.data = .fields vs
/-- the kinds of what stands at the places -/
def Mn : HO → Prop
  | .lst _ => True
  | .dK _ => True
  | .dT _ => True
  | .ins _ _ _ => True
  | .ext φ => ∀ c q, HO.ext φ ≠ LamX.CodeO c q
  | _ => False
/-- a heap of one code object and what stands below it -/
def oneH (o : Obj) : Nat → Heap
  | 0 => (⟨#[], {}⟩ : Heap).push o
  | n + 1 => (oneH o n).push o
theorem oneH_size {o : Obj} : ∀ n, (oneH o n).objs.size = n + 1
  | 0 => by
    unfold oneH
    rw [Heap.size_push]
    rfl
  | n + 1 => by
    unfold oneH
    rw [Heap.size_push, oneH_size n]
theorem oneH_at {o : Obj} (h : o.isFreed = false) : ∀ n, (oneH o n).get? n = some o
  | 0 => by
    unfold oneH
    exact Heap.get?_push_at rfl h
  | n + 1 => by
    unfold oneH
    exact Heap.get?_push_at (by rw [oneH_size n]) h
theorem push_lt {h : Heap} {o u : Obj} {a : Addr} (hl : a < h.objs.size) (e : (h.push o).get? a = some u) : h.get? a = some u := by
  obtain ⟨e1, e2⟩ := Heap.get?_some_iff.mp e
  refine Heap.get?_some_iff.mpr ⟨?_, e2⟩
  obtain ⟨objs, l⟩ := h
  have hl' : a < objs.size := hl
  have e1' : (objs.push o)[a]? = some u := e1
  rw [Array.getElem?_push, if_neg (Nat.ne_of_lt hl')] at e1'
  exact e1'
theorem oneH_all {o : Obj} (hf : o.isFreed = false) : ∀ n a u, (oneH o n).get? a = some u → u = o
  | 0, a, u, e => by
    have hl : a < 0 + 1 := by
      have := Heap.lt_size e
      rwa [oneH_size] at this
    have : a = 0 := Nat.lt_one_iff.mp hl
    subst this
    rw [oneH_at hf 0] at e
    exact (Option.some.inj e).symm
  | n + 1, a, u, e => by
    have hl : a < n + 1 + 1 := by
      have := Heap.lt_size e
      rwa [oneH_size] at this
    rcases Nat.lt_succ_iff_lt_or_eq.mp hl with z | z
    · refine oneH_all hf n a u (push_lt (o := o) ?_ e)
      rw [oneH_size]
      exact z
    · subst z
      rw [oneH_at hf (n + 1)] at e
      exact (Option.some.inj e).symm
/-- what asks for an object of an own class is no code object -/
theorem noCode {φ : Heap → Prop} (h : ∀ g, φ g → ∃ a o, g.get? a = some o ∧ o.cls ≠ .none) (c : Addr) (q : Str) : HO.ext φ ≠ LamX.CodeO c q := fun z => by
  unfold LamX.CodeO at z
  have e := HO.ext.inj z
  have hc := oneH_at (o := { cls := .none, data := .fields #[.none, .str q default] }) rfl c
  have h1 : φ (oneH { cls := .none, data := .fields #[.none, .str q default] } c) := by
    rw [e]
    exact ⟨_, _, _, hc, rfl, rfl⟩
  obtain ⟨a, o, ho, hn⟩ := h _ h1
  exact hn (by rw [oneH_all rfl _ _ _ ho])
theorem exoH_mn {C : Addr} {d : Option Addr} {a : Addr} : Mn (ExoH (.ref C) d a) := fun c q => noCode (fun g h => by
  obtain ⟨oe, vs, h1, h2, _⟩ := h
  exact ⟨a, oe, h1, by rw [h2]; exact fun z => by cases z⟩) c q
theorem slO_mn {a C dx : Addr} {vs : List (Option V)} : Mn (SlX.SlO a C dx vs) := fun c q => noCode (fun g h => by
  obtain ⟨sl, h1, _⟩ := h
  exact ⟨a, _, h1, fun z => by cases z⟩) c q
def ObjS (cf : Cfg) (m : List Addr) (H : Hp) (a : Addr) : AO → Prop
  | .lst xs => ∃ vs, H a = some (.lst vs) ∧ RelAs cf.K m H xs vs
  | .dK kvs => ∃ vs, H a = some (.dK vs) ∧ RelKV cf.K m H kvs vs
  | .dT kvs => ∃ vs, H a = some (.dT vs) ∧ RelKV cf.K m H kvs vs
  | .ins c fs => ∃ dx vs, H a = some (.ins (cf.cls c) dx (((cf.nam c).zip vs))) ∧ fs.length ≤ (cf.nam c).length ∧ RelAs cf.K m H fs vs
  | .slt c fs => ∃ dx vs, dx ≠ a ∧ ((H a = some (.ins (cf.cls c) dx []) ∧ vs = [] ∧ H dx = some (.own a)) ∨ (H a = some (SlX.SlO a (cf.cls c) dx vs) ∧ H dx = some (.xd []))) ∧ RelOs cf.K m H fs vs
  | .lk kvs => ∃ o vs, H a = some (.frz o (.dT vs)) ∧ RelKV cf.K m H kvs vs
  | .exn c fs => (fs = [] ∧ H a = some (ExoH (.ref (cf.cls c)) none a)) ∨ ∃ dd vs, dd ≠ a ∧ H a = some (ExoH (.ref (cf.cls c)) (some dd) a) ∧ H dd = some (.xd ((cf.nam c).zip vs)) ∧ fs.length ≤ (cf.nam c).length ∧ RelAs cf.K m H fs vs
  | .unk => ∃ u, H a = some u ∧ Mn u

structure Sim (cf : Cfg) (m : List Addr) (H : Hp) (A : AH) : Prop where
  len : m.length = A.length
  nd : m.Nodup
  at_ : ∀ (n : Nat) (a : Addr) (o : AO), m[n]? = some a → A[n]? = some o → ObjS cf m H a o
  tab : LamX.Tabs cf.tab H

/-- the same, or a dict that is locked -/
def Mp : HO → Prop
  | .lst _ => True
  | .dK _ => True
  | .dT _ => True
  | .ins _ _ _ => True
  | .ext _ => True
  | .frz _ (.dT _) => True
  | _ => False
theorem ObjS.main {cf : Cfg} {m : List Addr} {H : Hp} {a : Addr} {o : AO} (h : ObjS cf m H a o) : ∃ u, H a = some u ∧ Mp u := by
  cases o with
  | lst xs => obtain ⟨vs, e, _⟩ := h; exact ⟨_, e, trivial⟩
  | dK xs => obtain ⟨vs, e, _⟩ := h; exact ⟨_, e, trivial⟩
  | dT xs => obtain ⟨vs, e, _⟩ := h; exact ⟨_, e, trivial⟩
  | ins c fs => obtain ⟨dx, vs, e, _⟩ := h; exact ⟨_, e, trivial⟩
  | slt c fs =>
    obtain ⟨dx, vs, _, h, _⟩ := h
    rcases h with ⟨e, _⟩ | ⟨e, _⟩
    · exact ⟨_, e, trivial⟩
    · exact ⟨_, e, trivial⟩
  | lk kvs => obtain ⟨o, vs, e, _⟩ := h; exact ⟨_, e, trivial⟩
  | exn c fs =>
    rcases h with ⟨_, e⟩ | ⟨_, _, _, e, _⟩
    · exact ⟨_, e, trivial⟩
    · exact ⟨_, e, trivial⟩
  | unk =>
    obtain ⟨u, e, h⟩ := h
    refine ⟨u, e, ?_⟩
    cases u <;> first | trivial | exact h.elim
/-- an object whose own address, dict and tuples stay -/
theorem ObjS.stay {cf : Cfg} {m m' : List Addr} {H H' : Hp} {a : Addr} {o : AO} (h : ObjS cf m H a o) (p : Pre m m') (f : Fz H H') (ha : ∀ u, H a = some u → H' a = some u)
    (hd : ∀ c u, H c = some u → (u = .own a ∨ ∃ fs, u = .xd fs) → H' c = some u) : ObjS cf m' H' a o := by
  cases o with
  | lst xs => obtain ⟨vs, e, r⟩ := h; exact ⟨vs, ha _ e, r.mono p f⟩
  | dK xs => obtain ⟨vs, e, r⟩ := h; exact ⟨vs, ha _ e, r.mono p f⟩
  | dT xs => obtain ⟨vs, e, r⟩ := h; exact ⟨vs, ha _ e, r.mono p f⟩
  | ins c fs => obtain ⟨dx, vs, e, l, r⟩ := h; exact ⟨dx, vs, ha _ e, l, r.mono p f⟩
  | slt c fs =>
    obtain ⟨dx, vs, ne, h, r⟩ := h
    refine ⟨dx, vs, ne, ?_, r.mono p f⟩
    rcases h with ⟨e, e1, e2⟩ | ⟨e, e2⟩
    · exact .inl ⟨ha _ e, e1, hd _ _ e2 (.inl rfl)⟩
    · exact .inr ⟨ha _ e, hd _ _ e2 (.inr ⟨_, rfl⟩)⟩
  | lk kvs => obtain ⟨o, vs, e, r⟩ := h; exact ⟨o, vs, ha _ e, r.mono p f⟩
  | exn c fs =>
    rcases h with ⟨e0, e⟩ | ⟨dd, vs, ne, e, e2, l, r⟩
    · exact .inl ⟨e0, ha _ e⟩
    · exact .inr ⟨dd, vs, ne, ha _ e, hd _ _ e2 (.inr ⟨_, rfl⟩), l, r.mono p f⟩
  | unk => obtain ⟨u, e, h⟩ := h; exact ⟨u, ha _ e, h⟩
/-! tables of code objects -/
theorem tabs_new {T : List (Addr × Str)} {H : Hp} {p : Addr} {o : HO} (t : LamX.Tabs T H) (h : H p = none) : LamX.Tabs T (upd H p o) := t.ext fun b u e => by rw [upd_ne (ne_of_none e h)]; exact e
theorem tabs_main {T : List (Addr × Str)} {H : Hp} {a : Addr} {u o : HO} (t : LamX.Tabs T H) (h : H a = some u) (hm : Mn u) : LamX.Tabs T (upd H a o) := fun p hp => by
  obtain ⟨ps, h1, h2, h3⟩ := t p hp
  refine ⟨ps, by rw [upd_ne (ne_of h1 h (fun z => by rw [← z] at hm; exact hm))]; exact h1, h2, fun pos cv hc => ?_⟩
  obtain ⟨c, e1, e2⟩ := h3 pos cv hc
  exact ⟨c, e1, by rw [upd_ne (ne_of e2 h (fun z => by rw [← z] at hm; exact hm c p.2 rfl))]; exact e2⟩
section
variable {cf : Cfg} {m m' : List Addr} {H H' : Hp} {A : AH}
theorem Sim.get (S : Sim cf m H A) {n : Nat} {a : Addr} (h : m[n]? = some a) : ∃ o, A[n]? = some o := by
  obtain ⟨hl, _⟩ := List.getElem?_eq_some_iff.mp h
  rw [S.len] at hl
  exact ⟨A[n], List.getElem?_eq_getElem hl⟩
theorem Sim.addr (S : Sim cf m H A) {n : Nat} {o : AO} (h : A[n]? = some o) : ∃ a, m[n]? = some a := by
  obtain ⟨hl, _⟩ := List.getElem?_eq_some_iff.mp h
  rw [← S.len] at hl
  exact ⟨m[n], List.getElem?_eq_getElem hl⟩
theorem Sim.main (S : Sim cf m H A) {n : Nat} {a : Addr} (h : m[n]? = some a) : ∃ u, H a = some u ∧ Mp u := by
  obtain ⟨o, ho⟩ := S.get h
  exact (S.at_ n a o h ho).main
theorem Sim.obj (S : Sim cf m H A) {n : Nat} {v : V} {o : AO} (r : RelA cf.K m H (.obj n) v) (h : A[n]? = some o) : ∃ a, v = .ref a ∧ m[n]? = some a ∧ ObjS cf m H a o := by
  obtain ⟨a, ha, e⟩ := r.to_obj
  exact ⟨a, e, ha, S.at_ n a o ha h⟩
theorem fz_new {p : Addr} {o : HO} (h : H p = none) : Fz H (upd H p o) := ⟨fun a xs e => by rw [upd_ne (ne_of_none e h)]; exact e, fun a o u e => by rw [upd_ne (ne_of_none e h)]; exact e⟩
theorem fz_main {a : Addr} {u o : HO} (h : H a = some u) (hm : Mn u) : Fz H (upd H a o) := by
  refine ⟨fun b xs e => ?_, fun b q w e => ?_⟩
  · rw [upd_ne (ne_of e h (fun z => by subst z; exact hm))]
    exact e
  · rw [upd_ne (ne_of e h (fun z => by subst z; exact hm))]
    exact e
/-- something that is in no place is made -/
theorem Sim.side (S : Sim cf m H A) {p : Addr} {o : HO} (h : H p = none) : Sim cf m (upd H p o) A :=
  ⟨S.len, S.nd, fun n a q hm hA => (S.at_ n a q hm hA).stay (Pre.refl m) (fz_new h) (fun u e => by rw [upd_ne (ne_of_none e h)]; exact e) fun c u e _ => by rw [upd_ne (ne_of_none e h)]; exact e, tabs_new S.tab h⟩
theorem Sim.notin (S : Sim cf m H A) {p : Addr} (h : H p = none) : p ∉ m := fun hp => by
  obtain ⟨n, hl, e⟩ := List.getElem_of_mem hp
  obtain ⟨u, hu, _⟩ := S.main (n := n) (a := p) (by rw [List.getElem?_eq_getElem hl, e])
  rw [h] at hu
  cases hu
/-- a new place -/
theorem Sim.new (S : Sim cf m H A) {p : Addr} {o : AO} {ho : HO} (h : H p = none) (hn : ObjS cf (m ++ [p]) (upd H p ho) p o) : Sim cf (m ++ [p]) (upd H p ho) (A ++ [o]) := by
  refine ⟨by rw [List.length_append, List.length_append, S.len]; rfl, ?_, fun n a q hm hA => ?_, tabs_new S.tab h⟩
  · rw [List.nodup_append]
    refine ⟨S.nd, by simp, fun a ha b hb e => ?_⟩
    rw [List.mem_singleton] at hb
    subst hb e
    exact S.notin h ha
  · by_cases hl : n < m.length
    · rw [List.getElem?_append_left hl] at hm
      rw [List.getElem?_append_left (by rw [← S.len]; exact hl)] at hA
      exact (S.at_ n a q hm hA).stay (Pre.app m _) (fz_new h) (fun u e => by rw [upd_ne (ne_of_none e h)]; exact e) fun c u e _ => by rw [upd_ne (ne_of_none e h)]; exact e
    · rw [List.getElem?_append_right (by omega)] at hm
      rw [List.getElem?_append_right (by rw [← S.len]; omega), ← S.len] at hA
      have e0 : n - m.length = 0 := by
        obtain ⟨q, _⟩ := List.getElem?_eq_some_iff.mp hm
        simp at q
        omega
      rw [e0] at hm hA
      simp at hm hA
      subst hm hA
      exact hn
/-- what stands at a place is changed -/
theorem Sim.put (S : Sim cf m H A) {n : Nat} {a : Addr} {o' : AO} {ho : HO} (hm : m[n]? = some a) {u : HO} (hu : H a = some u) (mu : Mn u) (hn : ObjS cf m (upd H a ho) a o') : Sim cf m (upd H a ho) (A.set n o') := by
  refine ⟨by rw [List.length_set, S.len], S.nd, fun k b q hk hA => ?_, tabs_main S.tab hu mu⟩
  by_cases e : k = n
  · subst e
    rw [hm] at hk
    cases hk
    have hl : k < A.length := by
      rw [← S.len]
      exact (List.getElem?_eq_some_iff.mp hm).1
    rw [List.getElem?_set_self hl] at hA
    cases hA
    exact hn
  · rw [List.getElem?_set_ne (Ne.symm e)] at hA
    have hb : b ≠ a := fun z => by
      subst z
      exact e (nd_ix S.nd hk hm)
    refine (S.at_ k b q hk hA).stay (Pre.refl m) (fz_main hu mu) (fun u e => by rw [upd_ne hb]; exact e) fun c w e hw => ?_
    rw [upd_ne (fun z => ?_)]
    · exact e
    · subst z
      rw [hu] at e
      cases e
      rcases hw with z | ⟨_, z⟩ <;> (subst z; exact mu)
end
end Dn

set_option maxRecDepth 100000
set_option maxHeartbeats 1000000
/-! Dn, part B: results, what is wanted behind them, expressions. -/
namespace Dn
open PySem L2

structure Ex where
  c : Nat
  fs : List AV
inductive Res (α : Type) where
  | ok (a : α) (A : AH) | exc (e : Ex) (A : AH) | er

abbrev Rho := List (Option AV)
/-- the slots -/
structure Loc (K : PySem.W.Frag) (m : List Addr) (H : Hp) (ρ : Rho) (σ : L2.St) : Prop where
  len : ρ.length = σ.length
  at_ : ∀ (i : Nat) (x : AV), ρ[i]? = some (some x) → ∃ v, σ[i]? = some (some v) ∧ RelA K m H x v
theorem Loc.mono {K : PySem.W.Frag} {m m' : List Addr} {H H' : Hp} {ρ : Rho} {σ : L2.St} (p : Pre m m') (f : Fz H H') (l : Loc K m H ρ σ) : Loc K m' H' ρ σ :=
  ⟨l.len, fun i x e => let ⟨v, h1, h2⟩ := l.at_ i x e; ⟨v, h1, h2.mono p f⟩⟩
theorem Loc.set {K : PySem.W.Frag} {m : List Addr} {H : Hp} {ρ : Rho} {σ : L2.St} {x : AV} {v : V} (l : Loc K m H ρ σ) (i : Nat) (r : RelA K m H x v) : Loc K m H (ρ.set i (some x)) (σ.set i (some v)) := by
  refine ⟨by rw [List.length_set, List.length_set, l.len], fun j y e => ?_⟩
  by_cases h : i = j
  · subst h
    by_cases hl : i < ρ.length
    · rw [List.getElem?_set_self hl] at e
      cases e
      exact ⟨v, List.getElem?_set_self (by rw [← l.len]; exact hl), r⟩
    · rw [List.getElem?_eq_none (by rw [List.length_set]; omega)] at e
      cases e
  · rw [List.getElem?_set_ne h] at e
    obtain ⟨w, h1, h2⟩ := l.at_ j y e
    exact ⟨w, by rw [List.getElem?_set_ne h]; exact h1, h2⟩

/-- an exception: its class, its own dict -/
def ExcR (cf : Cfg) (m : List Addr) (H : Hp) (e : Ex) (cls : Value) (d : Option Addr) : Prop :=
  cls = .ref (cf.cls e.c) ∧ ((e.fs = [] ∧ d = none) ∨ ∃ dd vs, d = some dd ∧ H dd = some (.xd ((cf.nam e.c).zip vs)) ∧ e.fs.length ≤ (cf.nam e.c).length ∧ RelAs cf.K m H e.fs vs)

/-- behind: more places, tuples kept, what is told stands -/
structure Go (cf : Cfg) (m : List Addr) (H : Hp) (m' : List Addr) (H' : Hp) (A' : AH) : Prop where
  pre : Pre m m'
  fz : Fz H H'
  sim : Sim cf m' H' A'
theorem Go.refl {cf : Cfg} {m : List Addr} {H : Hp} {A : AH} (S : Sim cf m H A) : Go cf m H m H A := ⟨Pre.refl m, Fz.refl H, S⟩
theorem Go.trans {cf : Cfg} {m m1 m2 : List Addr} {H H1 H2 : Hp} {A1 A2 : AH} (a : Go cf m H m1 H1 A1) (b : Go cf m1 H1 m2 H2 A2) : Go cf m H m2 H2 A2 := ⟨a.pre.trans b.pre, a.fz.trans b.fz, b.sim⟩

/-- what is wanted of a result; Rl: how its value lies -/
def Post {α β : Type} (cf : Cfg) (W : WX) (Rl : List Addr → Hp → α → β → Prop) (m : List Addr) (H : Hp) (σ : L2.St) (Q : β → Hp → Prop) : Res α → Prop
  | .ok x A' => ∀ m' H' v, Go cf m H m' H' A' → Rl m' H' x v → Q v H'
  | .exc e A' => ∀ m' H' cls d, Go cf m H m' H' A' → ExcR cf m' H' e cls d → W cls d σ H'
  | .er => False
theorem Post.mono {α β : Type} {cf : Cfg} {W : WX} {Rl : List Addr → Hp → α → β → Prop} {m m1 : List Addr} {H H1 : Hp} {A1 : AH} {σ : L2.St} {Q : β → Hp → Prop} {r : Res α} (g : Go cf m H m1 H1 A1) (h : Post cf W Rl m H σ Q r) : Post cf W Rl m1 H1 σ Q r := by
  cases r with
  | ok x A' => exact fun m' H' v g' r => h m' H' v (g.trans g') r
  | exc e A' => exact fun m' H' cls d g' r => h m' H' cls d (g.trans g') r
  | er => exact h

def rA (cf : Cfg) : List Addr → Hp → AV → V → Prop := fun m H => RelA cf.K m H
def rAs (cf : Cfg) : List Addr → Hp → List AV → List V → Prop := fun m H => RelAs cf.K m H
def rB : List Addr → Hp → Bool → Bool → Prop := fun _ _ a b => a = b

abbrev FE := Rho → AH → Res AV
abbrev FT := Rho → AH → Res Bool
abbrev FA := Rho → AH → Res (List AV)
/-- a reading keeps what the function says -/
def Ok {α β : Type} (cf : Cfg) (W : WX) (Rl : List Addr → Hp → α → β → Prop) (t : L2.St → Hp → (β → Hp → Prop) → Prop) (f : Rho → AH → Res α) : Prop :=
  ∀ (ρ : Rho) (σ : L2.St) (m : List Addr) (H : Hp) (A : AH) (Q : β → Hp → Prop), Sim cf m H A → Loc cf.K m H ρ σ → Post cf W Rl m H σ Q (f ρ A) → t σ H Q
abbrev EOk (cf : Cfg) (W : WX) (t : TE) (f : FE) : Prop := Ok cf W (rA cf) t f
abbrev TOk (cf : Cfg) (W : WX) (t : TT) (f : FT) : Prop := Ok cf W rB t f
abbrev AOk (cf : Cfg) (W : WX) (t : TA) (f : FA) : Prop := Ok cf W (rAs cf) t f

def Res.bind {α β : Type} (r : Res α) (k : α → AH → Res β) : Res β :=
  match r with
  | .ok a A => k a A
  | .exc e A => .exc e A
  | .er => .er
@[simp] theorem Res.bind_ok {α β : Type} (a : α) (A : AH) (k : α → AH → Res β) : (Res.ok a A).bind k = k a A := (rfl)
@[simp] theorem Res.bind_exc {α β : Type} (e : Ex) (A : AH) (k : α → AH → Res β) : (Res.exc e A : Res α).bind k = .exc e A := (rfl)
@[simp] theorem Res.bind_er {α β : Type} (k : α → AH → Res β) : (Res.er : Res α).bind k = .er := (rfl)

/-- first this, then that -/
theorem Ok.then {α β γ δ : Type} {cf : Cfg} {W : WX} {Rl : List Addr → Hp → α → β → Prop} {Rl2 : List Addr → Hp → γ → δ → Prop} {t : L2.St → Hp → (β → Hp → Prop) → Prop} {f : Rho → AH → Res α} (h : Ok cf W Rl t f)
    {ρ : Rho} {σ : L2.St} {m : List Addr} {H : Hp} {A : AH} {Q : δ → Hp → Prop} {R : β → Hp → Prop} {k : α → AH → Res γ} (S : Sim cf m H A) (L : Loc cf.K m H ρ σ) (P : Post cf W Rl2 m H σ Q ((f ρ A).bind k))
    (hk : ∀ x v m1 H1 A1, f ρ A = .ok x A1 → Go cf m H m1 H1 A1 → Loc cf.K m1 H1 ρ σ → Rl m1 H1 x v → Post cf W Rl2 m1 H1 σ Q (k x A1) → R v H1) : t σ H R := by
  refine h ρ σ m H A R S L ?_
  cases e : f ρ A with
  | ok x A1 =>
    rw [e] at P
    exact fun m1 H1 v g r => hk x v m1 H1 A1 e g (L.mono g.pre g.fz) r (Post.mono g P)
  | exc x A1 =>
    rw [e] at P
    exact P
  | er =>
    rw [e] at P
    exact P.elim

/-! ### judgements: the syntax, what it computes -/
structure CE (cf : Cfg) (X : Cx) (W : WX) (e : Expr) (f : FE) : Prop where
  ex : ∃ t, PE X e t ∧ EOk cf W t f
structure CT (cf : Cfg) (X : Cx) (W : WX) (e : Expr) (f : FT) : Prop where
  ex : ∃ t, PT X e t ∧ TOk cf W t f
structure CW (cf : Cfg) (X : Cx) (W : WX) (e : Expr) (f : FT) : Prop where
  ex : ∃ t, PW X e t ∧ TOk cf W t f
structure CA (cf : Cfg) (X : Cx) (W : WX) (es : List Expr) (f : FA) : Prop where
  ex : ∃ t, PA X es t ∧ AOk cf W t f

section
variable {cf : Cfg} {X : Cx} {W : WX}
/-! ### names, constants -/
def fVar (i : Nat) : FE := fun ρ A => match ρ[i]? with
  | some (some v) => .ok v A
  | _ => .er
def fC (v : AV) : FE := fun _ A => .ok v A
theorem ok_var {i : Nat} : EOk cf W (tVar i) (fVar i) := fun ρ σ m H A Q S L P => by
  unfold fVar at P
  split at P
  · rename_i v e
    obtain ⟨w, h1, h2⟩ := L.at_ i v e
    exact ⟨w, h1, P m H w (Go.refl S) h2⟩
  · exact P.elim
theorem ok_c {v : AV} {w : V} (h : ∀ K m H, RelA K m H v w) : EOk cf W (tC w) (fC v) := fun ρ σ m H A Q S L P => P m H w (Go.refl S) (h _ _ _)
theorem c_var {x : Str} {pos : Pos} (i : Nat) (hN : X.N[i]? = some x := by rfl) (hv : Vis X.env.scope x := by first | exact Or.inl rfl | exact Or.inr (Or.inl rfl) | exact Or.inr (Or.inr rfl)) (hd : (x == ("__debug__" : Str)) = false := by decide)
    (hcd : (x == ("__classdict__" : Str)) = false := by decide) : CE cf X W (.Name x pos) (fVar i) := ⟨_, pe_var hN hv hd hcd, ok_var⟩
theorem c_int {i j pos} : CE cf X W (.Constant (.int i) j pos) (fC (.int i)) := ⟨_, pe_int, ok_c fun _ _ _ => .int i⟩
theorem c_bl {i j pos} : CE cf X W (.Constant (.bool i) j pos) (fC (.bl i)) := ⟨_, pe_bl, ok_c fun _ _ _ => .bl i⟩
theorem c_str {i j pos} : CE cf X W (.Constant (.str i) j pos) (fC (.str i)) := ⟨_, pe_str, ok_c fun _ _ _ => .str i⟩
theorem c_non {j pos} : CE cf X W (.Constant .none j pos) (fC .non) := ⟨_, pe_non, ok_c fun _ _ _ => .non⟩
/-- a module's number or text -/
theorem c_gint {x : Str} {i : Int} {t : Tok} {pos : Pos} (hg : Gl X x) (hm : X.mg x = some (.int i t)) (hd : (x == ("__debug__" : Str)) = false := by decide) : CE cf X W (.Name x pos) (fC (.int i)) :=
  ⟨_, pe_glob (v := .int i) hg hm ⟨t, rfl⟩ hd, ok_c fun _ _ _ => .int i⟩
theorem c_gstr {x : Str} {i : Str} {t : Tok} {pos : Pos} (hg : Gl X x) (hm : X.mg x = some (.str i t)) (hd : (x == ("__debug__" : Str)) = false := by decide) : CE cf X W (.Name x pos) (fC (.str i)) :=
  ⟨_, pe_glob (v := .str i) hg hm ⟨t, rfl⟩ hd, ok_c fun _ _ _ => .str i⟩

/-! ### two values -/
abbrev F2 := AV → AV → AH → Res AV
def R2Ok (cf : Cfg) (r : R2) (g : F2) : Prop := ∀ (W : WX) (m : List Addr) (H : Hp) (A : AH) (σ : L2.St) (Q : VK) (x y : AV) (v w : V), Sim cf m H A → RelA cf.K m H x v → RelA cf.K m H y w → Post cf W (rA cf) m H σ Q (g x y A) → r v w H Q
def f2 (g : F2) (fa fb : FE) : FE := fun ρ A => (fa ρ A).bind fun x A => (fb ρ A).bind fun y A => g x y A
theorem ok_2 {r : R2} {g : F2} {ta tb : TE} {fa fb : FE} (hr : R2Ok cf r g) (ha : EOk cf W ta fa) (hb : EOk cf W tb fb) : EOk cf W (tOp r ta tb) (f2 g fa fb) := fun ρ σ m H A Q S L P => by
  refine ha.then S L P fun x v m1 H1 A1 _ g1 L1 r1 P1 => ?_
  refine hb.then g1.sim L1 P1 fun y w m2 H2 A2 _ g2 L2 r2 P2 => ?_
  exact hr W m2 H2 A2 σ Q x y v w g2.sim (RelA.mono g2.pre g2.fz r1) r2 P2
theorem c_op {a b : Expr} {op : Operator} {pos : Pos} {r : R2} {g : F2} {fa fb : FE} (ho : OpR X (binaryOp op) r) (hr : R2Ok cf r g) (ha : CE cf X W a fa) (hb : CE cf X W b fb) : CE cf X W (.BinOp a op b pos) (f2 g fa fb) := by
  obtain ⟨ta, pa, oa⟩ := ha.ex
  obtain ⟨tb, pb, ob⟩ := hb.ex
  exact ⟨_, pe_op ho pa pb, ok_2 hr oa ob⟩
theorem c_cmp {a b : Expr} {op : CmpOp} {pos : Pos} {r : R2} {g : F2} {fa fb : FE} (ho : OpR X (compareOp op) r) (hr : R2Ok cf r g) (ha : CE cf X W a fa) (hb : CE cf X W b fb) (hm : behindInMarks op b = false := by first | exact nomark _ | rfl) : CE cf X W (.Compare a [op] [b] pos) (f2 g fa fb) := by
  obtain ⟨ta, pa, oa⟩ := ha.ex
  obtain ⟨tb, pb, ob⟩ := hb.ex
  exact ⟨_, pe_cmpR ho pa pb hm, ok_2 hr oa ob⟩
/-- a value that is a truth value -/
def asB : AV → AH → Res Bool
  | .bl b, A => .ok b A
  | _, _ => .er
def fB (fa : FE) : FT := fun ρ A => (fa ρ A).bind asB
theorem asB_post {x : AV} {v : V} {m : List Addr} {H : Hp} {A : AH} {σ : L2.St} {Q : Bool → Hp → Prop} (S : Sim cf m H A) (r : RelA cf.K m H x v) (P : Post cf W rB m H σ Q (asB x A)) : ∃ k, v = .bl k ∧ Q k H := by
  cases x with
  | bl b =>
    cases r
    exact ⟨b, rfl, P m H b (Go.refl S) rfl⟩
  | _ => exact P.elim
theorem ok_test {t : TE} {f : FE} (h : EOk cf W t f) : TOk cf W (tTest t) (fB f) := fun ρ σ m H A Q S L P => by
  refine h.then S L P fun x v m1 H1 A1 _ g1 L1 r1 P1 => ?_
  exact asB_post g1.sim r1 P1
theorem ok_B {t : TE} {f : FE} (h : EOk cf W t f) : TOk cf W (tB t) (fB f) := fun ρ σ m H A Q S L P => by
  refine h.then S L P fun x v m1 H1 A1 _ g1 L1 r1 P1 => ?_
  exact asB_post g1.sim r1 P1
theorem ct_cmp {a b : Expr} {op : CmpOp} {pos : Pos} {r : R2} {g : F2} {fa fb : FE} (ho : OpR X (compareOp op) r) (hr : R2Ok cf r g) (ha : CE cf X W a fa) (hb : CE cf X W b fb) (hm : behindInMarks op b = false := by first | exact nomark _ | rfl) : CT cf X W (.Compare a [op] [b] pos) (fB (f2 g fa fb)) := by
  obtain ⟨ta, pa, oa⟩ := ha.ex
  obtain ⟨tb, pb, ob⟩ := hb.ex
  exact ⟨_, pt_cmpR ho pa pb hm, ok_test (ok_2 hr oa ob)⟩
/-- an expression that gives a truth value, as a test -/
theorem ct_val {e : Expr} {f : FE} (h : CE cf X W e f) (he : ∀ whole, isTrue e X.env whole = (do let v ← whole; standAt e.pos; holding [v] (truthy v)) := by intro _; rfl) : CT cf X W e (fB f) := by
  obtain ⟨t, p, o⟩ := h.ex
  exact ⟨_, pt_val p he, ok_B o⟩

/-! ### and, or, not -/
def fAnd (f g : FT) : FT := fun ρ A => (f ρ A).bind fun b A => if b = true then g ρ A else .ok false A
def fOr (f g : FT) : FT := fun ρ A => (f ρ A).bind fun b A => if b = true then .ok true A else g ρ A
def fNot (f : FT) : FT := fun ρ A => (f ρ A).bind fun b A => .ok (!b) A
theorem ok_and {t u : TT} {f g : FT} (hf : TOk cf W t f) (hg : TOk cf W u g) : TOk cf W (tAnd t u) (fAnd f g) := fun ρ σ m H A Q S L P => by
  refine hf.then S L P fun x v m1 H1 A1 _ g1 L1 r1 P1 => ?_
  cases (show x = v from r1)
  cases x with
  | true => exact hg ρ σ m1 H1 A1 Q g1.sim L1 P1
  | false => exact P1 m1 H1 false (Go.refl g1.sim) rfl
theorem ok_or {t u : TT} {f g : FT} (hf : TOk cf W t f) (hg : TOk cf W u g) : TOk cf W (tOr t u) (fOr f g) := fun ρ σ m H A Q S L P => by
  refine hf.then S L P fun x v m1 H1 A1 _ g1 L1 r1 P1 => ?_
  cases (show x = v from r1)
  cases x with
  | true => exact P1 m1 H1 true (Go.refl g1.sim) rfl
  | false => exact hg ρ σ m1 H1 A1 Q g1.sim L1 P1
theorem ok_not {t : TT} {f : FT} (hf : TOk cf W t f) : TOk cf W (tNot t) (fNot f) := fun ρ σ m H A Q S L P => by
  refine hf.then S L P fun x v m1 H1 A1 _ g1 L1 r1 P1 => ?_
  cases (show x = v from r1)
  exact P1 m1 H1 (!x) (Go.refl g1.sim) rfl
theorem CW.ct {e : Expr} {f : FT} (h : CW cf X W e f) : CT cf X W e f := let ⟨t, p, o⟩ := h.ex; ⟨t, p.pt, o⟩
theorem cw_and1 {a : Expr} {pos : Pos} {f : FT} (h : CT cf X W a f) : CW cf X W (.BoolOp .And [a] pos) f := let ⟨t, p, o⟩ := h.ex; ⟨t, pw_and1 p, o⟩
theorem cw_or1 {a : Expr} {pos : Pos} {f : FT} (h : CT cf X W a f) : CW cf X W (.BoolOp .Or [a] pos) f := let ⟨t, p, o⟩ := h.ex; ⟨t, pw_or1 p, o⟩
theorem cw_and {a b : Expr} {rest : List Expr} {pos : Pos} {f g : FT} (h : CT cf X W a f) (k : CW cf X W (.BoolOp .And (b :: rest) pos) g) : CW cf X W (.BoolOp .And (a :: b :: rest) pos) (fAnd f g) :=
  let ⟨_, p, o⟩ := h.ex; let ⟨_, p', o'⟩ := k.ex; ⟨_, pw_and p p', ok_and o o'⟩
theorem cw_or {a b : Expr} {rest : List Expr} {pos : Pos} {f g : FT} (h : CT cf X W a f) (k : CW cf X W (.BoolOp .Or (b :: rest) pos) g) : CW cf X W (.BoolOp .Or (a :: b :: rest) pos) (fOr f g) :=
  let ⟨_, p, o⟩ := h.ex; let ⟨_, p', o'⟩ := k.ex; ⟨_, pw_or p p', ok_or o o'⟩
theorem ct_not {a : Expr} {pos : Pos} {f : FT} (h : CT cf X W a f) : CT cf X W (.UnaryOp .Not a pos) (fNot f) := let ⟨_, p, o⟩ := h.ex; ⟨_, pt_not p, ok_not o⟩
/-- as values -/
def fAndV (f g : FE) : FE := fun ρ A => (f ρ A).bind fun x A => (asB x A).bind fun b A => if b = true then g ρ A else .ok (.bl false) A
def fOrV (f g : FE) : FE := fun ρ A => (f ρ A).bind fun x A => (asB x A).bind fun b A => if b = true then .ok (.bl true) A else g ρ A
def fNotV (f : FE) : FE := fun ρ A => (f ρ A).bind fun x A => (asB x A).bind fun b A => .ok (.bl (!b)) A
theorem asB_then {x : AV} {v : V} {m : List Addr} {H : Hp} {A : AH} {σ : L2.St} {Q : VK} {k : Bool → AH → Res AV} {R : Bool → Prop} (S : Sim cf m H A) (r : RelA cf.K m H x v) (P : Post cf W (rA cf) m H σ Q ((asB x A).bind k))
    (h : ∀ b, Post cf W (rA cf) m H σ Q (k b A) → R b) : ∃ c, v = .bl c ∧ R c := by
  cases x with
  | bl b =>
    cases r
    exact ⟨b, rfl, h b P⟩
  | _ => exact P.elim
theorem ok_andV {t u : TE} {f g : FE} (hf : EOk cf W t f) (hg : EOk cf W u g) : EOk cf W (tAndV t u) (fAndV f g) := fun ρ σ m H A Q S L P => by
  refine hf.then S L P fun x v m1 H1 A1 _ g1 L1 r1 P1 => ?_
  refine asB_then g1.sim r1 P1 fun b P2 => ?_
  cases b with
  | true => exact hg ρ σ m1 H1 A1 Q g1.sim L1 P2
  | false => exact P2 m1 H1 _ (Go.refl g1.sim) (.bl false)
theorem ok_orV {t u : TE} {f g : FE} (hf : EOk cf W t f) (hg : EOk cf W u g) : EOk cf W (tOrV t u) (fOrV f g) := fun ρ σ m H A Q S L P => by
  refine hf.then S L P fun x v m1 H1 A1 _ g1 L1 r1 P1 => ?_
  refine asB_then g1.sim r1 P1 fun b P2 => ?_
  cases b with
  | true => exact P2 m1 H1 _ (Go.refl g1.sim) (.bl true)
  | false => exact hg ρ σ m1 H1 A1 Q g1.sim L1 P2
theorem ok_notV {t : TE} {f : FE} (hf : EOk cf W t f) : EOk cf W (tNotV t) (fNotV f) := fun ρ σ m H A Q S L P => by
  refine hf.then S L P fun x v m1 H1 A1 _ g1 L1 r1 P1 => ?_
  refine asB_then g1.sim r1 P1 fun b P2 => ?_
  exact P2 m1 H1 _ (Go.refl g1.sim) (.bl (!b))
theorem c_one {a : Expr} {op : BoolOp} {pos : Pos} {f : FE} (h : CE cf X W a f) : CE cf X W (.BoolOp op [a] pos) f := let ⟨_, p, o⟩ := h.ex; ⟨_, pe_one p, o⟩
theorem c_and {a b : Expr} {rest : List Expr} {pos : Pos} {f g : FE} (h : CE cf X W a f) (k : CE cf X W (.BoolOp .And (b :: rest) pos) g) : CE cf X W (.BoolOp .And (a :: b :: rest) pos) (fAndV f g) :=
  let ⟨_, p, o⟩ := h.ex; let ⟨_, p', o'⟩ := k.ex; ⟨_, pe_and p p', ok_andV o o'⟩
theorem c_or {a b : Expr} {rest : List Expr} {pos : Pos} {f g : FE} (h : CE cf X W a f) (k : CE cf X W (.BoolOp .Or (b :: rest) pos) g) : CE cf X W (.BoolOp .Or (a :: b :: rest) pos) (fOrV f g) :=
  let ⟨_, p, o⟩ := h.ex; let ⟨_, p', o'⟩ := k.ex; ⟨_, pe_or p p', ok_orV o o'⟩
theorem c_not {a : Expr} {pos : Pos} {f : FE} (h : CE cf X W a f) : CE cf X W (.UnaryOp .Not a pos) (fNotV f) := let ⟨_, p, o⟩ := h.ex; ⟨_, pe_not p, ok_notV o⟩
/-- a if t else b -/
def fIf (t : FT) (f g : FE) : FE := fun ρ A => (t ρ A).bind fun b A => if b = true then f ρ A else g ρ A
theorem ok_if {t : TT} {u v : TE} {ft : FT} {f g : FE} (ht : TOk cf W t ft) (hf : EOk cf W u f) (hg : EOk cf W v g) : EOk cf W (tIf t u v) (fIf ft f g) := fun ρ σ m H A Q S L P => by
  refine ht.then S L P fun x v m1 H1 A1 _ g1 L1 r1 P1 => ?_
  cases (show x = v from r1)
  cases x with
  | true => exact hf ρ σ m1 H1 A1 Q g1.sim L1 P1
  | false => exact hg ρ σ m1 H1 A1 Q g1.sim L1 P1
theorem c_if {c a b : Expr} {pos : Pos} {t : FT} {f g : FE} (hc : CT cf X W c t) (ha : CE cf X W a f) (hb : CE cf X W b g) : CE cf X W (.IfExp c a b pos) (fIf t f g) :=
  let ⟨_, p, o⟩ := hc.ex; let ⟨_, p1, o1⟩ := ha.ex; let ⟨_, p2, o2⟩ := hb.ex; ⟨_, pe_ifExp p p1 p2, ok_if o o1 o2⟩
/-- a < b < c -/
def fChain (g g' : F2) (fa fb fc : FE) : FE := fun ρ A => (fa ρ A).bind fun x A => (fb ρ A).bind fun y A => (g x y A).bind fun z A => (asB z A).bind fun k A => if k = true then (fc ρ A).bind fun w A => g' y w A else .ok (.bl false) A
theorem r2_then {r : R2} {g : F2} (hr : R2Ok cf r g) {x y : AV} {v w : V} {m : List Addr} {H : Hp} {A : AH} {σ : L2.St} {Q : VK} {k : AV → AH → Res AV} {R : VK} (S : Sim cf m H A) (rx : RelA cf.K m H x v) (ry : RelA cf.K m H y w)
    (P : Post cf W (rA cf) m H σ Q ((g x y A).bind k)) (h : ∀ z u m1 H1 A1, Go cf m H m1 H1 A1 → RelA cf.K m1 H1 z u → Post cf W (rA cf) m1 H1 σ Q (k z A1) → R u H1) : r v w H R := by
  refine hr W m H A σ R x y v w S rx ry ?_
  cases e : g x y A with
  | ok z A1 =>
    rw [e] at P
    exact fun m1 H1 u g1 r1 => h z u m1 H1 A1 g1 r1 (Post.mono g1 P)
  | exc z A1 =>
    rw [e] at P
    exact P
  | er =>
    rw [e] at P
    exact P.elim
theorem ok_chain {r r' : R2} {g g' : F2} {ta tb tc : TE} {fa fb fc : FE} (hr : R2Ok cf r g) (hr' : R2Ok cf r' g') (ha : EOk cf W ta fa) (hb : EOk cf W tb fb) (hc : EOk cf W tc fc) : EOk cf W (tChain r r' ta tb tc) (fChain g g' fa fb fc) := fun ρ σ m H A Q S L P => by
  refine ha.then S L P fun x v m1 H1 A1 _ g1 L1 r1 P1 => ?_
  refine hb.then g1.sim L1 P1 fun y w m2 H2 A2 _ g2 L2 r2 P2 => ?_
  refine r2_then hr g2.sim (RelA.mono g2.pre g2.fz r1) r2 P2 fun z u m3 H3 A3 g3 r3 P3 => ?_
  refine asB_then g3.sim r3 P3 fun b P4 => ?_
  cases b with
  | false => exact P4 m3 H3 _ (Go.refl g3.sim) (.bl false)
  | true =>
    refine hc.then g3.sim (L2.mono g3.pre g3.fz) P4 fun z2 u2 m4 H4 A4 _ g4 L4 r4 P5 => ?_
    exact hr' W m4 H4 A4 σ Q y z2 w u2 g4.sim (RelA.mono (g3.trans g4).pre (g3.trans g4).fz r2) r4 P5
theorem c_chain {a b c : Expr} {op op' : CmpOp} {pos : Pos} {r r' : R2} {g g' : F2} {fa fb fc : FE} (ho : OpR X (compareOp op) r) (hr : R2Ok cf r g) (ho' : OpR X (compareOp op') r') (hr' : R2Ok cf r' g') (ha : CE cf X W a fa) (hb : CE cf X W b fb) (hc : CE cf X W c fc)
    (hm : lastMarks [op, op'] [b, c] = false := by rfl) : CE cf X W (.Compare a [op, op'] [b, c] pos) (fChain g g' fa fb fc) := by
  obtain ⟨ta, pa, oa⟩ := ha.ex
  obtain ⟨tb, pb, ob⟩ := hb.ex
  obtain ⟨tc, pc, oc⟩ := hc.ex
  exact ⟨_, pe_chain ho ho' pa pb pc hm, ok_chain hr hr' oa ob oc⟩

/-! ### several -/
def fNil : FA := fun _ A => .ok [] A
def fCons (f : FE) (g : FA) : FA := fun ρ A => (f ρ A).bind fun x A => (g ρ A).bind fun xs A => .ok (x :: xs) A
theorem ok_nil : AOk cf W tNil fNil := fun ρ σ m H A Q S L P => P m H [] (Go.refl S) .nil
theorem ok_cons {t : TE} {u : TA} {f : FE} {g : FA} (hf : EOk cf W t f) (hg : AOk cf W u g) : AOk cf W (tCons t u) (fCons f g) := fun ρ σ m H A Q S L P => by
  refine hf.then S L P fun x v m1 H1 A1 _ g1 L1 r1 P1 => ?_
  refine hg.then g1.sim L1 P1 fun xs vs m2 H2 A2 _ g2 L2 r2 P2 => ?_
  exact P2 m2 H2 (v :: vs) (Go.refl g2.sim) (.cons (RelA.mono g2.pre g2.fz r1) r2)
theorem ca_nil : CA cf X W [] fNil := ⟨_, pa_nil, ok_nil⟩
theorem ca_cons {e : Expr} {es : List Expr} {f : FE} {g : FA} (he : CE cf X W e f) (hr : CA cf X W es g) (hs : starEach (e :: es) X.env = (false, eval e X.env) :: starEach es X.env := by rfl) : CA cf X W (e :: es) (fCons f g) :=
  let ⟨_, p, o⟩ := he.ex; let ⟨_, p', o'⟩ := hr.ex; ⟨_, pa_cons p p' hs, ok_cons o o'⟩
def big : Nat := 1000000
theorem big_lt {n : Nat} (h : n < big) : n < sizeLine := Nat.lt_trans h (by decide)
theorem big_le {n : Nat} (h : n < big) : n ≤ sizeLine := Nat.le_of_lt (big_lt h)
def fTup (f : FA) : FE := fun ρ A => (f ρ A).bind fun xs A => if xs.length < big then .ok (.tup xs) A else .er
def fLst (f : FA) : FE := fun ρ A => (f ρ A).bind fun xs A => if xs.length < big then .ok (.obj A.length) (A ++ [.lst xs]) else .er
theorem post_if {α β : Type} {Rl : List Addr → Hp → α → β → Prop} {m : List Addr} {H : Hp} {σ : L2.St} {Q : β → Hp → Prop} {c : Prop} [Decidable c] {r : Res α} (P : Post cf W Rl m H σ Q (if c then r else .er)) : c ∧ Post cf W Rl m H σ Q r := by
  by_cases h : c
  · rw [if_pos h] at P
    exact ⟨h, P⟩
  · rw [if_neg h] at P
    exact P.elim
theorem go_side {m : List Addr} {H : Hp} {A : AH} {p : Addr} {o : HO} (S : Sim cf m H A) (hp : H p = none) : Go cf m H m (upd H p o) A := ⟨Pre.refl m, fz_new hp, S.side hp⟩
theorem go_new {m : List Addr} {H : Hp} {A : AH} {p : Addr} {o : AO} {ho : HO} (S : Sim cf m H A) (hp : H p = none) (hn : ObjS cf (m ++ [p]) (upd H p ho) p o) : Go cf m H (m ++ [p]) (upd H p ho) (A ++ [o]) := ⟨Pre.app m _, fz_new hp, S.new hp hn⟩
theorem go_put {m : List Addr} {H : Hp} {A : AH} {n : Nat} {a : Addr} {o : AO} {ho : HO} (S : Sim cf m H A) (hm : m[n]? = some a) {u : HO} (hu : H a = some u) (mu : Mn u) (hn : ObjS cf m (upd H a ho) a o) : Go cf m H m (upd H a ho) (A.set n o) :=
  ⟨Pre.refl m, fz_main hu mu, S.put hm hu mu hn⟩
theorem rel_new {m : List Addr} {H : Hp} {A : AH} {p : Addr} {H' : Hp} (S : Sim cf m H A) : RelA cf.K (m ++ [p]) H' (.obj A.length) (.ref p) := .obj (by rw [← S.len, List.getElem?_append_right (Nat.le_refl _)]; simp)
/-- a new list is handed on -/
theorem new_list {m : List Addr} {H : Hp} {A : AH} {σ : L2.St} {Q : VK} {xs : List AV} {vs : List V} {p : Addr} (S : Sim cf m H A) (r : RelAs cf.K m H xs vs) (P : Post cf W (rA cf) m H σ Q (.ok (.obj A.length) (A ++ [.lst xs]))) (hp : H p = none) : Q (.ref p) (upd H p (.lst vs)) :=
  P _ _ _ (go_new S hp ⟨vs, upd_same, r.mono (Pre.app m _) (fz_new hp)⟩) (rel_new S)
theorem new_tup {m : List Addr} {H : Hp} {A : AH} {σ : L2.St} {Q : VK} {xs : List AV} {vs : List V} {p : Addr} (S : Sim cf m H A) (r : RelAs cf.K m H xs vs) (P : Post cf W (rA cf) m H σ Q (.ok (.tup xs) A)) (hp : H p = none) : Q (.ref p) (upd H p (.tup vs)) :=
  P _ _ _ (go_side S hp) (.tup upd_same (r.mono (Pre.refl m) (fz_new hp)))
theorem ok_tup {t : TA} {f : FA} (hf : AOk cf W t f) : EOk cf W (tTup t) (fTup f) := fun ρ σ m H A Q S L P => by
  refine hf.then S L P fun xs vs m1 H1 A1 _ g1 L1 r1 P1 => ?_
  obtain ⟨hl, P2⟩ := post_if P1
  exact ⟨by rw [← RelAs.length r1]; exact big_le hl, fun p hp => new_tup g1.sim r1 P2 hp⟩
theorem ok_lst {t : TA} {f : FA} (hf : AOk cf W t f) : EOk cf W (tLst t) (fLst f) := fun ρ σ m H A Q S L P => by
  refine hf.then S L P fun xs vs m1 H1 A1 _ g1 L1 r1 P1 => ?_
  obtain ⟨hl, P2⟩ := post_if P1
  exact ⟨by rw [← RelAs.length r1]; exact big_le hl, fun p hp => new_list g1.sim r1 P2 hp⟩
theorem c_tup {es : List Expr} {x1 : Nat} {pos : Pos} {f : FA} (h : CA cf X W es f) : CE cf X W (.Tuple es x1 pos) (fTup f) := let ⟨_, p, o⟩ := h.ex; ⟨_, pe_tup p, ok_tup o⟩
theorem c_lst {es : List Expr} {pos : Pos} {f : FA} (h : CA cf X W es f) : CE cf X W (.List es pos) (fLst f) := let ⟨_, p, o⟩ := h.ex; ⟨_, pe_lst p, ok_lst o⟩
end
end Dn

set_option maxRecDepth 100000
set_option maxHeartbeats 1000000
/-! Dn, part C: operators, built-in calls, subscripts, methods of lists, dicts. -/
namespace Dn
open PySem L2

/-! ### rules joined -/
theorem R2Ok.or1 {cf : Cfg} {r r' : R2} {g : F2} (h : R2Ok cf r g) : R2Ok cf (fun x y H Q => r x y H Q ∨ r' x y H Q) g := fun W m H A σ Q x y v w S rx ry P => .inl (h W m H A σ Q x y v w S rx ry P)
def bothF (c : AV → AV → AH → Bool) (g g' : F2) : F2 := fun x y A => if c x y A = true then g x y A else g' x y A
theorem R2Ok.or {cf : Cfg} {r r' : R2} {g g' : F2} (c : AV → AV → AH → Bool) (h : R2Ok cf r g) (h' : R2Ok cf r' g') : R2Ok cf (fun x y H Q => r x y H Q ∨ r' x y H Q) (bothF c g g') := fun W m H A σ Q x y v w S rx ry P => by
  unfold bothF at P
  split at P
  · exact .inl (h W m H A σ Q x y v w S rx ry P)
  · exact .inr (h' W m H A σ Q x y v w S rx ry P)

section
variable {cf : Cfg} {X : Cx} {W : WX}
/-! ### ints -/
def gI (C : Int → Int → Bool) (g : Int → Int → AV) : F2 := fun x y A => match x, y with
  | .int i, .int j => if C i j = true then .ok (g i j) A else .er
  | _, _ => .er
def gI0 (g : Int → Int → AV) : F2 := fun x y A => match x, y with
  | .int i, .int j => .ok (g i j) A
  | _, _ => .er
theorem ok_I {C : Int → Int → Prop} {Cb : Int → Int → Bool} {g : Int → Int → AV} {g' : Int → Int → V} (hC : ∀ i j, Cb i j = true → C i j) (hg : ∀ K m H i j, RelA K m H (g i j) (g' i j)) : R2Ok cf (rI C g') (gI Cb g) := fun W m H A σ Q x y v w S rx ry P => by
  unfold gI at P
  split at P
  · rename_i i j
    obtain ⟨hc, P⟩ := post_if P
    exact ⟨i, j, rx.to_int, ry.to_int, hC i j hc, P m H _ (Go.refl S) (hg _ _ _ i j)⟩
  · exact P.elim
theorem ok_I0 {g : Int → Int → AV} {g' : Int → Int → V} (hg : ∀ K m H i j, RelA K m H (g i j) (g' i j)) : R2Ok cf (rI0 g') (gI0 g) := fun W m H A σ Q x y v w S rx ry P => by
  unfold gI0 at P
  split at P
  · rename_i i j
    exact ⟨i, j, rx.to_int, ry.to_int, P m H _ (Go.refl S) (hg _ _ _ i j)⟩
  · exact P.elim
def cMul (i j : Int) : Bool := decide (i.natAbs < 18446744073709551616) || decide (j.natAbs < 18446744073709551616)
theorem cMul_ok (i j : Int) (h : cMul i j = true) : CMul i j := by
  unfold cMul at h
  rw [Bool.or_eq_true, decide_eq_true_eq, decide_eq_true_eq] at h
  rcases h with h | h
  · exact .inl (by omega)
  · exact .inr (by omega)
def cPos (_ j : Int) : Bool := decide (0 < j)
def cDiv (_ j : Int) : Bool := decide (0 < j) && decide (j < 1073741824)
def cPow (i j : Int) : Bool := decide (0 ≤ j) && decide (j ≤ 1000000) && decide (i.natAbs < 18446744073709551616)
def gSub : F2 := gI0 fun i j => .int (i - j)
def gMod : F2 := gI cPos fun i j => .int (i % j)
def gDiv : F2 := gI cDiv fun i j => .int (i / j)
def gPow : F2 := gI cPow fun i j => .int (i ^ j.toNat)
def gLt : F2 := gI0 fun i j => .bl (decide (i < j))
def gLe : F2 := gI0 fun i j => .bl (decide (i ≤ j))
def gGt : F2 := gI0 fun i j => .bl (decide (j < i))
def gGe : F2 := gI0 fun i j => .bl (decide (j ≤ i))
theorem ok_sub : R2Ok cf (rI0 fun i j => .int (i - j)) gSub := ok_I0 fun _ _ _ _ _ => .int _
theorem ok_mod : R2Ok cf (rI (fun _ j => 0 < j) fun i j => .int (i % j)) gMod := ok_I (fun i j h => by simpa [cPos] using h) fun _ _ _ _ _ => .int _
theorem ok_div : R2Ok cf (rI CDiv fun i j => .int (i / j)) gDiv := ok_I (fun i j h => by simpa [cDiv, CDiv] using h) fun _ _ _ _ _ => .int _
theorem ok_pow : R2Ok cf (rI CPow fun i j => .int (i ^ j.toNat)) gPow := ok_I (fun i j h => by
  simp only [cPow, Bool.and_eq_true, decide_eq_true_eq] at h
  exact ⟨h.1.1, h.1.2, h.2⟩) fun _ _ _ _ _ => .int _
theorem ok_lt : R2Ok cf (rI0 fun i j => .bl (decide (i < j))) gLt := ok_I0 fun _ _ _ _ _ => .bl _
theorem ok_le : R2Ok cf (rI0 fun i j => .bl (decide (i ≤ j))) gLe := ok_I0 fun _ _ _ _ _ => .bl _
theorem ok_gt : R2Ok cf (rI0 fun i j => .bl (decide (j < i))) gGt := ok_I0 fun _ _ _ _ _ => .bl _
theorem ok_ge : R2Ok cf (rI0 fun i j => .bl (decide (j ≤ i))) gGe := ok_I0 fun _ _ _ _ _ => .bl _
/-! ### + and * of lists, tuples, texts -/
/-- the items of a list -/
def lstAt (A : AH) : AV → Option (List AV)
  | .obj n => match A[n]? with
    | some (.lst xs) => some xs
    | _ => none
  | _ => none
/-- a list's, a tuple's, the script's items -/
def seqAt (A : AH) : AV → Option (List AV)
  | .obj n => match A[n]? with
    | some (.lst xs) => some xs
    | _ => none
  | .scr ns => some (ns.map AV.int)
  | .tup xs => some xs
  | _ => none
theorem lstAt_ok {m : List Addr} {H : Hp} {A : AH} {x : AV} {v : V} {xs : List AV} (S : Sim cf m H A) (r : RelA cf.K m H x v) (h : lstAt A x = some xs) : ∃ n a vs, x = .obj n ∧ v = .ref a ∧ m[n]? = some a ∧ H a = some (.lst vs) ∧ RelAs cf.K m H xs vs := by
  unfold lstAt at h
  split at h
  · rename_i n
    split at h
    · rename_i ys e
      cases h
      obtain ⟨a, e1, e2, vs, e3, r'⟩ := S.obj r e
      exact ⟨n, a, vs, rfl, e1, e2, e3, r'⟩
    · cases h
  · cases h
theorem seqAt_ok {m : List Addr} {H : Hp} {A : AH} {x : AV} {v : V} {xs : List AV} (S : Sim cf m H A) (r : RelA cf.K m H x v) (h : seqAt A x = some xs) : ∃ a vs, v = .ref a ∧ (SqL cf.K H a vs ∨ SqT cf.K H a vs) ∧ RelAs cf.K m H xs vs := by
  cases x with
  | obj n =>
    obtain ⟨_, a, vs, _, e1, _, e3, r'⟩ := lstAt_ok S r (show lstAt A (.obj n) = some xs from h)
    exact ⟨a, vs, e1, .inl (SqL.of e3), r'⟩
  | scr ns =>
    cases h
    cases r with
    | scr h => exact ⟨_, _, rfl, .inl h.sq, RelAs.ints ns⟩
  | tup ys =>
    cases h
    obtain ⟨a, vs, e1, e2, r'⟩ := r.to_tup
    exact ⟨a, vs, e1, .inr (SqT.of e2), r'⟩
  | _ => cases h
def gCat : F2 := fun x y A => match lstAt A x, lstAt A y with
  | some xs, some ys => if xs.length + ys.length < big then .ok (.obj A.length) (A ++ [.lst (xs ++ ys)]) else .er
  | _, _ => .er
theorem ok_cat : R2Ok cf rCat gCat := fun W m H A σ Q x y v w S rx ry P => by
  unfold gCat at P
  split at P
  · rename_i xs ys e1 e2
    obtain ⟨hl, P⟩ := post_if P
    obtain ⟨_, a, vs, _, rfl, _, h1, r1⟩ := lstAt_ok S rx e1
    obtain ⟨_, b, ws, _, rfl, _, h2, r2⟩ := lstAt_ok S ry e2
    exact ⟨a, b, vs, ws, rfl, rfl, h1, h2, by rw [← r1.length, ← r2.length]; exact big_le hl, fun p hp => new_list S (r1.app r2) P hp⟩
  · exact P.elim
def gCatT : F2 := fun x y A => match x, y with
  | .tup xs, .tup ys => if xs.length + ys.length < big then .ok (.tup (xs ++ ys)) A else .er
  | _, _ => .er
theorem RelAs.nils {K : PySem.W.Frag} {m : List Addr} {H : Hp} {xs : List AV} (r : RelAs K m H xs []) : xs = [] := by
  have e := r.length
  cases xs with
  | nil => rfl
  | cons _ _ => simp at e
theorem ok_catT : R2Ok cf (rCatA cf.K) gCatT := fun W m H A σ Q x y v w S rx ry P => by
  unfold gCatT at P
  split at P
  · rename_i xs ys
    obtain ⟨hl, P⟩ := post_if P
    obtain ⟨a, vs, rfl, h1, r1⟩ := rx.to_tup
    obtain ⟨b, ws, rfl, h2, r2⟩ := ry.to_tup
    refine ⟨a, b, vs, ws, rfl, rfl, SqT.of h1, SqT.of h2, by rw [← r1.length, ← r2.length]; exact big_le hl, fun z => ?_, fun _ z => ?_, fun _ _ p hp => new_tup S (r1.app r2) P hp⟩
    · subst z
      have e := r1.nils
      subst e
      exact P m H _ (Go.refl S) ry
    · subst z
      have e := r2.nils
      subst e
      rw [List.append_nil] at P
      exact P m H _ (Go.refl S) rx
  · exact P.elim
def gCatS : F2 := fun x y A => match x, y with
  | .str a, .str b => if a.length + b.length < big then .ok (.str (a ++ b)) A else .er
  | _, _ => .er
theorem ok_catS : R2Ok cf (fun x y H Q => ∃ i j, x = .str i ∧ y = .str j ∧ i.length + j.length ≤ sizeLine ∧ Q (.str (i ++ j)) H) gCatS := fun W m H A σ Q x y v w S rx ry P => by
  unfold gCatS at P
  split at P
  · rename_i a b
    obtain ⟨hl, P⟩ := post_if P
    exact ⟨a, b, rx.to_str, ry.to_str, big_le hl, P m H _ (Go.refl S) (.str _)⟩
  · exact P.elim
/-- x + y, of any kinds -/
def gAdd : F2 := fun x y A => match x with
  | .int _ => gI0 (fun i j => .int (i + j)) x y A
  | .str _ => gCatS x y A
  | .tup _ => gCatT x y A
  | _ => gCat x y A
abbrev rAddAll (K : PySem.W.Frag) : R2 := fun x y H Q => (rI0 (fun i j => .int (i + j)) x y H Q) ∨ ((∃ i j, x = .str i ∧ y = .str j ∧ i.length + j.length ≤ sizeLine ∧ Q (.str (i ++ j)) H) ∨ (rCatA K x y H Q ∨ rCat x y H Q))
theorem op_addAll : OpR X (binaryOp .Add) (rAddAll X.K) := op_add.or (op_add_str.or (op_catA.or op_cat))
theorem ok_addAll : R2Ok cf (rAddAll cf.K) gAdd := fun W m H A σ Q x y v w S rx ry P => by
  unfold gAdd at P
  split at P
  · exact .inl (ok_I0 (fun _ _ _ _ _ => .int _) W m H A σ Q _ y v w S rx ry P)
  · exact .inr (.inl (ok_catS W m H A σ Q _ y v w S rx ry P))
  · exact .inr (.inr (.inl (ok_catT W m H A σ Q _ y v w S rx ry P)))
  · exact .inr (.inr (.inr (ok_cat W m H A σ Q _ y v w S rx ry P)))
def gRep : F2 := fun x y A => match lstAt A x, y with
  | some xs, .int k => if -1000000 < k ∧ k < 1000000 ∧ xs.length * k.toNat < big then .ok (.obj A.length) (A ++ [.lst (List.replicate k.toNat xs).flatten]) else .er
  | _, _ => .er
theorem RelAs.rep {K : PySem.W.Frag} {m : List Addr} {H : Hp} {xs : List AV} {vs : List V} (r : RelAs K m H xs vs) : ∀ n : Nat, RelAs K m H (List.replicate n xs).flatten (List.replicate n vs).flatten
  | 0 => .nil
  | n + 1 => by
    rw [List.replicate_succ, List.replicate_succ, List.flatten_cons, List.flatten_cons]
    exact r.app (RelAs.rep r n)
theorem ok_rep : R2Ok cf rRep gRep := fun W m H A σ Q x y v w S rx ry P => by
  unfold gRep at P
  split at P
  · rename_i xs k e1
    obtain ⟨⟨k1, k2, hl⟩, P⟩ := post_if P
    obtain ⟨_, a, vs, _, rfl, _, h1, r1⟩ := lstAt_ok S rx e1
    exact ⟨a, k, vs, rfl, ry.to_int, h1, by omega, by omega, by rw [← r1.length]; exact big_le hl, fun p hp => new_list S (r1.rep _) P hp⟩
  · exact P.elim
def gRepT : F2 := fun x y A => match x, y with
  | .tup xs, .int k => if 1 ≤ xs.length ∧ 2 ≤ k ∧ k ≤ 1000 ∧ xs.length ≤ 1000 then .ok (.tup (List.replicate k.toNat xs).flatten) A else .er
  | _, _ => .er
theorem ok_repT : R2Ok cf (rRepT cf.K) gRepT := fun W m H A σ Q x y v w S rx ry P => by
  unfold gRepT at P
  split at P
  · rename_i xs k
    obtain ⟨⟨h0, h1, h2, h3⟩, P⟩ := post_if P
    obtain ⟨a, vs, rfl, e, r⟩ := rx.to_tup
    have hl := r.length
    exact ⟨a, k, vs, rfl, ry.to_int, SqT.of e, fun z => by rw [z] at hl; rw [hl] at h0; exact absurd h0 (by decide), h1, h2, by rw [← hl]; exact h3, fun p hp => new_tup S (r.rep _) P hp⟩
  · exact P.elim
def gMul : F2 := fun x y A => match x with
  | .int _ => gI cMul (fun i j => .int (i * j)) x y A
  | .tup _ => gRepT x y A
  | _ => gRep x y A
theorem op_mulAll : OpR X (binaryOp .Mult) (fun x y H Q => rI CMul (fun i j => .int (i * j)) x y H Q ∨ (rRepT X.K x y H Q ∨ rRep x y H Q)) := op_mul.or (op_repT.or op_rep)
theorem ok_mulAll : R2Ok cf (fun x y H Q => rI CMul (fun i j => .int (i * j)) x y H Q ∨ (rRepT cf.K x y H Q ∨ rRep x y H Q)) gMul := fun W m H A σ Q x y v w S rx ry P => by
  unfold gMul at P
  split at P
  · exact .inl (ok_I cMul_ok (fun _ _ _ _ _ => .int _) W m H A σ Q _ y v w S rx ry P)
  · exact .inr (.inl (ok_repT W m H A σ Q _ y v w S rx ry P))
  · exact .inr (.inr (ok_rep W m H A σ Q _ y v w S rx ry P))

/-! ### == of data -/
def mapO {α β : Type} (f : α → Option β) : List α → Option (List β)
  | [] => some []
  | x :: xs => match f x, mapO f xs with
    | some d, some ds => some (d :: ds)
    | _, _ => none
theorem mapO_cons {α β : Type} {f : α → Option β} {x : α} {xs : List α} {ds : List β} (h : mapO f (x :: xs) = some ds) : ∃ d es, f x = some d ∧ mapO f xs = some es ∧ ds = d :: es := by
  unfold mapO at h
  split at h
  · rename_i d es h1 h2
    cases h
    exact ⟨d, es, h1, h2, rfl⟩
  · cases h
def AV.toP (A : AH) : Nat → AV → Option PyData
  | 0, _ => none
  | n + 1, x => match x with
    | .non => some .none
    | .bl b => some (.bool b)
    | .int i => some (.int i)
    | .str s => if PyData.strOk s = true then some (.str s) else none
    | .scr ns => some (.list (ns.map PyData.int))
    | .tup xs => (mapO (AV.toP A n) xs).map .tuple
    | .obj k => match A[k]? with
      | some (.lst xs) => (mapO (AV.toP A n) xs).map .list
      | _ => none
    | .ty _ => none
theorem DpAll.ints {K : PySem.W.Frag} {H : Hp} : ∀ ns : List Int, DpAll K H (ns.map V.int) (ns.map PyData.int)
  | [] => .nil
  | n :: ns => .cons (.int n) (DpAll.ints ns)
theorem mapO_ok {m : List Addr} {H : Hp} {f : AV → Option PyData} (hf : ∀ (x : AV) (d : PyData) (v : V), f x = some d → RelA cf.K m H x v → Dp cf.K H v d) :
    ∀ (xs : List AV) (ds : List PyData) (vs : List V), mapO f xs = some ds → RelAs cf.K m H xs vs → DpAll cf.K H vs ds
  | [], ds, vs, h, r => by
    cases h
    cases r
    exact .nil
  | x :: xs, ds, vs, h, r => by
    obtain ⟨d, es, h1, h2, rfl⟩ := mapO_cons h
    cases r with
    | cons r1 r2 => exact .cons (hf x d _ h1 r1) (mapO_ok hf xs es _ h2 r2)
theorem toP_ok {m : List Addr} {H : Hp} {A : AH} (S : Sim cf m H A) : ∀ (n : Nat) (x : AV) (d : PyData) (v : V), AV.toP A n x = some d → RelA cf.K m H x v → Dp cf.K H v d
  | 0, x, d, v, h, r => by simp [AV.toP] at h
  | n + 1, .non, d, v, h, r => by
    simp [AV.toP] at h
    subst h
    rw [r.to_non]
    exact .non
  | n + 1, .bl b, d, v, h, r => by
    simp [AV.toP] at h
    subst h
    rw [r.to_bl]
    exact .bl b
  | n + 1, .int i, d, v, h, r => by
    simp [AV.toP] at h
    subst h
    rw [r.to_int]
    exact .int i
  | n + 1, .str s, d, v, h, r => by
    simp [AV.toP] at h
    obtain ⟨_, h⟩ := h
    subst h
    rw [r.to_str]
    exact .str s
  | n + 1, .scr ns, d, v, h, r => by
    simp [AV.toP] at h
    subst h
    cases r with
    | scr h => exact .lst h.sq (DpAll.ints ns)
  | n + 1, .tup xs, d, v, h, r => by
    simp only [AV.toP, Option.map_eq_some_iff] at h
    obtain ⟨ds, h, rfl⟩ := h
    obtain ⟨a, vs, rfl, e, r'⟩ := r.to_tup
    exact .tup (SqT.of e) (mapO_ok (toP_ok S n) xs ds vs h r')
  | n + 1, .obj k, d, v, h, r => by
    simp only [AV.toP] at h
    split at h
    · rename_i xs e
      simp only [Option.map_eq_some_iff] at h
      obtain ⟨ds, h, rfl⟩ := h
      obtain ⟨a, rfl, _, vs, e3, r'⟩ := S.obj r e
      exact .lst (SqL.of e3) (mapO_ok (toP_ok S n) xs ds vs h r')
    · cases h
  | n + 1, .ty _, d, v, h, r => by simp [AV.toP] at h
theorem canInts : ∀ ns : List Int, PyData.canLayAll0 (ns.map PyData.int) = true ∧ PyData.depthAll (ns.map PyData.int) = 0
  | [] => ⟨rfl, rfl⟩
  | n :: ns => by
    obtain ⟨a, b⟩ := canInts ns
    rw [List.map_cons, PyData.canLayAll0, PyData.depthAll, a, b]
    exact ⟨rfl, rfl⟩
theorem mapO_shape {f : AV → Option PyData} {n : Nat} (hf : ∀ (x : AV) (d : PyData), f x = some d → d.canLay0 = true ∧ d.depth ≤ n) : ∀ (xs : List AV) (ds : List PyData), mapO f xs = some ds → PyData.canLayAll0 ds = true ∧ PyData.depthAll ds ≤ n
  | [], ds, h => by
    cases h
    exact ⟨rfl, Nat.zero_le _⟩
  | x :: xs, ds, h => by
    obtain ⟨d, es, h1, h2, rfl⟩ := mapO_cons h
    obtain ⟨a1, a2⟩ := hf x d h1
    obtain ⟨b1, b2⟩ := mapO_shape hf xs es h2
    rw [PyData.canLayAll0, PyData.depthAll, a1, b1]
    exact ⟨rfl, by omega⟩
theorem toP_shape {A : AH} : ∀ (n : Nat) (x : AV) (d : PyData), AV.toP A n x = some d → d.canLay0 = true ∧ d.depth ≤ n
  | 0, x, d, h => by simp [AV.toP] at h
  | n + 1, .non, d, h => by
    simp [AV.toP] at h
    subst h
    exact ⟨rfl, Nat.zero_le _⟩
  | n + 1, .bl b, d, h => by
    simp [AV.toP] at h
    subst h
    exact ⟨rfl, Nat.zero_le _⟩
  | n + 1, .int i, d, h => by
    simp [AV.toP] at h
    subst h
    exact ⟨rfl, Nat.zero_le _⟩
  | n + 1, .str s, d, h => by
    simp [AV.toP] at h
    obtain ⟨h1, h⟩ := h
    subst h
    exact ⟨h1, Nat.zero_le _⟩
  | n + 1, .scr ns, d, h => by
    simp [AV.toP] at h
    subst h
    rw [PyData.canLay0, PyData.depth, (canInts ns).1, (canInts ns).2]
    exact ⟨rfl, by omega⟩
  | n + 1, .tup xs, d, h => by
    simp only [AV.toP, Option.map_eq_some_iff] at h
    obtain ⟨ds, h, rfl⟩ := h
    obtain ⟨h1, h2⟩ := mapO_shape (toP_shape n) xs ds h
    rw [PyData.canLay0, PyData.depth]
    exact ⟨h1, by omega⟩
  | n + 1, .obj k, d, h => by
    simp only [AV.toP] at h
    split at h
    · rename_i xs e
      simp only [Option.map_eq_some_iff] at h
      obtain ⟨ds, h, rfl⟩ := h
      obtain ⟨h1, h2⟩ := mapO_shape (toP_shape n) xs ds h
      rw [PyData.canLay0, PyData.depth]
      exact ⟨h1, by omega⟩
    · cases h
  | n + 1, .ty _, d, h => by simp [AV.toP] at h
theorem toP_shaped {A : AH} {n : Nat} {x : AV} {d : PyData} (h : AV.toP A n x = some d) (hn : n ≤ 64) : SeqAt.shaped d = true := by
  obtain ⟨h1, h2⟩ := toP_shape n x d h
  unfold SeqAt.shaped
  rw [h1, decide_eq_true (Nat.le_trans h2 hn)]
  rfl
def gEq : F2 := fun x y A => match AV.toP A 16 x, AV.toP A 16 y with
  | some d, some e => .ok (.bl (PyData.eqv d e)) A
  | _, _ => .er
def gNe : F2 := fun x y A => match AV.toP A 16 x, AV.toP A 16 y with
  | some d, some e => .ok (.bl (!PyData.eqv d e)) A
  | _, _ => .er
theorem ok_eq : R2Ok cf (rEqD cf.K) gEq := fun W m H A σ Q x y v w S rx ry P => by
  unfold gEq at P
  split at P
  · rename_i d e h1 h2
    exact ⟨d, e, toP_ok S 16 x d v h1 rx, toP_ok S 16 y e w h2 ry, toP_shaped h1 (by decide), toP_shaped h2 (by decide), P m H _ (Go.refl S) (.bl _)⟩
  · exact P.elim
theorem ok_ne : R2Ok cf (rNeD cf.K) gNe := fun W m H A σ Q x y v w S rx ry P => by
  unfold gNe at P
  split at P
  · rename_i d e h1 h2
    exact ⟨d, e, toP_ok S 16 x d v h1 rx, toP_ok S 16 y e w h2 ry, toP_shaped h1 (by decide), toP_shaped h2 (by decide), P m H _ (Go.refl S) (.bl _)⟩
  · exact P.elim
/-! ### is None -/
def AV.isN : AV → Bool
  | .non => true
  | _ => false
def gIsN : F2 := fun x y A => match y with
  | .non => .ok (.bl x.isN) A
  | _ => .er
def gNotN : F2 := fun x y A => match y with
  | .non => .ok (.bl (!x.isN)) A
  | _ => .er
theorem isN_dec {K : PySem.W.Frag} {m : List Addr} {H : Hp} {x : AV} {v : V} (r : RelA K m H x v) : decide (v = V.non) = x.isN := by
  cases r <;> simp [AV.isN]
theorem ok_isN : R2Ok cf (fun x y H Q => y = .non ∧ Q (.bl (decide (x = .non))) H) gIsN := fun W m H A σ Q x y v w S rx ry P => by
  unfold gIsN at P
  split at P
  · refine ⟨ry.to_non, ?_⟩
    rw [isN_dec rx]
    exact P m H _ (Go.refl S) (.bl _)
  · exact P.elim
theorem ok_notN : R2Ok cf (fun x y H Q => y = .non ∧ Q (.bl (!decide (x = .non))) H) gNotN := fun W m H A σ Q x y v w S rx ry P => by
  unfold gNotN at P
  split at P
  · refine ⟨ry.to_non, ?_⟩
    rw [isN_dec rx]
    exact P m H _ (Go.refl S) (.bl _)
  · exact P.elim
/-! ### in a list or tuple of flat items -/
def AV.flat : AV → Bool
  | .non => true
  | .bl _ => true
  | .int _ => true
  | .str _ => true
  | _ => false
def AV.eqF : AV → AV → Bool
  | .non, .non => true
  | .bl a, .bl b => a == b
  | .bl a, .int b => (if a then 1 else 0) == b
  | .int a, .bl b => a == (if b then 1 else 0)
  | .int a, .int b => a == b
  | .str a, .str b => a == b
  | _, _ => false
theorem flat_ok {K : PySem.W.Frag} {m : List Addr} {H : Hp} {x : AV} {v : V} (r : RelA K m H x v) (h : x.flat = true) : flatV v = true := by
  cases r <;> first | rfl | exact h
theorem flats_ok {K : PySem.W.Frag} {m : List Addr} {H : Hp} : ∀ {xs : List AV} {vs : List V}, RelAs K m H xs vs → xs.all AV.flat = true → vs.all flatV = true
  | _, _, .nil, _ => rfl
  | _, _, .cons r t, h => by
    rw [List.all_cons, Bool.and_eq_true] at h
    rw [List.all_cons, flat_ok r h.1, flats_ok t h.2]
    rfl
theorem eqF_ok {K : PySem.W.Frag} {m : List Addr} {H : Hp} {x y : AV} {v w : V} (r : RelA K m H x v) (q : RelA K m H y w) (hx : x.flat = true) (hy : y.flat = true) : eqV v w = x.eqF y := by
  cases r <;> first | (exact absurd hx (by decide)) | (cases q <;> first | rfl | (exact absurd hy (by decide)))
theorem inF_ok {K : PySem.W.Frag} {m : List Addr} {H : Hp} {x : AV} {v : V} (r : RelA K m H x v) (hx : x.flat = true) : ∀ {xs : List AV} {vs : List V}, RelAs K m H xs vs → xs.all AV.flat = true → inV v vs = xs.any fun y => y.eqF x
  | _, _, .nil, _ => rfl
  | _, _, .cons q t, h => by
    rw [List.all_cons, Bool.and_eq_true] at h
    unfold inV
    rw [List.any_cons, List.any_cons, eqF_ok q r h.1 hx]
    congr 1
    exact inF_ok r hx t h.2
def gInS (neg : Bool) : F2 := fun x y A => match seqAt A y with
  | some xs => if x.flat = true ∧ xs.all AV.flat = true then .ok (.bl (if neg = true then !(xs.any fun z => z.eqF x) else xs.any fun z => z.eqF x)) A else .er
  | _ => .er
theorem ok_inS (neg : Bool) : R2Ok cf (rIn cf.K neg) (gInS neg) := fun W m H A σ Q x y v w S rx ry P => by
  unfold gInS at P
  split at P
  · rename_i xs e
    obtain ⟨⟨h1, h2⟩, P⟩ := post_if P
    obtain ⟨a, vs, rfl, hs, r⟩ := seqAt_ok S ry e
    refine ⟨a, vs, rfl, hs, flat_ok rx h1, flats_ok r h2, ?_⟩
    rw [inF_ok rx h1 r h2]
    exact P m H _ (Go.refl S) (.bl _)
  · exact P.elim
/-! ### subscripts -/
def gIxS : F2 := fun x y A => match y with
  | .int i => match x with
    | .str z => if z.length < big then match atI z.cps.toList i with
      | some c => .ok (.str ⟨#[c]⟩) A
      | none => .er
      else .er
    | _ => match seqAt A x with
      | some xs => match atI xs i with
        | some v => .ok v A
        | none => .er
      | none => .er
  | _ => .er
theorem RelAs.atI {K : PySem.W.Frag} {m : List Addr} {H : Hp} {xs : List AV} {vs : List V} {i : Int} {x : AV} (r : RelAs K m H xs vs) (h : L2.atI xs i = some x) : ∃ v, L2.atI vs i = some v ∧ RelA K m H x v := by
  unfold L2.atI at h ⊢
  rw [r.length] at h
  cases e : ixN vs.length i with
  | none =>
    rw [e] at h
    cases h
  | some j =>
    rw [e] at h
    exact r.get h
theorem ok_ixS : R2Ok cf (rIx cf.K) gIxS := fun W m H A σ Q x y v w S rx ry P => by
  unfold gIxS at P
  split at P
  · rename_i i
    split at P
    · rename_i z
      obtain ⟨hl, P⟩ := post_if P
      split at P
      · rename_i c e
        exact .inr (.inr ⟨z, i, c, rx.to_str, ry.to_int, big_le hl, e, P m H _ (Go.refl S) (.str _)⟩)
      · exact P.elim
    · split at P
      · rename_i xs e
        split at P
        · rename_i u e2
          obtain ⟨a, vs, rfl, hs, r⟩ := seqAt_ok S rx e
          obtain ⟨u', h3, r3⟩ := r.atI e2
          rcases hs with hs | hs
          · exact .inl ⟨a, vs, i, u', rfl, ry.to_int, hs, h3, P m H _ (Go.refl S) r3⟩
          · exact .inr (.inl ⟨a, vs, i, u', rfl, ry.to_int, hs, h3, P m H _ (Go.refl S) r3⟩)
        · exact P.elim
      · exact P.elim
  · exact P.elim
end
end Dn

set_option maxRecDepth 100000
set_option maxHeartbeats 1000000
/-! Dn, part D: statements, targets, loops, comprehensions. -/
namespace Dn
open PySem L2

inductive SRes where
  | nx (ρ : Rho) (A : AH) | rt (v : AV) (A : AH) | bk (ρ : Rho) (A : AH) | ct (ρ : Rho) (A : AH) | exc (e : Ex) (ρ : Rho) (A : AH) | er
abbrev FS := Rho → AH → SRes
def SPost (cf : Cfg) (W : WX) (m : List Addr) (H : Hp) (D : Ends) : SRes → Prop
  | .nx ρ A => ∀ m' H' σ', Go cf m H m' H' A → Loc cf.K m' H' ρ σ' → D.nx σ' H'
  | .rt v A => ∀ m' H' u, Go cf m H m' H' A → RelA cf.K m' H' v u → D.rt u H'
  | .bk ρ A => ∀ m' H' σ', Go cf m H m' H' A → Loc cf.K m' H' ρ σ' → D.bk σ' H'
  | .ct ρ A => ∀ m' H' σ', Go cf m H m' H' A → Loc cf.K m' H' ρ σ' → D.ct σ' H'
  | .exc e ρ A => ∀ m' H' σ' cls d, Go cf m H m' H' A → Loc cf.K m' H' ρ σ' → ExcR cf m' H' e cls d → W cls d σ' H'
  | .er => False
theorem SPost.mono {cf : Cfg} {W : WX} {m m1 : List Addr} {H H1 : Hp} {A1 : AH} {D : Ends} {r : SRes} (g : Go cf m H m1 H1 A1) (h : SPost cf W m H D r) : SPost cf W m1 H1 D r := by
  cases r with
  | nx ρ A => exact fun m' H' σ' g' l => h m' H' σ' (g.trans g') l
  | rt ρ A => exact fun m' H' σ' g' l => h m' H' σ' (g.trans g') l
  | bk ρ A => exact fun m' H' σ' g' l => h m' H' σ' (g.trans g') l
  | ct ρ A => exact fun m' H' σ' g' l => h m' H' σ' (g.trans g') l
  | exc e ρ A => exact fun m' H' σ' cls d g' l x => h m' H' σ' cls d (g.trans g') l x
  | er => exact h
def SOk (cf : Cfg) (W : WX) (t : TS) (f : FS) : Prop := ∀ (ρ : Rho) (σ : L2.St) (m : List Addr) (H : Hp) (A : AH) (D : Ends), Sim cf m H A → Loc cf.K m H ρ σ → SPost cf W m H D (f ρ A) → t D σ H
structure CS (cf : Cfg) (X : Cx) (W : WX) (st : Stmt) (f : FS) : Prop where
  ex : ∃ t, PS X st t ∧ SOk cf W t f
structure CB (cf : Cfg) (X : Cx) (W : WX) (sts : List Stmt) (f : FS) : Prop where
  ex : ∃ t, PSs X sts t ∧ SOk cf W t f

/-! ### to know less of some places -/
def unkO : AO → AO
  | .lk kvs => .lk kvs
  | _ => .unk
def forg : List Bool → AH → AH
  | [], A => A
  | _ :: _, [] => []
  | true :: bs, o :: os => unkO o :: forg bs os
  | false :: bs, o :: os => o :: forg bs os
theorem forg_len : ∀ (bs : List Bool) (A : AH), (forg bs A).length = A.length
  | [], _ => rfl
  | _ :: _, [] => rfl
  | true :: bs, o :: os => by rw [forg, List.length_cons, List.length_cons, forg_len bs os]
  | false :: bs, o :: os => by rw [forg, List.length_cons, List.length_cons, forg_len bs os]
theorem forg_at : ∀ {bs : List Bool} {A : AH} {n : Nat} {o : AO}, (forg bs A)[n]? = some o → ∃ o', A[n]? = some o' ∧ (o = o' ∨ o = unkO o')
  | [], _, _, o, h => ⟨o, h, .inl rfl⟩
  | _ :: _, [], n, o, h => by simp [forg] at h
  | true :: bs, q :: os, 0, o, h => ⟨q, rfl, .inr (by simp [forg] at h; exact h.symm)⟩
  | false :: bs, q :: os, 0, o, h => ⟨q, rfl, .inl (by simp [forg] at h; exact h.symm)⟩
  | true :: bs, q :: os, n + 1, o, h => forg_at (bs := bs) (A := os) (by simpa [forg] using h)
  | false :: bs, q :: os, n + 1, o, h => forg_at (bs := bs) (A := os) (by simpa [forg] using h)
theorem ObjS.unk {cf : Cfg} {m : List Addr} {H : Hp} {a : Addr} {o : AO} (h : ObjS cf m H a o) : ObjS cf m H a (unkO o) := by
  cases o with
  | lst xs => obtain ⟨vs, e, _⟩ := h; exact ⟨_, e, trivial⟩
  | dK xs => obtain ⟨vs, e, _⟩ := h; exact ⟨_, e, trivial⟩
  | dT xs => obtain ⟨vs, e, _⟩ := h; exact ⟨_, e, trivial⟩
  | ins c fs => obtain ⟨dx, vs, e, _⟩ := h; exact ⟨_, e, trivial⟩
  | slt c fs =>
    obtain ⟨dx, vs, _, h, _⟩ := h
    rcases h with ⟨e, _⟩ | ⟨e, _⟩
    · exact ⟨_, e, trivial⟩
    · exact ⟨_, e, slO_mn⟩
  | lk kvs => exact h
  | exn c fs =>
    rcases h with ⟨_, e⟩ | ⟨_, _, _, e, _⟩
    · exact ⟨_, e, exoH_mn⟩
    · exact ⟨_, e, exoH_mn⟩
  | unk => exact h
theorem Sim.forg {cf : Cfg} {m : List Addr} {H : Hp} {A : AH} (S : Sim cf m H A) (bs : List Bool) : Sim cf m H (Dn.forg bs A) := by
  refine ⟨by rw [forg_len]; exact S.len, S.nd, fun n a o hm hA => ?_, S.tab⟩
  obtain ⟨o', h1, h2⟩ := forg_at hA
  rcases h2 with rfl | rfl
  · exact S.at_ n a o hm h1
  · exact (S.at_ n a o' hm h1).unk
def fForg (bs : List Bool) (f : FS) : FS := fun ρ A => f ρ (forg bs A)
theorem cs_forg {cf : Cfg} {X : Cx} {W : WX} {st : Stmt} {f : FS} (bs : List Bool) (h : CS cf X W st f) : CS cf X W st (fForg bs f) := let ⟨t, p, o⟩ := h.ex; ⟨t, p, fun ρ σ m H A D S L P => o ρ σ m H (Dn.forg bs A) D (S.forg bs) L P⟩
theorem cb_forg {cf : Cfg} {X : Cx} {W : WX} {sts : List Stmt} {f : FS} (bs : List Bool) (h : CB cf X W sts f) : CB cf X W sts (fForg bs f) := let ⟨t, p, o⟩ := h.ex; ⟨t, p, fun ρ σ m H A D S L P => o ρ σ m H (Dn.forg bs A) D (S.forg bs) L P⟩
/-- an expression's result within a statement -/
def Res.s {α : Type} (r : Res α) (ρ : Rho) (k : α → AH → SRes) : SRes :=
  match r with
  | .ok a A => k a A
  | .exc e A => .exc e ρ A
  | .er => .er
@[simp] theorem Res.s_ok {α : Type} (a : α) (A : AH) (ρ : Rho) (k : α → AH → SRes) : (Res.ok a A).s ρ k = k a A := (rfl)
@[simp] theorem Res.s_exc {α : Type} (e : Ex) (A : AH) (ρ : Rho) (k : α → AH → SRes) : (Res.exc e A : Res α).s ρ k = .exc e ρ A := (rfl)
@[simp] theorem Res.s_er {α : Type} (ρ : Rho) (k : α → AH → SRes) : (Res.er : Res α).s ρ k = .er := (rfl)
/-- first an expression, then the rest of the statement -/
theorem Ok.thenS {α β : Type} {cf : Cfg} {W : WX} {Rl : List Addr → Hp → α → β → Prop} {t : L2.St → Hp → (β → Hp → Prop) → Prop} {f : Rho → AH → Res α} (h : Ok cf W Rl t f)
    {ρ : Rho} {σ : L2.St} {m : List Addr} {H : Hp} {A : AH} {D : Ends} {R : β → Hp → Prop} {k : α → AH → SRes} (S : Sim cf m H A) (L : Loc cf.K m H ρ σ) (P : SPost cf W m H D ((f ρ A).s ρ k))
    (hk : ∀ x v m1 H1 A1, f ρ A = .ok x A1 → Go cf m H m1 H1 A1 → Loc cf.K m1 H1 ρ σ → Rl m1 H1 x v → SPost cf W m1 H1 D (k x A1) → R v H1) : t σ H R := by
  refine h ρ σ m H A R S L ?_
  cases e : f ρ A with
  | ok x A1 =>
    rw [e] at P
    exact fun m1 H1 v g r => hk x v m1 H1 A1 e g (L.mono g.pre g.fz) r (SPost.mono g P)
  | exc x A1 =>
    rw [e] at P
    exact fun m1 H1 cls d g r => P m1 H1 σ cls d g (L.mono g.pre g.fz) r
  | er =>
    rw [e] at P
    exact P.elim

section
variable {cf : Cfg} {X : Cx} {W : WX}
/-! ### blocks -/
def fNx : FS := fun ρ A => .nx ρ A
def fSeq (f g : FS) : FS := fun ρ A => match f ρ A with
  | .nx ρ' A' => g ρ' A'
  | r => r
theorem ok_nx : SOk cf W tNext fNx := fun ρ σ m H A D S L P => P m H σ (Go.refl S) L
theorem ok_seq {t u : TS} {f g : FS} (hf : SOk cf W t f) (hg : SOk cf W u g) : SOk cf W (tSeq t u) (fSeq f g) := fun ρ σ m H A D S L P => by
  refine hf ρ σ m H A _ S L ?_
  unfold fSeq at P
  cases e : f ρ A with
  | nx ρ' A' =>
    rw [e] at P
    exact fun m' H' σ' g' l => hg ρ' σ' m' H' A' D g'.sim l (SPost.mono g' P)
  | rt v A' => rw [e] at P; exact P
  | bk ρ' A' => rw [e] at P; exact P
  | ct ρ' A' => rw [e] at P; exact P
  | exc x ρ' A' => rw [e] at P; exact P
  | er => rw [e] at P; exact P
theorem cb_nil : CB cf X W [] fNx := ⟨_, pss_nil, ok_nx⟩
theorem cb_one {s : Stmt} {f : FS} (h : CS cf X W s f) : CB cf X W [s] f := let ⟨_, p, o⟩ := h.ex; ⟨_, pss_one p, o⟩
theorem cb_cons {s : Stmt} {ss : List Stmt} {f g : FS} (h : CS cf X W s f) (k : CB cf X W ss g) : CB cf X W (s :: ss) (fSeq f g) := let ⟨_, p, o⟩ := h.ex; let ⟨_, p', o'⟩ := k.ex; ⟨_, pss_cons p p', ok_seq o o'⟩
theorem cs_pass {pos : Pos} : CS cf X W (.Pass pos) fNx := ⟨_, ps_pass, ok_nx⟩
def fBk : FS := fun ρ A => .bk ρ A
def fCt : FS := fun ρ A => .ct ρ A
theorem cs_break {pos : Pos} : CS cf X W (.Break pos) fBk := ⟨_, ps_break, fun ρ σ m H A D S L P => P m H σ (Go.refl S) L⟩
theorem cs_cont {pos : Pos} : CS cf X W (.Continue pos) fCt := ⟨_, ps_continue, fun ρ σ m H A D S L P => P m H σ (Go.refl S) L⟩
theorem cs_doc {x j pos pos'} : CS cf X W (.Expr (.Constant (.str x) j pos) pos') fNx := ⟨_, ps_doc, ok_nx⟩
/-- never come to -/
def fEr : FS := fun _ _ => .er
theorem cs_never {s : Stmt} : CS cf X W s fEr := ⟨_, ps_never, fun ρ σ m H A D S L P => P⟩
theorem cb_never {s : List Stmt} : CB cf X W s fEr := ⟨_, pss_never, fun ρ σ m H A D S L P => P⟩
def fDrop (f : FE) : FS := fun ρ A => (f ρ A).s ρ fun _ A => .nx ρ A
theorem ok_drop {t : TE} {f : FE} (h : EOk cf W t f) : SOk cf W (tDrop t) (fDrop f) := fun ρ σ m H A D S L P => h.thenS S L P fun x v m1 H1 A1 _ g L1 r P1 => P1 m1 H1 σ (Go.refl g.sim) L1
theorem cs_expr {e : Expr} {pos : Pos} {f : FE} (h : CE cf X W e f) (hs : swapsWith e none pos.line X.env = pure false := by rfl) : CS cf X W (.Expr e pos) (fDrop f) := let ⟨_, p, o⟩ := h.ex; ⟨_, ps_expr p hs, ok_drop o⟩
def fRet (f : FE) : FS := fun ρ A => (f ρ A).s ρ fun v A => .rt v A
theorem ok_ret {t : TE} {f : FE} (h : EOk cf W t f) : SOk cf W (tRet t) (fRet f) := fun ρ σ m H A D S L P => h.thenS S L P fun x v m1 H1 A1 _ g L1 r P1 => P1 m1 H1 v (Go.refl g.sim) r
theorem cs_ret {e : Expr} {pos : Pos} {f : FE} (h : CE cf X W e f) : CS cf X W (.Return (some e) pos) (fRet f) := let ⟨_, p, o⟩ := h.ex; ⟨_, ps_ret p, ok_ret o⟩
def fRetN : FS := fun _ A => .rt .non A
theorem cs_retN {pos : Pos} : CS cf X W (.Return none pos) fRetN := ⟨_, ps_retN, fun ρ σ m H A D S L P => P m H .non (Go.refl S) .non⟩
def fIfS (c : FT) (f g : FS) : FS := fun ρ A => (c ρ A).s ρ fun b A => if b = true then f ρ A else g ρ A
theorem ok_ifS {c : TT} {t u : TS} {fc : FT} {f g : FS} (hc : TOk cf W c fc) (hf : SOk cf W t f) (hg : SOk cf W u g) : SOk cf W (tIfS c t u) (fIfS fc f g) := fun ρ σ m H A D S L P => by
  refine hc.thenS S L P fun x v m1 H1 A1 _ g L1 r P1 => ?_
  cases (show x = v from r)
  cases x with
  | true => exact hf ρ σ m1 H1 A1 D g.sim L1 P1
  | false => exact hg ρ σ m1 H1 A1 D g.sim L1 P1
theorem cs_if {c : Expr} {a b : List Stmt} {pos : Pos} {fc : FT} {f g : FS} (hc : CT cf X W c fc) (ha : CB cf X W a f) (hb : CB cf X W b g) : CS cf X W (.If c a b pos) (fIfS fc f g) :=
  let ⟨_, p, o⟩ := hc.ex; let ⟨_, p1, o1⟩ := ha.ex; let ⟨_, p2, o2⟩ := hb.ex; ⟨_, ps_if p p1 p2, ok_ifS o o1 o2⟩

/-! ### targets: ts the slots they store to -/
abbrev FG := AV → Rho → AH → SRes
def GOk (cf : Cfg) (W : WX) (t : TG) (g : FG) (ts : List Nat) : Prop := ∀ (ρ : Rho) (σ : L2.St) (m : List Addr) (H : Hp) (A : AH) (x : AV) (v : V) (Q : L2.St → Hp → Prop), Sim cf m H A → Loc cf.K m H ρ σ → RelA cf.K m H x v →
  SPost cf W m H { nx := fun σ' H' => (∀ vs : List Nat, (∀ i ∈ ts, i ∈ vs) → wipe σ' vs = wipe σ vs) → Q σ' H', rt := fun _ _ => False } (g x ρ A) → t v σ H Q
structure CG (cf : Cfg) (X : Cx) (W : WX) (e : Expr) (g : FG) (ts : List Nat) : Prop where
  ex : ∃ t, PG X e t ∧ GOk cf W t g ts
abbrev FGs := List AV → Rho → AH → SRes
def GsOk (cf : Cfg) (W : WX) (t : TGs) (g : FGs) (ts : List Nat) : Prop := ∀ (ρ : Rho) (σ : L2.St) (m : List Addr) (H : Hp) (A : AH) (xs : List AV) (vs : List V) (Q : L2.St → Hp → Prop), Sim cf m H A → Loc cf.K m H ρ σ → RelAs cf.K m H xs vs →
  SPost cf W m H { nx := fun σ' H' => (∀ ws : List Nat, (∀ i ∈ ts, i ∈ ws) → wipe σ' ws = wipe σ ws) → Q σ' H', rt := fun _ _ => False } (g xs ρ A) → t vs σ H Q
structure CGs (cf : Cfg) (X : Cx) (W : WX) (es : List Expr) (g : FGs) (ts : List Nat) : Prop where
  ex : ∃ t, PGs X es t ∧ GsOk cf W t g ts
theorem wipe_get (σ : L2.St) : ∀ (vs : List Nat) (k : Nat), (wipe σ vs)[k]? = if k ∈ vs then (σ[k]?.map fun _ => none) else σ[k]?
  | [], k => by simp [wipe]
  | v :: vs, k => by
    unfold wipe
    by_cases h : v = k
    · subst h
      rw [List.getElem?_set_self']
      rw [wipe_get σ vs v]
      simp only [List.mem_cons, true_or, if_true]
      split
      · cases σ[v]? <;> rfl
      · rfl
    · rw [List.getElem?_set_ne h, wipe_get σ vs k]
      have e : k ∈ v :: vs ↔ k ∈ vs := by
        rw [List.mem_cons]
        exact ⟨fun z => z.elim (fun q => absurd q.symm h) id, .inr⟩
      simp only [e]
theorem wipe_set {σ : L2.St} {i : Nat} {x : Option V} {vs : List Nat} (h : i ∈ vs) : wipe (σ.set i x) vs = wipe σ vs := by
  apply List.ext_getElem?
  intro k
  rw [wipe_get, wipe_get]
  by_cases e : i = k
  · subst e
    rw [if_pos h, if_pos h, List.getElem?_set_self']
    cases σ[i]? <;> rfl
  · rw [List.getElem?_set_ne e]
def gNm (i : Nat) : FG := fun x ρ A => .nx (ρ.set i (some x)) A
theorem ok_gname {i : Nat} : GOk cf W (gName i) (gNm i) [i] := fun ρ σ m H A x v Q S L r P => P m H _ (Go.refl S) (L.set i r) fun vs h => wipe_set (h i (by simp))
theorem cg_name {x : Str} {pos : Pos} (i : Nat) (hN : X.N.Nodup) (hi : X.N[i]? = some x := by rfl) (hx : L2.Loc X.env.scope x := by first | exact .inl rfl | exact .inr rfl) (hf : X.fn x = true ∨ X.env.scope.names.lookup x = some .local := by first | exact .inl rfl | exact .inr rfl | assumption) : CG cf X W (.Name x pos) (gNm i) [i] :=
  ⟨_, pg_name hN hi hx hf, ok_gname⟩
def gsNil : FGs := fun xs ρ A => match xs with
  | [] => .nx ρ A
  | _ => .er
def gsCons (g : FG) (h : FGs) : FGs := fun xs ρ A => match xs with
  | [] => .er
  | x :: xs => match g x ρ A with
    | .nx ρ' A' => h xs ρ' A'
    | r => r
theorem cgs_nil : CGs cf X W [] gsNil [] := ⟨_, pgs_nil, fun ρ σ m H A xs vs Q S L r P => by
  cases r with
  | nil => exact ⟨rfl, P m H σ (Go.refl S) L fun _ _ => rfl⟩
  | cons _ _ => exact P.elim⟩
theorem cgs_cons {e : Expr} {es : List Expr} {g : FG} {h : FGs} {ts us : List Nat} (hg : CG cf X W e g ts) (hh : CGs cf X W es h us) (hs : (assignEach (e :: es) X.env).map (·.2) = assign e X.env :: (assignEach es X.env).map (·.2) := by rfl) : CGs cf X W (e :: es) (gsCons g h) (ts ++ us) := by
  obtain ⟨t, p, o⟩ := hg.ex
  obtain ⟨u, p', o'⟩ := hh.ex
  refine ⟨_, pgs_cons p p' hs, fun ρ σ m H A xs vs Q S L r P => ?_⟩
  cases r with
  | nil => exact P.elim
  | cons r1 r2 =>
    refine ⟨_, _, rfl, o ρ σ m H A _ _ _ S L r1 ?_⟩
    unfold gsCons at P
    simp only at P
    split at P
    · rename_i ρ' A' e1
      rw [e1]
      intro m' H' σ' g' l hw
      refine o' ρ' σ' m' H' A' _ _ _ g'.sim l (r2.mono g'.pre g'.fz) ?_
      have P' := SPost.mono g' P
      revert P'
      cases h _ ρ' A' with
      | nx ρ2 A2 =>
        intro P' m2 H2 σ2 g2 l2 hw2
        refine P' m2 H2 σ2 g2 l2 fun ws hws => ?_
        rw [hw2 ws (fun i hi => hws i (List.mem_append_right _ hi)), hw ws (fun i hi => hws i (List.mem_append_left _ hi))]
      | rt _ _ => exact fun P' => P'
      | bk _ _ => exact fun P' => P'
      | ct _ _ => exact fun P' => P'
      | exc _ _ _ => exact fun P' => P'
      | er => exact fun P' => P'
    · rename_i hne
      revert P
      cases e1 : g _ ρ A with
      | nx ρ2 A2 => exact (hne ρ2 A2 e1).elim
      | rt _ _ => exact fun P' m2 H2 u2 g2 l2 => P' m2 H2 u2 g2 l2
      | bk _ _ => exact fun P' m2 H2 u2 g2 l2 => P' m2 H2 u2 g2 l2
      | ct _ _ => exact fun P' m2 H2 u2 g2 l2 => P' m2 H2 u2 g2 l2
      | exc _ _ _ => exact fun P' => P'
      | er => exact fun P' => P'
def gTp (n : Nat) (g : FGs) : FG := fun x ρ A => match x with
  | .tup xs => if xs.length = n then g xs ρ A else .er
  | _ => .er
theorem sif {c : Prop} [Decidable c] {r : SRes} {m : List Addr} {H : Hp} {D : Ends} (P : SPost cf W m H D (if c then r else .er)) : c ∧ SPost cf W m H D r := by
  by_cases h : c
  · rw [if_pos h] at P
    exact ⟨h, P⟩
  · rw [if_neg h] at P
    exact P.elim
theorem cg_tup {es : List Expr} {k : Nat} {pos : Pos} {g : FGs} {ts : List Nat} {n : Nat} (hc : X.calm = true) (h : CGs cf X W es g ts) (hn : (assignEach es X.env).length = n := by rfl) (hst : (assignEach es X.env).findIdx? (·.1) = none := by rfl) : CG cf X W (.Tuple es k pos) (gTp n g) ts := by
  obtain ⟨t, p, o⟩ := h.ex
  subst hn
  refine ⟨_, pg_tup hc p rfl hst, fun ρ σ m H A x v Q S L r P => ?_⟩
  unfold gTp at P
  split at P
  · rename_i xs
    obtain ⟨hl, P⟩ := sif P
    obtain ⟨a, vs, rfl, e, r'⟩ := r.to_tup
    exact ⟨a, vs, rfl, SqT.of e, by rw [← r'.length]; exact hl, o ρ σ m H A xs vs Q S L r' P⟩
  · exact P.elim
/-- target = value -/
def fAsg (f : FE) (g : FG) : FS := fun ρ A => (f ρ A).s ρ fun x A => g x ρ A
theorem sdrop {m : List Addr} {H : Hp} {D : Ends} {σ : L2.St} {C : L2.St → Prop} {r : SRes} (hb : ∀ ρ A, r ≠ .bk ρ A) (hc : ∀ ρ A, r ≠ .ct ρ A) (hr : ∀ v A, r ≠ .rt v A) (P : SPost cf W m H D r) : SPost cf W m H { nx := fun σ' H' => C σ' → D.nx σ' H', rt := fun _ _ => False } r := by
  cases r with
  | nx ρ A => exact fun m' H' σ' g l _ => P m' H' σ' g l
  | rt v A => exact (hr v A rfl).elim
  | bk v A => exact (hb v A rfl).elim
  | ct v A => exact (hc v A rfl).elim
  | exc _ _ _ => exact P
  | er => exact P
/-- what a target hands on: next, or an error -/
def SRes.plain : SRes → SRes
  | .nx ρ A => .nx ρ A
  | .exc e ρ A => .exc e ρ A
  | _ => .er
theorem splain {m : List Addr} {H : Hp} {D : Ends} {C : L2.St → Prop} {r : SRes} (P : SPost cf W m H D r.plain) : r.plain = r ∧ SPost cf W m H { nx := fun σ' H' => C σ' → D.nx σ' H', rt := fun _ _ => False } r := by
  cases r with
  | nx ρ A => exact ⟨rfl, fun m' H' σ' g l _ => P m' H' σ' g l⟩
  | rt v A => exact P.elim
  | bk v A => exact P.elim
  | ct v A => exact P.elim
  | exc _ _ _ => exact ⟨rfl, P⟩
  | er => exact ⟨rfl, P⟩
def fAsgG (f : FE) (g : FG) : FS := fun ρ A => (f ρ A).s ρ fun x A => (g x ρ A).plain
theorem cs_asg {tg e : Expr} {pos : Pos} {f : FE} {g : FG} {ts : List Nat} (he : CE cf X W e f) (hg : CG cf X W tg g ts) (hs : swapsWithSole [tg] e pos.line X.env = pure false := by rfl) (hw : swappedStores [tg] e X.env = pure none := by rfl)
    (h1 : (assignEach [tg] X.env).map (·.2) = [assign tg X.env] := by rfl) : CS cf X W (.Assign [tg] e pos) (fAsgG f g) := by
  obtain ⟨t, p, o⟩ := he.ex
  obtain ⟨u, p', o'⟩ := hg.ex
  refine ⟨_, ps_asg p p' hs hw h1, fun ρ σ m H A D S L P => ?_⟩
  refine o.thenS S L P fun x v m1 H1 A1 _ g1 L1 r P1 => ?_
  exact o' ρ σ m1 H1 A1 x v _ g1.sim L1 r (splain P1).2
/-- name = value -/
def fSet (i : Nat) (f : FE) : FS := fun ρ A => (f ρ A).s ρ fun x A => .nx (ρ.set i (some x)) A
theorem cs_set {x : Str} {e : Expr} {pos pos' : Pos} {f : FE} (i : Nat) (hN : X.N.Nodup) (he : CE cf X W e f) (hi : X.N[i]? = some x := by rfl) (hx : L2.Loc X.env.scope x := by first | exact .inl rfl | exact .inr rfl) (hs : swapsWith e (some (.Name x pos')) pos.line X.env = pure false := by rfl)
    (hf : X.fn x = true ∨ X.env.scope.names.lookup x = some .local := by first | exact .inl rfl | exact .inr rfl | assumption) : CS cf X W (.Assign [.Name x pos'] e pos) (fSet i f) := by
  obtain ⟨t, p, o⟩ := he.ex
  refine ⟨_, ps_set hN hi hx p hs hf, fun ρ σ m H A D S L P => ?_⟩
  refine o.thenS S L P fun x v m1 H1 A1 _ g1 L1 r P1 => ?_
  exact P1 m1 H1 _ (Go.refl g1.sim) (L1.set i r)
/-- a, b = e1, e2 -/
def fPar (i j : Nat) (f : FA) : FS := fun ρ A => (f ρ A).s ρ fun xs A => match xs with
  | [x, y] => .nx ((ρ.set i (some x)).set j (some y)) A
  | _ => .er

/-! ### while -/
def whileF (c : FT) (b : FS) : Nat → Rho → AH → SRes
  | 0, _, _ => .er
  | n + 1, ρ, A => (c ρ A).s ρ fun k A => if k = true then match b ρ A with
      | .nx ρ' A' => whileF c b n ρ' A'
      | .ct ρ' A' => whileF c b n ρ' A'
      | .bk ρ' A' => .nx ρ' A'
      | r => r
    else .nx ρ A
@[irreducible] def fuel : Nat := 1000000000
def fWhile (c : FT) (b : FS) : FS := fun ρ A => whileF c b fuel ρ A
theorem ok_while {c : TT} {t : TS} {fc : FT} {f : FS} (hc : TOk cf W c fc) (hf : SOk cf W t f) (N : Nat) : SOk cf W (tWhile c t) (whileF fc f N) := fun ρ σ m H A D S L P => by
  refine ⟨fun n σ' H' => ∃ ρ' m' A', Go cf m H m' H' A' ∧ Loc cf.K m' H' ρ' σ' ∧ SPost cf W m' H' D (whileF fc f n ρ' A'), ⟨N, ρ, m, A, Go.refl S, L, P⟩, ?_⟩
  rintro n σ1 H1 ⟨ρ1, m1, A1, g1, L1, P1⟩
  cases n with
  | zero => exact P1.elim
  | succ n =>
    refine hc.thenS g1.sim L1 P1 fun x v m2 H2 A2 _ g2 L2 r P2 => ?_
    cases (show x = v from r)
    cases x with
    | false => exact P2 m2 H2 σ1 (Go.refl g2.sim) L2
    | true =>
      refine ⟨fun σ' H' => ∃ ρ' m' A', Go cf m H m' H' A' ∧ Loc cf.K m' H' ρ' σ' ∧ SPost cf W m' H' D (whileF fc f n ρ' A'), fun σ' H' h => ⟨n, Nat.lt_succ_self n, h⟩, ?_⟩
      refine hf ρ1 σ1 m2 H2 A2 _ g2.sim L2 ?_
      simp only [if_true] at P2
      cases e : f ρ1 A2 with
      | nx ρ' A' =>
        rw [e] at P2
        exact fun m3 H3 σ3 g3 l3 => ⟨ρ', m3, A', (g1.trans g2).trans g3, l3, SPost.mono g3 P2⟩
      | ct ρ' A' =>
        rw [e] at P2
        exact fun m3 H3 σ3 g3 l3 => ⟨ρ', m3, A', (g1.trans g2).trans g3, l3, SPost.mono g3 P2⟩
      | bk ρ' A' => rw [e] at P2; exact P2
      | rt v A' => rw [e] at P2; exact P2
      | exc x ρ' A' => rw [e] at P2; exact P2
      | er => rw [e] at P2; exact P2
theorem cs_while {c : Expr} {body : List Stmt} {pos : Pos} {fc : FT} {f : FS} (hp : PassesOwn (model X.prog X.w) X.A X.env X.xe) (hc : CT cf X W c fc) (hb : CB cf X W body f) : CS cf X W (.While c body [] pos) (fWhile fc f) := by
  obtain ⟨t, p, o⟩ := hc.ex
  obtain ⟨u, p', o'⟩ := hb.ex
  exact ⟨_, ps_while hp p p', ok_while o o' fuel⟩

/-! ### what is walked -/
inductive Src where
  | fix (xs : List AV)
  | live (n : Nat) (f : Nat → AV → AV)
abbrev FI := Rho → AH → Res Src
def SrcR (cf : Cfg) (m : List Addr) (H : Hp) (J : It) : Src → Prop
  | .fix xs => ∀ m1 H1 A1, Go cf m H m1 H1 A1 → (∀ i, i < xs.length → J.go i H1) ∧ J.stop xs.length H1 ∧ ∀ i x H2, J.yld i H1 x H2 → i < xs.length → ∃ y, xs[i]? = some y ∧ Go cf m1 H1 m1 H2 A1 ∧ RelA cf.K m1 H2 y x
  | .live n f => ∀ m1 H1 A1 xs, Go cf m H m1 H1 A1 → A1[n]? = some (.lst xs) → (∀ i, i < xs.length → J.go i H1) ∧ (∀ i, xs.length ≤ i → J.stop i H1) ∧ ∀ i x H2, J.yld i H1 x H2 → ∃ y, xs[i]? = some y ∧ Go cf m1 H1 m1 H2 A1 ∧ RelA cf.K m1 H2 (f i y) x
def IOk (cf : Cfg) (W : WX) (t : TI) (f : FI) : Prop := ∀ (ρ : Rho) (σ : L2.St) (m : List Addr) (H : Hp) (A : AH) (R : It → Hp → Prop), Sim cf m H A → Loc cf.K m H ρ σ →
  Post cf W (fun m' H' s J => SrcR cf m' H' J s) m H σ R (f ρ A) → t σ H R
structure CI (cf : Cfg) (X : Cx) (W : WX) (tg e : Expr) (f : FI) : Prop where
  ex : ∃ t, PI X tg e t ∧ IOk cf W t f
theorem SrcR.mono {m m1 : List Addr} {H H1 : Hp} {A1 : AH} {J : It} {s : Src} (g : Go cf m H m1 H1 A1) (h : SrcR cf m H J s) : SrcR cf m1 H1 J s := by
  cases s with
  | fix xs => exact fun m2 H2 A2 g2 => h m2 H2 A2 (g.trans g2)
  | live n f => exact fun m2 H2 A2 xs g2 => h m2 H2 A2 xs (g.trans g2)
/-- one turn of a loop: go on, or end -/
def turnF (g : FG) (b : FS) (x : AV) (ρ : Rho) (A : AH) (k : Rho → AH → SRes) : SRes :=
  match (g x ρ A).plain with
  | .nx ρ A => match b ρ A with
    | .nx ρ A => k ρ A
    | .ct ρ A => k ρ A
    | .bk ρ A => .nx ρ A
    | r => r
  | r => r
def runF (g : FG) (b : FS) : List AV → Rho → AH → SRes
  | [], ρ, A => .nx ρ A
  | x :: xs, ρ, A => turnF g b x ρ A fun ρ A => runF g b xs ρ A
def runL (g : FG) (b : FS) (n : Nat) (f : Nat → AV → AV) : Nat → Nat → Rho → AH → SRes
  | 0, _, _, _ => .er
  | k + 1, i, ρ, A => match A[n]? with
    | some (.lst xs) => match xs[i]? with
      | some x => turnF g b (f i x) ρ A fun ρ A => runL g b n f k (i + 1) ρ A
      | none => .nx ρ A
    | _ => .er
def fFor (fi : FI) (g : FG) (b : FS) : FS := fun ρ A => (fi ρ A).s ρ fun s A => match s with
  | .fix xs => runF g b xs ρ A
  | .live n f => runL g b n f fuel 0 ρ A
theorem turn_ok {t : TG} {u : TS} {g : FG} {b : FS} {ts : List Nat} (hg : GOk cf W t g ts) (hb : SOk cf W u b) {x : AV} {v : V} {ρ : Rho} {σ : L2.St} {m : List Addr} {H : Hp} {A : AH} {D : Ends} {N : L2.St → Hp → Prop} {k : Rho → AH → SRes}
    (S : Sim cf m H A) (L : Loc cf.K m H ρ σ) (r : RelA cf.K m H x v) (P : SPost cf W m H D (turnF g b x ρ A k)) (hN : ∀ ρ' m' H' σ' A', Go cf m H m' H' A' → Loc cf.K m' H' ρ' σ' → SPost cf W m' H' D (k ρ' A') → N σ' H') :
    t v σ H fun σ2 H2 => u { D with nx := N, ct := N, bk := D.nx } σ2 H2 := by
  refine hg ρ σ m H A x v _ S L r ?_
  unfold turnF at P
  cases e : g x ρ A with
  | nx ρ1 A1 =>
    rw [e] at P
    intro m1 H1 σ1 g1 l1 _
    refine hb ρ1 σ1 m1 H1 A1 _ g1.sim l1 ?_
    have P1 := SPost.mono g1 P
    simp only [SRes.plain] at P1
    cases e2 : b ρ1 A1 with
    | nx ρ' A' =>
      rw [e2] at P1
      exact fun m3 H3 σ3 g3 l3 => hN ρ' m3 H3 σ3 A' (g1.trans g3) l3 (SPost.mono g3 P1)
    | ct ρ' A' =>
      rw [e2] at P1
      exact fun m3 H3 σ3 g3 l3 => hN ρ' m3 H3 σ3 A' (g1.trans g3) l3 (SPost.mono g3 P1)
    | bk ρ' A' => rw [e2] at P1; exact P1
    | rt v A' => rw [e2] at P1; exact P1
    | exc x ρ' A' => rw [e2] at P1; exact P1
    | er => rw [e2] at P1; exact P1
  | rt _ _ => rw [e] at P; exact P.elim
  | bk _ _ => rw [e] at P; exact P.elim
  | ct _ _ => rw [e] at P; exact P.elim
  | exc _ _ _ => rw [e] at P; exact P
  | er => rw [e] at P; exact P
theorem ok_for {wi : TI} {t : TG} {u : TS} {fi : FI} {g : FG} {b : FS} {ts : List Nat} (hi : IOk cf W wi fi) (hg : GOk cf W t g ts) (hb : SOk cf W u b) : SOk cf W (tFor wi t u) (fFor fi g b) := fun ρ σ m H A D S L P => by
  refine hi ρ σ m H A _ S L ?_
  unfold fFor at P
  cases e : fi ρ A with
  | er => rw [e] at P; exact P.elim
  | exc x A1 => rw [e] at P; exact fun m1 H1 cls d g r => P m1 H1 σ cls d g (L.mono g.pre g.fz) r
  | ok s A1 =>
    rw [e] at P
    intro m1 H1 J g1 sr
    have P1 := SPost.mono g1 P
    have L1 := L.mono g1.pre g1.fz
    cases s with
    | fix xs =>
      refine ⟨fun i n σ' H' => n = xs.length - i ∧ i ≤ xs.length ∧ ∃ ρ' m' A', Go cf m1 H1 m' H' A' ∧ Loc cf.K m' H' ρ' σ' ∧ SPost cf W m' H' D (runF g b (xs.drop i) ρ' A'), ⟨_, rfl, Nat.zero_le _, ρ, m1, A1, Go.refl g1.sim, L1, P1⟩, ?_⟩
      rintro i n σ2 H2 ⟨rfl, hi, ρ2, m2, A2, g2, L2, P2⟩
      obtain ⟨go, stop, yld⟩ := sr m2 H2 A2 g2
      by_cases hlt : i < xs.length
      · refine .inr ⟨go i hlt, fun σ' H' => i + 1 ≤ xs.length ∧ ∃ ρ' m' A', Go cf m1 H1 m' H' A' ∧ Loc cf.K m' H' ρ' σ' ∧ SPost cf W m' H' D (runF g b (xs.drop (i + 1)) ρ' A'), fun σ' H' h => ⟨xs.length - (i + 1), by omega, rfl, h⟩, fun x H3 y => ?_⟩
        obtain ⟨y, hy, g3, r3⟩ := yld i x H3 y hlt
        obtain ⟨_, hyy⟩ := List.getElem?_eq_some_iff.mp hy
        rw [List.drop_eq_getElem_cons hlt, hyy] at P2
        refine turn_ok hg hb g3.sim (L2.mono g3.pre g3.fz) r3 (SPost.mono g3 P2) fun ρ' m' H' σ' A' g4 l4 P4 => ⟨hlt, ρ', m', A', (g2.trans g3).trans g4, l4, P4⟩
      · have e : i = xs.length := by omega
        subst e
        rw [List.drop_length] at P2
        exact .inl ⟨stop, P2 m2 H2 σ2 (Go.refl g2.sim) L2⟩
    | live n f =>
      refine ⟨fun i k σ' H' => ∃ ρ' m' A', Go cf m1 H1 m' H' A' ∧ Loc cf.K m' H' ρ' σ' ∧ SPost cf W m' H' D (runL g b n f k i ρ' A'), ⟨fuel, ρ, m1, A1, Go.refl g1.sim, L1, P1⟩, ?_⟩
      rintro i k σ2 H2 ⟨ρ2, m2, A2, g2, L2, P2⟩
      cases k with
      | zero => exact P2.elim
      | succ k =>
        unfold runL at P2
        split at P2
        · rename_i xs ex
          obtain ⟨go, stop, yld⟩ := sr m2 H2 A2 xs g2 ex
          split at P2
          · rename_i x0 hx0
            obtain ⟨hlt, _⟩ := List.getElem?_eq_some_iff.mp hx0
            refine .inr ⟨go i hlt, fun σ' H' => ∃ ρ' m' A', Go cf m1 H1 m' H' A' ∧ Loc cf.K m' H' ρ' σ' ∧ SPost cf W m' H' D (runL g b n f k (i + 1) ρ' A'), fun σ' H' h => ⟨k, Nat.lt_succ_self k, h⟩, fun x H3 y => ?_⟩
            obtain ⟨y, hy, g3, r3⟩ := yld i x H3 y
            rw [hx0] at hy
            cases hy
            refine turn_ok hg hb g3.sim (L2.mono g3.pre g3.fz) r3 (SPost.mono g3 P2) fun ρ' m' H' σ' A' g4 l4 P4 => ⟨ρ', m', A', (g2.trans g3).trans g4, l4, P4⟩
          · rename_i hx0
            exact .inl ⟨stop i (List.getElem?_eq_none_iff.mp hx0), P2 m2 H2 σ2 (Go.refl g2.sim) L2⟩
        · exact P2.elim
theorem cs_for {tg e : Expr} {body : List Stmt} {pos : Pos} {fi : FI} {g : FG} {b : FS} {ts : List Nat} (hp : PassesOwn (model X.prog X.w) X.A X.env X.xe) (hc : X.calm = true) (hi : CI cf X W tg e fi) (hg : CG cf X W tg g ts) (hb : CB cf X W body b)
    (hs : ∀ x, foldedSetIterable e X.env x = pure x := by intro _; rfl) : CS cf X W (.For tg e body [] pos) (fFor fi g b) := by
  obtain ⟨t, p, o⟩ := hi.ex
  obtain ⟨t1, p1, o1⟩ := hg.ex
  obtain ⟨t2, p2, o2⟩ := hb.ex
  exact ⟨_, ps_for hp hc p p1 p2 hs, ok_for o o1 o2⟩
/-! ### the things walked -/
theorem src_fix {J : It} {n : Nat} {G : Hp → Prop} {m : List Addr} {H : Hp} {vs : List V} {xs : List AV} (w : Walk J n G (YAt vs)) (hn : n = xs.length) (hG : ∀ H', Fz H H' → G H') (hr : RelAs cf.K m H xs vs) : SrcR cf m H J (.fix xs) := fun m1 H1 A1 g => by
  subst hn
  refine ⟨fun i hi => w.goes i H1 hi (hG H1 g.fz), w.stops H1 (hG H1 g.fz), fun i x H2 y hi => ?_⟩
  obtain ⟨rfl, hx⟩ := w.yields i H1 x H2 hi (hG H1 g.fz) y
  obtain ⟨y, h1, h2⟩ := hr.get' hx
  exact ⟨y, h1, Go.refl g.sim, h2.mono g.pre g.fz⟩
def fList (f : FE) : FI := fun ρ A => (f ρ A).bind fun x A => match x with
  | .obj n => match A[n]? with
    | some (.lst _) => .ok (.live n fun _ y => y) A
    | _ => .er
  | .scr ns => .ok (.fix (ns.map AV.int)) A
  | .tup xs => .ok (.fix xs) A
  | _ => .er
theorem PI.or {tg e : Expr} {t u : TI} (h : PI X tg e t) (k : PI X tg e u) : PI X tg e (fun σ H R => t σ H R ∨ u σ H R) := ⟨fun pins s σ H R I q => q.elim (h.run pins s σ H R I) (k.run pins s σ H R I)⟩
theorem PE.or {e : Expr} {t u : TE} (h : PE X e t) (k : PE X e u) : PE X e (fun σ H R => t σ H R ∨ u σ H R) := ⟨fun pins s σ H R I q => q.elim (h.run pins s σ H R I) (k.run pins s σ H R I)⟩
theorem PS.or {e : Stmt} {t u : TS} (h : PS X e t) (k : PS X e u) : PS X e (fun D σ H => t D σ H ∨ u D σ H) := ⟨fun pins s σ H D I q => q.elim (h.run pins s σ H D I) (k.run pins s σ H D I)⟩
theorem post_then {α β γ : Type} {Rl : List Addr → Hp → α → β → Prop} {m : List Addr} {H : Hp} {σ : L2.St} {Q : β → Hp → Prop} {r : Res γ} {k : γ → AH → Res α} (P : Post cf W Rl m H σ Q (r.bind k)) :
    (∃ x A1, r = .ok x A1 ∧ Post cf W Rl m H σ Q (k x A1)) ∨ (∃ e A1, r = .exc e A1 ∧ ∀ m' H' cls d, Go cf m H m' H' A1 → ExcR cf m' H' e cls d → W cls d σ H') := by
  cases r with
  | ok x A1 => exact .inl ⟨x, A1, rfl, P⟩
  | exc e A1 => exact .inr ⟨e, A1, rfl, P⟩
  | er => exact P.elim
theorem live_ok {m : List Addr} {H : Hp} {A : AH} {n : Nat} {a : Addr} {xs0 : List AV} {f : Nat → AV → AV} {J : It} (hm : m[n]? = some a) (hgo : ∀ i H vs, H a = some (.lst vs) → i < vs.length → J.go i H) (hst : ∀ i H vs, H a = some (.lst vs) → vs.length ≤ i → J.stop i H)
    (hy : ∀ i m1 H1 A1 vs x H2, Sim cf m1 H1 A1 → H1 a = some (.lst vs) → J.yld i H1 x H2 → ∃ v, vs[i]? = some v ∧ Go cf m1 H1 m1 H2 A1 ∧ ∀ y, RelA cf.K m1 H1 y v → RelA cf.K m1 H2 (f i y) x) : SrcR cf m H J (.live n f) := fun m1 H1 A1 xs g e => by
  obtain ⟨vs, h1, r⟩ := g.sim.at_ n a _ (g.pre _ _ hm) e
  refine ⟨fun i hi => hgo i H1 vs h1 (by rw [← r.length]; exact hi), fun i hi => hst i H1 vs h1 (by rw [← r.length]; exact hi), fun i x H2 y => ?_⟩
  obtain ⟨v, hv, g2, h2⟩ := hy i m1 H1 A1 vs x H2 g.sim h1 y
  obtain ⟨z, h3, h4⟩ := r.get' hv
  exact ⟨z, h3, g2, h2 z h4⟩
theorem ok_list {t : TE} {f : FE} (h : EOk cf W t f) : IOk cf W (fun σ H R => iList cf.K t σ H R ∨ iTup cf.K t σ H R) (fList f) := fun ρ σ m H A R S L P => by
  unfold fList at P
  by_cases hk : ∃ xs A1, f ρ A = .ok (.tup xs) A1
  · right
    obtain ⟨xs, A1, hk⟩ := hk
    refine h.then S L P fun x v m1 H1 A1 e g1 L1 r1 P1 => ?_
    rw [hk] at e
    cases e
    obtain ⟨a, vs, rfl, ha, r⟩ := r1.to_tup
    exact ⟨a, rfl, ⟨vs, SqT.of ha⟩, P1 m1 H1 _ (Go.refl g1.sim) (src_fix (walk_tup (xs := vs)) r.length.symm (fun H' f => SqT.of (f.tup _ _ ha)) r)⟩
  · left
    refine h.then S L P fun x v m1 H1 A1 e g1 L1 r1 P1 => ?_
    cases x with
    | obj n =>
      simp only at P1
      split at P1
      · rename_i xs ex
        obtain ⟨a, rfl, hm, vs, h1, r⟩ := g1.sim.obj r1 ex
        refine ⟨a, rfl, ⟨vs, SqL.of h1⟩, P1 m1 H1 _ (Go.refl g1.sim) (live_ok (A := A1) (xs0 := xs) hm (fun i H vs e hi => ⟨vs, vs[i], SqL.of e, by simp [hi]⟩) (fun i H vs e hi => ⟨vs, SqL.of e, hi⟩) fun i m2 H2 A2 vs x H3 S2 e y => ?_)⟩
        obtain ⟨rfl, y⟩ := y
        exact ⟨x, y vs (SqL.of e), Go.refl S2, fun _ h => h⟩
      · exact P1.elim
    | scr ns =>
      cases r1 with
      | scr hf =>
        exact ⟨_, rfl, ⟨_, hf.sq⟩, P1 m1 H1 _ (Go.refl g1.sim) (src_fix (walk_list (xs := ns.map V.int)) (by simp) (fun H' f => (hf.mono f).sq) (RelAs.ints ns))⟩
    | tup xs => exact (hk ⟨xs, A1, e⟩).elim
    | _ => exact P1.elim
theorem ci_list {tg e : Expr} {f : FE} (h : CE cf X W e f) (hK : X.K = cf.K) : CI cf X W tg e (fList f) := by
  obtain ⟨t, p, o⟩ := h.ex
  refine ⟨_, PI.or (pi_list p) (pi_tup p), ?_⟩
  rw [hK]
  exact ok_list o
def rngL (lo : Int) (n : Nat) : List AV := (List.range n).map fun i => .int (lo + (i : Nat))
@[irreducible] def rngB (i : Int) : Bool := decide (-1000000000000 < i) && decide (i < 1000000000000)
def fRange1 (f : FA) : FI := fun ρ A => (f ρ A).bind fun xs A => match xs with
  | [.int j] => if rngB j = true then .ok (.fix (rngL 0 j.toNat)) A else .er
  | _ => .er
def fRange2 (f : FA) : FI := fun ρ A => (f ρ A).bind fun xs A => match xs with
  | [.int i, .int j] => if rngB i = true ∧ rngB j = true then .ok (.fix (rngL i (j - i).toNat)) A else .er
  | _ => .er
theorem src_range {m : List Addr} {H : Hp} {lo : Int} {n : Nat} : SrcR cf m H (Itr lo n) (.fix (rngL lo n)) := fun m1 H1 A1 g => by
  have hl : (rngL lo n).length = n := by simp [rngL]
  refine ⟨fun i hi => by rw [hl] at hi; exact hi, (by rw [hl]; exact Nat.le_refl n), fun i x H2 y hi => ?_⟩
  rw [hl] at hi
  obtain ⟨rfl, rfl⟩ := y
  exact ⟨.int (lo + (i : Nat)), by simp [rngL, hi], Go.refl g.sim, .int _⟩
theorem rng_ok {i : Int} (h : rngB i = true) : -(2 ^ 62) ≤ i ∧ i < 2 ^ 62 := by
  simp only [rngB, Bool.and_eq_true, decide_eq_true_eq] at h
  omega
theorem ci_range1 {tg a : Expr} {p pos : Pos} {f : FA} (hg : Gl X "range") (hm : X.mg "range" = none) (ha : CA cf X W [a] f) (hs : starEach [a] X.env = [(false, eval a X.env)] := by rfl) : CI cf X W tg (.Call (.Name "range" p) [a] [] pos) (fRange1 f) := by
  obtain ⟨t, p, o⟩ := ha.ex
  refine ⟨_, pi_range1 hg hm p hs, fun ρ σ m H A R S L P => ?_⟩
  refine o.then S L P fun xs vs m1 H1 A1 e g1 L1 r1 P1 => ?_
  split at P1
  · rename_i j
    obtain ⟨hj, P1⟩ := post_if P1
    cases r1 with
    | cons r1 r2 =>
      cases r2
      exact ⟨j, by rw [r1.to_int], (rng_ok hj).1, (rng_ok hj).2, P1 m1 H1 _ (Go.refl g1.sim) src_range⟩
  · exact P1.elim
theorem ci_range2 {tg a b : Expr} {p pos : Pos} {f : FA} (hg : Gl X "range") (hm : X.mg "range" = none) (ha : CA cf X W [a, b] f) (hs : starEach [a, b] X.env = [(false, eval a X.env), (false, eval b X.env)] := by rfl) (hs2 : starEach [b] X.env = [(false, eval b X.env)] := by rfl) :
    CI cf X W tg (.Call (.Name "range" p) [a, b] [] pos) (fRange2 f) := by
  obtain ⟨t, p, o⟩ := ha.ex
  refine ⟨_, pi_range2 hg hm p hs hs2, fun ρ σ m H A R S L P => ?_⟩
  refine o.then S L P fun xs vs m1 H1 A1 e g1 L1 r1 P1 => ?_
  split at P1
  · rename_i i j
    obtain ⟨⟨hi, hj⟩, P1⟩ := post_if P1
    cases r1 with
    | cons r1 r2 =>
      cases r2 with
      | cons r2 r3 =>
        cases r3
        exact ⟨i, j, by rw [r1.to_int, r2.to_int], ⟨(rng_ok hi).1, (rng_ok hi).2, (rng_ok hj).1, (rng_ok hj).2⟩, P1 m1 H1 _ (Go.refl g1.sim) src_range⟩
  · exact P1.elim
end
end Dn

set_option maxRecDepth 100000
set_option maxHeartbeats 1000000
/-! Dn, part E: comprehensions, defs and their calls, built-in calls. -/
namespace Dn
open PySem L2 PyProof.Rows

/-- no error leaves -/
def WD (E : XK) : WX := fun cls d _ H => E cls d H
abbrev W0 : WX := WD E0
section
variable {cf : Cfg} {X : Cx} {W : WX}
/-! ### one reading for all contexts -/
def tF {α β : Type} (cf : Cfg) (W : WX) (Rl : List Addr → Hp → α → β → Prop) (f : Rho → AH → Res α) : L2.St → Hp → (β → Hp → Prop) → Prop := fun σ H Q => ∃ ρ m A, Sim cf m H A ∧ Loc cf.K m H ρ σ ∧ Post cf W Rl m H σ Q (f ρ A)
theorem ok_F {α β : Type} {Rl : List Addr → Hp → α → β → Prop} {f : Rho → AH → Res α} : Ok cf W Rl (tF cf W Rl f) f := fun ρ σ m H A Q S L P => ⟨ρ, m, A, S, L, P⟩
theorem CE.pe {e : Expr} {f : FE} (h : CE cf X W e f) : PE X e (tF cf W (rA cf) f) := by
  obtain ⟨t, p, o⟩ := h.ex
  refine ⟨fun pins s σ H Q I q => ?_⟩
  obtain ⟨ρ, m, A, S, L, P⟩ := q
  exact p.run pins s σ H Q I (o ρ σ m H A Q S L P)
structure CTs (cf : Cfg) (X : Cx) (W : WX) (es : List Expr) (f : FT) : Prop where
  ex : ∃ t, PTs X es t ∧ TOk cf W t f
theorem CTs.pe {e : List Expr} {f : FT} (h : CTs cf X W e f) : PTs X e (tF cf W rB f) := by
  obtain ⟨t, p, o⟩ := h.ex
  refine ⟨fun pins s σ H Q I q => ?_⟩
  obtain ⟨ρ, m, A, S, L, P⟩ := q
  exact p.run pins s σ H Q I (o ρ σ m H A Q S L P)
def fYes : FT := fun _ A => .ok true A
theorem cts_nil : CTs cf X W [] fYes := ⟨_, pts_nil, fun ρ σ m H A Q S L P => P m H true (Go.refl S) rfl⟩
theorem cts_one {c : Expr} {f : FT} (h : CT cf X W c f) : CTs cf X W [c] f := let ⟨_, p, o⟩ := h.ex; ⟨_, pts_one p, o⟩
def tG (cf : Cfg) (W : WX) (g : FG) (ts : List Nat) : TG := fun v σ H Q => ∃ ρ m A x, Sim cf m H A ∧ Loc cf.K m H ρ σ ∧ RelA cf.K m H x v ∧
  SPost cf W m H { nx := fun σ' H' => (∀ vs : List Nat, (∀ i ∈ ts, i ∈ vs) → wipe σ' vs = wipe σ vs) → Q σ' H', rt := fun _ _ => False } (g x ρ A)
theorem ok_G {g : FG} {ts : List Nat} : GOk cf W (tG cf W g ts) g ts := fun ρ σ m H A x v Q S L r P => ⟨ρ, m, A, x, S, L, r, P⟩
theorem CG.pg {e : Expr} {g : FG} {ts : List Nat} (h : CG cf X W e g ts) : PG X e (tG cf W g ts) := by
  obtain ⟨t, p, o⟩ := h.ex
  refine ⟨fun pins s σ H v u Q I r q => ?_⟩
  obtain ⟨ρ, m, A, x, S, L, r', P⟩ := q
  exact p.run pins s σ H v u Q I r (o ρ σ m H A x v Q S L r' P)

/-! ### comprehensions -/
def wipeR (ρ : Rho) : List Nat → Rho
  | [] => ρ
  | v :: vs => (wipeR ρ vs).set v none
theorem Loc.wipe {m : List Addr} {H : Hp} {ρ : Rho} {σ : L2.St} (L : Loc cf.K m H ρ σ) : ∀ vs : List Nat, Loc cf.K m H (wipeR ρ vs) (L2.wipe σ vs)
  | [] => L
  | v :: vs => by
    have ih := Loc.wipe L vs
    unfold wipeR L2.wipe
    refine ⟨by rw [List.length_set, List.length_set, ih.len], fun i x e => ?_⟩
    by_cases h : v = i
    · subst h
      rw [List.getElem?_set_self'] at e
      cases q : (wipeR ρ vs)[v]? with
      | none => rw [q] at e; cases e
      | some z => rw [q] at e; cases e
    · rw [List.getElem?_set_ne h] at e
      rw [List.getElem?_set_ne h]
      exact ih.at_ i x e
def turnC {α : Type} (g : FG) (ft : FT) (x : AV) (ρ : Rho) (A : AH) (elt : Rho → AH → Res α) (skip : AH → Res α) : Res α :=
  match g x ρ A with
  | .nx ρ1 A1 => match ft ρ1 A1 with
    | .ok b A2 => if b = true then elt ρ1 A2 else skip A2
    | _ => .er
  | _ => .er
/-- y goes to the list at k -/
def pushC (fe : FE) (k : Nat) (cont : AH → Res AV) (ρ : Rho) (A : AH) : Res AV :=
  match fe ρ A with
  | .ok y A3 => match A3[k]? with
    | some (.lst acc) => if acc.length < big then cont (A3.set k (.lst (acc ++ [y]))) else .er
    | _ => .er
  | _ => .er
def compF (g : FG) (ft : FT) (fe : FE) (k : Nat) (ρ : Rho) : List AV → AH → Res AV
  | [], A => .ok (.obj k) A
  | x :: xs, A => turnC g ft x ρ A (pushC fe k fun A => compF g ft fe k ρ xs A) fun A => compF g ft fe k ρ xs A
def compL (g : FG) (ft : FT) (fe : FE) (k : Nat) (ρ : Rho) (n : Nat) (f : Nat → AV → AV) : Nat → Nat → AH → Res AV
  | 0, _, _ => .er
  | c + 1, i, A => match A[n]? with
    | some (.lst xs) => match xs[i]? with
      | some x => turnC g ft (f i x) ρ A (pushC fe k fun A => compL g ft fe k ρ n f c (i + 1) A) fun A => compL g ft fe k ρ n f c (i + 1) A
      | none => .ok (.obj k) A
    | _ => .er
def fComp (fi : FI) (g : FG) (ft : FT) (fe : FE) (own : List Nat) : FE := fun ρ A => (fi ρ A).bind fun s A => match s with
  | .fix xs => compF g ft fe A.length (wipeR ρ own) xs (A ++ [.lst []])
  | .live n f => compL g ft fe A.length (wipeR ρ own) n f fuel 0 (A ++ [.lst []])
theorem turnC_ok {t : TG} {tt : TT} {te : TE} {g : FG} {ft : FT} {fe : FE} {ts own : List Nat} (hg : GOk cf W0 t g ts) (ht : TOk cf W0 tt ft) (he : EOk cf W0 te fe) (hown : ∀ i ∈ ts, i ∈ own) {x : AV} {v : V} {ρ : Rho} {σ σ0 : L2.St} {m : List Addr} {H : Hp} {A : AH} {Q : VK} {N : Hp → Prop} {k : Nat} {D : Addr}
    {cont : AH → Res AV} (S : Sim cf m H A) (L : Loc cf.K m H ρ (wipe σ own)) (hk : m[k]? = some D) (r : RelA cf.K m H x v) (P : Post cf W (rA cf) m H σ0 Q (turnC g ft x ρ A (pushC fe k cont) cont))
    (hN : ∀ m' H' A', Go cf m H m' H' A' → Post cf W (rA cf) m' H' σ0 Q (cont A') → N H') :
    t v (wipe σ own) H fun σ2 H2 => wipe σ2 own = wipe σ own ∧ tt σ2 H2 fun b H3 => if b = true then te σ2 H3 fun y H4 => ∃ acc, H4 D = some (.lst acc) ∧ acc.length < sizeLine ∧ N (upd H4 D (.lst (acc ++ [y]))) else N H3 := by
  refine hg ρ _ m H A x v _ S L r ?_
  unfold turnC at P
  cases e : g x ρ A with
  | nx ρ1 A1 =>
    rw [e] at P
    simp only at P
    intro m1 H1 σ1 g1 l1 hw
    have idem : wipe (wipe σ own) own = wipe σ own := by
      apply List.ext_getElem?
      intro j
      rw [wipe_get, wipe_get]
      by_cases hj : j ∈ own
      · rw [if_pos hj, if_pos hj]
        cases σ[j]? <;> rfl
      · rw [if_neg hj, if_neg hj]
    refine ⟨(hw own hown).trans idem, ?_⟩
    have P1 := Post.mono g1 P
    refine ht ρ1 σ1 m1 H1 A1 _ g1.sim l1 ?_
    cases e2 : ft ρ1 A1 with
    | ok b A2 =>
      rw [e2] at P1
      intro m2 H2 b' g2 rb
      cases (show b = b' from rb)
      have P2 := Post.mono g2 P1
      cases b with
      | false => exact hN m2 H2 A2 (g1.trans g2) P2
      | true =>
        simp only [if_true] at P2 ⊢
        unfold pushC at P2
        refine he ρ1 σ1 m2 H2 A2 _ g2.sim (l1.mono g2.pre g2.fz) ?_
        cases e3 : fe ρ1 A2 with
        | ok y A3 =>
          rw [e3] at P2
          intro m3 H3 u g3 ru
          simp only at P2
          split at P2
          · rename_i acc ea
            obtain ⟨hl, P2⟩ := post_if P2
            have hk3 : m3[k]? = some D := ((g1.trans g2).trans g3).pre _ _ hk
            obtain ⟨vs, h1, r1⟩ := g3.sim.at_ k D _ hk3 ea
            have g4 := go_put (ho := .lst (vs ++ [u])) (o := .lst (acc ++ [y])) g3.sim hk3 h1 trivial ⟨_, upd_same, ((RelAs.app r1 (.cons ru .nil)).mono (Pre.refl m3) (fz_main h1 trivial))⟩
            exact ⟨vs, h1, by rw [← r1.length]; exact big_lt hl, hN m3 _ _ (((g1.trans g2).trans g3).trans g4) (Post.mono (g3.trans g4) P2)⟩
          · exact P2.elim
        | exc x2 A3 => rw [e3] at P2; exact P2.elim
        | er => rw [e3] at P2; exact P2.elim
    | exc x2 A2 => rw [e2] at P1; exact P1.elim
    | er => rw [e2] at P1; exact P1.elim
  | rt _ _ => rw [e] at P; exact P.elim
  | bk _ _ => rw [e] at P; exact P.elim
  | ct _ _ => rw [e] at P; exact P.elim
  | exc _ _ _ => rw [e] at P; exact P.elim
  | er => rw [e] at P; exact P.elim
theorem ok_comp {wi : TI} {t : TG} {tt : TT} {te : TE} {fi : FI} {g : FG} {ft : FT} {fe : FE} {ts own : List Nat} (hi : IOk cf W wi fi) (hg : GOk cf W0 t g ts) (ht : TOk cf W0 tt ft) (he : EOk cf W0 te fe) (hown : ∀ i ∈ ts, i ∈ own) : EOk cf W (tLc wi t tt te own) (fComp fi g ft fe own) := fun ρ σ m H A Q S L P => by
  refine hi ρ σ m H A _ S L ?_
  unfold fComp at P
  cases e : fi ρ A with
  | er => rw [e] at P; exact P.elim
  | exc x A1 => rw [e] at P; exact P
  | ok s A1 =>
    rw [e] at P
    intro m1 H1 J g1 sr
    have P1 := Post.mono g1 P
    have L1 := (L.mono g1.pre g1.fz).wipe own
    intro D hD
    have gN : Go cf m1 H1 (m1 ++ [D]) (upd H1 D (.lst [])) (A1 ++ [.lst []]) := go_new g1.sim hD ⟨[], upd_same, .nil⟩
    have hk : (m1 ++ [D])[A1.length]? = some D := by
      rw [← g1.sim.len, List.getElem?_append_right (Nat.le_refl _)]
      simp
    have sr1 := SrcR.mono gN sr
    have L2' := L1.mono gN.pre gN.fz
    have P2 := Post.mono gN P1
    cases s with
    | fix xs =>
      refine ⟨fun i n H' => n = xs.length - i ∧ i ≤ xs.length ∧ ∃ m' A', Go cf (m1 ++ [D]) (upd H1 D (.lst [])) m' H' A' ∧ Post cf W (rA cf) m' H' σ Q (compF g ft fe A1.length (wipeR ρ own) (xs.drop i) A'), ⟨_, rfl, Nat.zero_le _, _, _, Go.refl gN.sim, P2⟩, ?_⟩
      rintro i n H2 ⟨rfl, hi, m2, A2, g2, P3⟩
      obtain ⟨go, stop, yld⟩ := sr1 m2 H2 A2 g2
      by_cases hlt : i < xs.length
      · refine .inr ⟨go i hlt, fun H' => i + 1 ≤ xs.length ∧ ∃ m' A', Go cf (m1 ++ [D]) (upd H1 D (.lst [])) m' H' A' ∧ Post cf W (rA cf) m' H' σ Q (compF g ft fe A1.length (wipeR ρ own) (xs.drop (i + 1)) A'), fun H' h => ⟨xs.length - (i + 1), by omega, rfl, h⟩, fun x H3 y => ?_⟩
        obtain ⟨y, hy, g3, r3⟩ := yld i x H3 y hlt
        obtain ⟨_, hyy⟩ := List.getElem?_eq_some_iff.mp hy
        rw [List.drop_eq_getElem_cons hlt, hyy] at P3
        exact turnC_ok hg ht he hown g3.sim (L2'.mono (g2.trans g3).pre (g2.trans g3).fz) ((g2.trans g3).pre _ _ hk) r3 (Post.mono g3 P3) fun m' H' A' g4 P4 => ⟨hlt, m', A', (g2.trans g3).trans g4, P4⟩
      · have e : i = xs.length := by omega
        subst e
        rw [List.drop_length] at P3
        exact .inl ⟨stop, P3 m2 H2 _ (Go.refl g2.sim) (.obj (g2.pre _ _ hk))⟩
    | live n f =>
      refine ⟨fun i c H' => ∃ m' A', Go cf (m1 ++ [D]) (upd H1 D (.lst [])) m' H' A' ∧ Post cf W (rA cf) m' H' σ Q (compL g ft fe A1.length (wipeR ρ own) n f c i A'), ⟨fuel, _, _, Go.refl gN.sim, P2⟩, ?_⟩
      rintro i c H2 ⟨m2, A2, g2, P3⟩
      cases c with
      | zero => exact P3.elim
      | succ c =>
        unfold compL at P3
        split at P3
        · rename_i xs ex
          obtain ⟨go, stop, yld⟩ := sr1 m2 H2 A2 xs g2 ex
          split at P3
          · rename_i x0 hx0
            obtain ⟨hlt, _⟩ := List.getElem?_eq_some_iff.mp hx0
            refine .inr ⟨go i hlt, fun H' => ∃ m' A', Go cf (m1 ++ [D]) (upd H1 D (.lst [])) m' H' A' ∧ Post cf W (rA cf) m' H' σ Q (compL g ft fe A1.length (wipeR ρ own) n f c (i + 1) A'), fun H' h => ⟨c, Nat.lt_succ_self c, h⟩, fun x H3 y => ?_⟩
            obtain ⟨y, hy, g3, r3⟩ := yld i x H3 y
            rw [hx0] at hy
            cases hy
            exact turnC_ok hg ht he hown g3.sim (L2'.mono (g2.trans g3).pre (g2.trans g3).fz) ((g2.trans g3).pre _ _ hk) r3 (Post.mono g3 P3) fun m' H' A' g4 P4 => ⟨m', A', (g2.trans g3).trans g4, P4⟩
          · rename_i hx0
            exact .inl ⟨stop i (List.getElem?_eq_none_iff.mp hx0), P3 m2 H2 _ (Go.refl g2.sim) (.obj (g2.pre _ _ hk))⟩
        · exact P3.elim
theorem c_comp {elt tg iter : Expr} {ifs : List Expr} {scope : Scope} {pos : Pos} {fi : FI} {g : FG} {ft : FT} {fe : FE} {ts : List Nat} (own : List (Str × Nat)) (hc : X.calm = true) (hN : X.N.Nodup) (hi : CI cf X W tg iter fi) (ok : BlkOk X.N X.env.scope scope own)
    (hg : ∀ (s : Shared) (H : Hp) (C : Addr) (cl : List (Str × Addr)) (fp : List Addr), CG cf (X.blk s H scope (compEnvC scope cl C X.env) fp) W0 tg g ts) (ht : ∀ (s : Shared) (H : Hp) (C : Addr) (cl : List (Str × Addr)) (fp : List Addr), CTs cf (X.blk s H scope (compEnvC scope cl C X.env) fp) W0 ifs ft)
    (he : ∀ (s : Shared) (H : Hp) (C : Addr) (cl : List (Str × Addr)) (fp : List Addr), CE cf (X.blk s H scope (compEnvC scope cl C X.env) fp) W0 elt fe) (hown : ∀ i ∈ ts, i ∈ own.map (·.2) := by decide) (hs : ∀ x, foldedSetIterable iter X.env x = pure x := by intro _; rfl) :
    CE cf X W (.ListComp elt [⟨tg, iter, ifs, 0⟩] scope pos) (fComp fi g ft fe (own.map (·.2))) := by
  obtain ⟨t, p, o⟩ := hi.ex
  exact ⟨_, pe_lc hc hN p ok (fun s H C cl fp => (hg s H C cl fp).pg) (fun s H C cl fp => (ht s H C cl fp).pe) (fun s H C cl fp => (he s H C cl fp).pe) hs, ok_comp o ok_G ok_F ok_F hown⟩
/-- name = [..] on one line, the name a local -/
theorem cs_setComp {y : Str} {py : Pos} {elt tg iter : Expr} {ifs : List Expr} {scope : Scope} {pos spos : Pos} {fi : FI} {g : FG} {ft : FT} {fe : FE} {ts : List Nat} (i : Nat) (own : List (Str × Nat)) (hc : X.calm = true) (hN : X.N.Nodup) (hi : CI cf X W tg iter fi) (ok : BlkOk X.N X.env.scope scope own)
    (hg : ∀ (s : Shared) (H : Hp) (C : Addr) (cl : List (Str × Addr)) (fp : List Addr), CG cf (X.blk s H scope (compEnvC scope cl C X.env) fp) W0 tg g ts) (ht : ∀ (s : Shared) (H : Hp) (C : Addr) (cl : List (Str × Addr)) (fp : List Addr), CTs cf (X.blk s H scope (compEnvC scope cl C X.env) fp) W0 ifs ft)
    (he : ∀ (s : Shared) (H : Hp) (C : Addr) (cl : List (Str × Addr)) (fp : List Addr), CE cf (X.blk s H scope (compEnvC scope cl C X.env) fp) W0 elt fe)
    (hsw : swapsWith (.ListComp elt [⟨tg, iter, ifs, 0⟩] scope pos) (some (.Name y py)) spos.line X.env = pure true) (hy : X.N[i]? = some y := by rfl) (hyl : X.env.scope.names.lookup y = some .local := by rfl) (hown : ∀ i ∈ ts, i ∈ own.map (·.2) := by decide) (hs : ∀ x, foldedSetIterable iter X.env x = pure x := by intro _; rfl) :
    CS cf X W (.Assign [.Name y py] (.ListComp elt [⟨tg, iter, ifs, 0⟩] scope pos) spos) (fSet i (fComp fi g ft fe (own.map (·.2)))) := by
  obtain ⟨t, p, o⟩ := hi.ex
  refine ⟨_, ps_setLc hc hN hy hyl hsw p ok (fun s H C cl fp => (hg s H C cl fp).pg) (fun s H C cl fp => (ht s H C cl fp).pe) (fun s H C cl fp => (he s H C cl fp).pe) hs, fun ρ σ m H A D S L P => ?_⟩
  refine (ok_comp (W := W) o ok_G ok_F ok_F hown).thenS S L P fun x v m1 H1 A1 _ g1 L1 r P1 => ?_
  exact P1 m1 H1 _ (Go.refl g1.sim) (L1.set i r)

/-! ### defs -/
abbrev FD := List AV → AH → Res AV
/-! what refers to the first n places alone -/
mutual
def cloV (n : Nat) : AV → Bool
  | .obj k => decide (k < n)
  | .tup xs => cloVs n xs
  | .non => true
  | .bl _ => true
  | .int _ => true
  | .str _ => true
  | .ty _ => true
  | .scr _ => true
def cloVs (n : Nat) : List AV → Bool
  | [] => true
  | x :: xs => cloV n x && cloVs n xs
end
def cloK {κ : Type} (n : Nat) : List (κ × AV) → Bool
  | [] => true
  | p :: ps => cloV n p.2 && cloK n ps
def cloF (n : Nat) : List (Option AV) → Bool
  | [] => true
  | some x :: xs => cloV n x && cloF n xs
  | none :: xs => cloF n xs
def cloO (n : Nat) : AO → Bool
  | .lst xs => cloVs n xs
  | .dK kvs => cloK n kvs
  | .dT kvs => cloK n kvs
  | .lk kvs => cloK n kvs
  | .ins _ fs => cloVs n fs
  | .slt _ fs => cloF n fs
  | .exn _ fs => cloVs n fs
  | .unk => true
def cloA (n : Nat) : AH → Bool
  | [] => true
  | o :: os => cloO n o && cloA n os
/-- what was made within a def and is not handed on is forgotten -/
def gcH (A : AH) (v : AV) (B : AH) : AH := if (cloV A.length v && cloA A.length (B.take A.length)) = true then B.take A.length else B
def runDef (n : Nat) (f : FS) : FD := fun as A => match f (as.map some ++ List.replicate (n - as.length) none) A with
  | .rt v A' => .ok v (gcH A v A')
  | .nx _ A' => .ok .non (gcH A .non A')
  | .exc e _ A' => .exc e A'
  | _ => .er
/-- the same, nothing is forgotten -/
def runDef0 (n : Nat) (f : FS) : FD := fun as A => match f (as.map some ++ List.replicate (n - as.length) none) A with
  | .rt v A' => .ok v A'
  | .nx _ A' => .ok .non A'
  | .exc e _ A' => .exc e A'
  | _ => .er
mutual
theorem RelA.less {K : PySem.W.Frag} {m m1 : List Addr} {H : Hp} (p : Pre m m1) : ∀ {x : AV} {v : V}, RelA K m1 H x v → cloV m.length x = true → RelA K m H x v
  | _, _, .non, _ => .non
  | _, _, .bl b, _ => .bl b
  | _, _, .int i, _ => .int i
  | _, _, .str x, _ => .str x
  | _, _, .ty x, _ => .ty x
  | _, _, .scr h, _ => .scr h
  | _, _, .obj (n := n) (a := a) h, c => .obj (by
      rw [cloV, decide_eq_true_eq] at c
      have e : m[n]? = some m[n] := List.getElem?_eq_getElem c
      have := p _ _ e
      rw [h] at this
      rw [e, this])
  | _, _, .tup h r, c => .tup h (RelAs.less p r (by rw [cloV] at c; exact c))
theorem RelAs.less {K : PySem.W.Frag} {m m1 : List Addr} {H : Hp} (p : Pre m m1) : ∀ {xs : List AV} {vs : List V}, RelAs K m1 H xs vs → cloVs m.length xs = true → RelAs K m H xs vs
  | _, _, .nil, _ => .nil
  | _, _, .cons h t, c => by
    rw [cloVs, Bool.and_eq_true] at c
    exact .cons (RelA.less p h c.1) (RelAs.less p t c.2)
end
theorem RelKV.less {κ : Type} {K : PySem.W.Frag} {m m1 : List Addr} {H : Hp} (p : Pre m m1) : ∀ {xs : List (κ × AV)} {vs : List (κ × V)}, RelKV K m1 H xs vs → cloK m.length xs = true → RelKV K m H xs vs
  | _, _, .nil, _ => .nil
  | _, _, .cons h t, c => by
    rw [cloK, Bool.and_eq_true] at c
    exact .cons ⟨h.1, h.2.less p c.1⟩ (RelKV.less p t c.2)
theorem RelOs.less {K : PySem.W.Frag} {m m1 : List Addr} {H : Hp} (p : Pre m m1) : ∀ {xs : List (Option AV)} {vs : List (Option V)}, RelOs K m1 H xs vs → cloF m.length xs = true → RelOs K m H xs vs
  | _, _, .nil, _ => .nil
  | some _ :: _, some _ :: _, .cons h t, c => by
    rw [cloF, Bool.and_eq_true] at c
    exact .cons (RelA.less p h c.1) (RelOs.less p t c.2)
  | none :: _, none :: _, .cons h t, c => by
    rw [cloF] at c
    exact .cons h (RelOs.less p t c)
  | some _ :: _, none :: _, .cons h _, _ => h.elim
  | none :: _, some _ :: _, .cons h _, _ => h.elim
theorem ObjS.less {m m1 : List Addr} {H : Hp} {a : Addr} {o : AO} (p : Pre m m1) (h : ObjS cf m1 H a o) (c : cloO m.length o = true) : ObjS cf m H a o := by
  cases o with
  | lst xs => obtain ⟨vs, e, r⟩ := h; exact ⟨vs, e, r.less p c⟩
  | dK xs => obtain ⟨vs, e, r⟩ := h; exact ⟨vs, e, r.less p c⟩
  | dT xs => obtain ⟨vs, e, r⟩ := h; exact ⟨vs, e, r.less p c⟩
  | ins k fs => obtain ⟨dx, vs, e, l, r⟩ := h; exact ⟨dx, vs, e, l, r.less p c⟩
  | slt k fs => obtain ⟨dx, vs, ne, h, r⟩ := h; exact ⟨dx, vs, ne, h, r.less p c⟩
  | lk kvs => obtain ⟨o, vs, e, r⟩ := h; exact ⟨o, vs, e, r.less p c⟩
  | exn k fs =>
    rcases h with ⟨e0, e⟩ | ⟨dd, vs, ne, e, e2, l, r⟩
    · exact .inl ⟨e0, e⟩
    · exact .inr ⟨dd, vs, ne, e, e2, l, r.less p c⟩
  | unk => exact h
theorem cloA_at : ∀ {n : Nat} {A : AH} {i : Nat} {o : AO}, cloA n A = true → A[i]? = some o → cloO n o = true
  | _, [], _, _, _, e => by simp at e
  | _, _ :: _, 0, _, c, e => by
    rw [cloA, Bool.and_eq_true] at c
    simp at e
    subst e
    exact c.1
  | _, _ :: _, i + 1, o, c, e => by
    rw [cloA, Bool.and_eq_true] at c
    exact cloA_at c.2 (by simpa using e)
/-- what is forgotten is not missed -/
theorem gc_ok {m m1 : List Addr} {H H1 : Hp} {A B : AH} {v : AV} {u : V} (S : Sim cf m H A) (g : Go cf m H m1 H1 B) (r : RelA cf.K m1 H1 v u) : ∃ m2, Go cf m H m2 H1 (gcH A v B) ∧ RelA cf.K m2 H1 v u := by
  unfold gcH
  split
  · rename_i c
    rw [Bool.and_eq_true, ← S.len] at c
    refine ⟨m, ⟨Pre.refl m, g.fz, ?_, S.nd, fun n a o hm hA => ?_, g.sim.tab⟩, r.less g.pre c.1⟩
    · rw [List.length_take, ← S.len]
      by_cases hl : m.length ≤ B.length
      · exact (Nat.min_eq_left hl).symm
      · exfalso
        have h1 := g.sim.len
        have hlt : B.length < m.length := by omega
        have e : m[B.length]? = some m[B.length] := List.getElem?_eq_getElem hlt
        have := g.pre _ _ e
        obtain ⟨q, _⟩ := List.getElem?_eq_some_iff.mp this
        omega
    · have hlt : n < m.length := (List.getElem?_eq_some_iff.mp hm).1
      have hB : B[n]? = some o := by
        rw [List.getElem?_take, if_pos (by rw [← S.len]; exact hlt)] at hA
        exact hA
      exact (g.sim.at_ n a o (g.pre _ _ hm) hB).less g.pre (cloA_at c.2 (by rw [← S.len] at hA; exact hA))
  · exact ⟨m1, g, r⟩
theorem RelAs.one {K : PySem.W.Frag} {m : List Addr} {H : Hp} {x : AV} {vs : List V} (r : RelAs K m H [x] vs) : ∃ v, vs = [v] ∧ RelA K m H x v := by
  cases r with
  | cons a b => cases b; exact ⟨_, rfl, a⟩
theorem RelAs.two {K : PySem.W.Frag} {m : List Addr} {H : Hp} {x y : AV} {vs : List V} (r : RelAs K m H [x, y] vs) : ∃ v w, vs = [v, w] ∧ RelA K m H x v ∧ RelA K m H y w := by
  cases r with
  | cons a b =>
    obtain ⟨w, rfl, q⟩ := b.one
    exact ⟨_, w, rfl, a, q⟩
/-- one thing, or a pair of things, that a def made and hands on stands alone behind it -/
def gcR (A : AH) (v : AV) (B : AH) : Res AV :=
  if cloA A.length (B.take A.length) = true then
    if cloV A.length v = true then .ok v (B.take A.length)
    else match v with
    | .obj k => match B[k]? with
      | some o => if A.length ≤ k ∧ cloO A.length o = true then .ok (.obj A.length) (B.take A.length ++ [o]) else .ok v B
      | none => .ok v B
    | .tup [.obj i, .obj j] => match B[i]?, B[j]? with
      | some o, some p => if A.length ≤ i ∧ A.length ≤ j ∧ i ≠ j ∧ cloO A.length o = true ∧ cloO A.length p = true then .ok (.tup [.obj A.length, .obj (A.length + 1)]) (B.take A.length ++ [o, p]) else .ok v B
      | _, _ => .ok v B
    | _ => .ok v B
  else .ok v B
/-- .. that an exception leaves -/
def gcE (A : AH) (e : Ex) (B : AH) : Res AV := if (cloVs A.length e.fs && cloA A.length (B.take A.length)) = true then .exc e (B.take A.length) else .exc e B
def runDefR (n : Nat) (f : FS) : FD := fun as A => match f (as.map some ++ List.replicate (n - as.length) none) A with
  | .rt v A' => gcR A v A'
  | .nx _ A' => gcR A .non A'
  | .exc e _ A' => gcE A e A'
  | _ => .er
def RunOf (n : Nat) (fs : FS) (G : FD) : Prop := G = runDef n fs ∨ G = runDef0 n fs ∨ G = runDefR n fs
theorem RunOf.gc {n : Nat} {fs : FS} : RunOf n fs (runDef n fs) := .inl rfl
theorem RunOf.all {n : Nat} {fs : FS} : RunOf n fs (runDef0 n fs) := .inr (.inl rfl)
theorem RunOf.re {n : Nat} {fs : FS} : RunOf n fs (runDefR n fs) := .inr (.inr rfl)
theorem Go.lenle {m m1 : List Addr} {H H1 : Hp} {A B : AH} (S : Sim cf m H A) (g : Go cf m H m1 H1 B) : A.length ≤ B.length := by
  rw [← S.len]
  by_cases hl : m.length ≤ B.length
  · exact hl
  · exfalso
    have h1 := g.sim.len
    have hlt : B.length < m.length := by omega
    have e : m[B.length]? = some m[B.length] := List.getElem?_eq_getElem hlt
    have := g.pre _ _ e
    obtain ⟨q, _⟩ := List.getElem?_eq_some_iff.mp this
    omega
theorem gcR_base {m m1 : List Addr} {H H1 : Hp} {A B : AH} (S : Sim cf m H A) (g : Go cf m H m1 H1 B) (c : cloA A.length (B.take A.length) = true) : Sim cf m H1 (B.take A.length) := by
  refine ⟨?_, S.nd, fun n a o hm hA => ?_, g.sim.tab⟩
  · rw [List.length_take, ← S.len, Nat.min_eq_left (by rw [S.len]; exact g.lenle S)]
  · have hlt : n < m.length := (List.getElem?_eq_some_iff.mp hm).1
    have hB : B[n]? = some o := by
      rw [List.getElem?_take, if_pos (by rw [← S.len]; exact hlt)] at hA
      exact hA
    exact (g.sim.at_ n a o (g.pre _ _ hm) hB).less g.pre (by rw [S.len]; exact cloA_at c hA)
/-- a place of a larger naming is put behind a smaller one -/
theorem Sim.put_in {m mx m1 : List Addr} {H1 : Hp} {A1 B : AH} {k : Nat} {a : Addr} {o : AO} (S1 : Sim cf mx H1 A1) (SB : Sim cf m1 H1 B) (pm : Pre m mx) (p : Pre m m1) (ha : m1[k]? = some a) (hn : a ∉ mx) (hB : B[k]? = some o) (c : cloO m.length o = true) :
    Sim cf (mx ++ [a]) H1 (A1 ++ [o]) := by
  refine ⟨by rw [List.length_append, List.length_append, S1.len]; rfl, ?_, fun n b q hm hA => ?_, S1.tab⟩
  · rw [List.nodup_append]
    refine ⟨S1.nd, by simp, fun x hx b hb e => ?_⟩
    rw [List.mem_singleton] at hb
    subst hb e
    exact hn hx
  · by_cases hl : n < mx.length
    · rw [List.getElem?_append_left hl] at hm
      rw [List.getElem?_append_left (by rw [← S1.len]; exact hl)] at hA
      exact (S1.at_ n b q hm hA).stay (Pre.app mx _) ⟨fun _ _ h => h, fun _ _ _ h => h⟩ (fun _ h => h) fun _ _ h _ => h
    · rw [List.getElem?_append_right (by omega)] at hm
      rw [List.getElem?_append_right (by rw [← S1.len]; omega), ← S1.len] at hA
      have e0 : n - mx.length = 0 := by
        obtain ⟨q, _⟩ := List.getElem?_eq_some_iff.mp hm
        simp at q
        omega
      rw [e0] at hm hA
      simp at hm hA
      subst hm hA
      exact ((SB.at_ k a o ha hB).less p c).stay (pm.trans (Pre.app mx _)) ⟨fun _ _ h => h, fun _ _ _ h => h⟩ (fun _ h => h) fun _ _ h _ => h
theorem fresh_notin {m m1 : List Addr} {a : Addr} {k : Nat} (nd : m1.Nodup) (p : Pre m m1) (ha : m1[k]? = some a) (hk : m.length ≤ k) : a ∉ m := fun hx => by
  obtain ⟨n, hl, e⟩ := List.getElem_of_mem hx
  have e1 : m[n]? = some a := by rw [List.getElem?_eq_getElem hl, e]
  have := nd_ix nd (p _ _ e1) ha
  omega
theorem cloO_more {n k : Nat} (h : n ≤ k) : (∀ v, cloV n v = true → cloV k v = true) ∧ ∀ vs, cloVs n vs = true → cloVs k vs = true := by
  have key : ∀ s : Nat, (∀ v : AV, sizeOf v ≤ s → cloV n v = true → cloV k v = true) ∧ ∀ vs : List AV, sizeOf vs ≤ s → cloVs n vs = true → cloVs k vs = true := by
    intro s
    induction s with
    | zero =>
      refine ⟨fun v hs => ?_, fun vs hs => ?_⟩
      · cases v <;> simp at hs
      · cases vs <;> simp at hs
    | succ s ih =>
      refine ⟨fun v hs c => ?_, fun vs hs c => ?_⟩
      · cases v with
        | obj j => rw [cloV, decide_eq_true_eq] at c ⊢; omega
        | tup xs => rw [cloV] at c ⊢; exact ih.2 xs (by simp at hs; omega) c
        | _ => rfl
      · cases vs with
        | nil => rfl
        | cons x xs =>
          rw [cloVs, Bool.and_eq_true] at c ⊢
          exact ⟨ih.1 x (by simp at hs; omega) c.1, ih.2 xs (by simp at hs; omega) c.2⟩
  exact ⟨fun v => (key _).1 v (Nat.le_refl _), fun vs => (key _).2 vs (Nat.le_refl _)⟩
theorem cloK_more {κ : Type} {n k : Nat} (h : n ≤ k) : ∀ ps : List (κ × AV), cloK n ps = true → cloK k ps = true
  | [], _ => rfl
  | p :: ps, c => by
    rw [cloK, Bool.and_eq_true] at c ⊢
    exact ⟨(cloO_more h).1 _ c.1, cloK_more h ps c.2⟩
theorem cloF_more {n k : Nat} (h : n ≤ k) : ∀ ps : List (Option AV), cloF n ps = true → cloF k ps = true
  | [], _ => rfl
  | none :: ps, c => by
    rw [cloF] at c ⊢
    exact cloF_more h ps c
  | some x :: ps, c => by
    rw [cloF, Bool.and_eq_true] at c ⊢
    exact ⟨(cloO_more h).1 _ c.1, cloF_more h ps c.2⟩
theorem cloO_mono {n k : Nat} (h : n ≤ k) {o : AO} (c : cloO n o = true) : cloO k o = true := by
  cases o with
  | lst xs => exact (cloO_more h).2 xs c
  | dK xs => exact cloK_more h xs c
  | dT xs => exact cloK_more h xs c
  | lk xs => exact cloK_more h xs c
  | ins _ xs => exact (cloO_more h).2 xs c
  | slt _ xs => exact cloF_more h xs c
  | exn _ xs => exact (cloO_more h).2 xs c
  | unk => rfl
theorem gcR_ok {Q : VK} {E : XK} {m m1 : List Addr} {H H1 : Hp} {A B : AH} {v : AV} {u : V} (S : Sim cf m H A) (g : Go cf m H m1 H1 B) (r : RelA cf.K m1 H1 v u) (P : Post cf (WD E) (rA cf) m H [] Q (gcR A v B)) : Q u H1 := by
  unfold gcR at P
  by_cases c : cloA A.length (B.take A.length) = true
  · rw [if_pos c] at P
    have S1 := gcR_base S g c
    by_cases cv : cloV A.length v = true
    · rw [if_pos cv] at P
      exact P m H1 u ⟨Pre.refl m, g.fz, S1⟩ (r.less g.pre (by rw [S.len]; exact cv))
    · rw [if_neg cv] at P
      split at P
      · rename_i k
        split at P
        · rename_i o ho
          split at P
          · rename_i hc
            rw [← S.len] at hc
            obtain ⟨a, ha⟩ := g.sim.addr ho
            have S2 := S1.put_in g.sim (Pre.refl m) g.pre ha (fresh_notin g.sim.nd g.pre ha hc.1) ho hc.2
            obtain ⟨b, hb, rfl⟩ := r.to_obj
            rw [ha] at hb
            cases hb
            refine P (m ++ [a]) H1 _ ⟨Pre.app m _, g.fz, S2⟩ (.obj ?_)
            rw [← S.len, List.getElem?_append_right (Nat.le_refl _), Nat.sub_self]
            rfl
          · exact P m1 H1 u g r
        · exact P m1 H1 u g r
      · rename_i i j
        split at P
        · rename_i o p ho hp
          split at P
          · rename_i hc
            rw [← S.len] at hc
            obtain ⟨a, ha⟩ := g.sim.addr ho
            obtain ⟨b, hb⟩ := g.sim.addr hp
            have S2 := S1.put_in g.sim (Pre.refl m) g.pre ha (fresh_notin g.sim.nd g.pre ha hc.1) ho hc.2.2.2.1
            have hnb : b ∉ m ++ [a] := fun hx => by
              rw [List.mem_append, List.mem_singleton] at hx
              rcases hx with hx | hx
              · exact fresh_notin g.sim.nd g.pre hb hc.2.1 hx
              · subst hx
                exact hc.2.2.1 (nd_ix g.sim.nd ha hb)
            have S3 := S2.put_in g.sim (Pre.app m _) g.pre hb hnb hp hc.2.2.2.2
            obtain ⟨t, ws, rfl, ht, rw⟩ := r.to_tup
            obtain ⟨v1, v2, rfl, r1, r2⟩ := rw.two
            obtain ⟨a1, e1, rfl⟩ := r1.to_obj
            obtain ⟨b1, e2, rfl⟩ := r2.to_obj
            rw [ha] at e1
            cases e1
            rw [hb] at e2
            cases e2
            rw [List.append_assoc, List.append_assoc] at S3
            refine P (m ++ [a, b]) H1 _ ⟨Pre.app m _, g.fz, S3⟩ (.tup ht (.cons (.obj ?_) (.cons (.obj ?_) .nil)))
            · rw [← S.len, List.getElem?_append_right (Nat.le_refl _), Nat.sub_self]
              rfl
            · rw [← S.len, List.getElem?_append_right (by omega), Nat.add_sub_cancel_left]
              rfl
          · exact P m1 H1 u g r
        · exact P m1 H1 u g r
      · exact P m1 H1 u g r
  · rw [if_neg c] at P
    exact P m1 H1 u g r
theorem gcE_ok {Q : VK} {E : XK} {m m1 : List Addr} {H H1 : Hp} {A B : AH} {e : Ex} {cls : Value} {d : Option Addr} (S : Sim cf m H A) (g : Go cf m H m1 H1 B) (r : ExcR cf m1 H1 e cls d) (P : Post cf (WD E) (rA cf) m H [] Q (gcE A e B)) : E cls d H1 := by
  unfold gcE at P
  split at P
  · rename_i c
    rw [Bool.and_eq_true] at c
    have S1 := gcR_base S g c.2
    refine P m H1 cls d ⟨Pre.refl m, g.fz, S1⟩ ⟨r.1, ?_⟩
    rcases r.2 with z | ⟨dd, vs, h1, h2, h3, h4⟩
    · exact .inl z
    · exact .inr ⟨dd, vs, h1, h2, h3, h4.less g.pre (by rw [S.len]; exact c.1)⟩
  · exact P m1 H1 cls d g r
def spOf (cf : Cfg) (n : Nat) (G : FD) : Sp := fun vs H Q E => ∃ m A as, Sim cf m H A ∧ RelAs cf.K m H as vs ∧ as.length = n ∧ Post cf (WD E) (rA cf) m H [] Q (G as A)
theorem loc_start {m : List Addr} {H : Hp} {as : List AV} {vs : List V} (r : RelAs cf.K m H as vs) (n : Nat) : Loc cf.K m H (as.map some ++ List.replicate (n - as.length) none) (vs.map some ++ List.replicate (n - vs.length) none) := by
  refine ⟨by simp [r.length], fun i x e => ?_⟩
  by_cases h : i < as.length
  · rw [List.getElem?_append_left (by simpa using h), List.getElem?_map] at e
    cases q : as[i]? with
    | none => rw [q] at e; cases e
    | some y =>
      rw [q] at e
      cases e
      obtain ⟨v, h1, h2⟩ := r.get q
      exact ⟨v, by rw [List.getElem?_append_left (by simpa [← r.length] using h), List.getElem?_map, h1]; rfl, h2⟩
  · rw [List.getElem?_append_right (by simpa using h), List.getElem?_replicate] at e
    split at e <;> cases e
theorem body_ok {m : List Addr} {H : Hp} {Q : VK} {E : XK} {A1 : AH} {as : List AV} {n : Nat} {fs : FS} {G : FD} (hG : RunOf n fs G) (S1 : Sim cf m H A1) (P1 : Post cf (WD E) (rA cf) m H [] Q (G as A1)) :
    SPost cf (WD E) m H { nx := fun _ H' => Q .non H', rt := Q } (fs (as.map some ++ List.replicate (n - as.length) none) A1) := by
  rcases hG with rfl | rfl | rfl
  · unfold runDef at P1
    revert P1
    cases fs (as.map some ++ List.replicate (n - as.length) none) A1 with
    | nx ρ' A' => exact fun P1 m' H' σ' g l => let ⟨m2, g2, r2⟩ := gc_ok S1 g .non; P1 m2 H' .non g2 r2
    | rt v A' => exact fun P1 m' H' u g r => let ⟨m2, g2, r2⟩ := gc_ok S1 g r; P1 m2 H' u g2 r2
    | bk _ _ => exact fun P1 => P1.elim
    | ct _ _ => exact fun P1 => P1.elim
    | exc e ρ' A' => exact fun P1 m' H' σ' cls d g l x => P1 m' H' cls d g x
    | er => exact fun P1 => P1.elim
  · unfold runDef0 at P1
    revert P1
    cases fs (as.map some ++ List.replicate (n - as.length) none) A1 with
    | nx ρ' A' => exact fun P1 m' H' σ' g l => P1 m' H' .non g .non
    | rt v A' => exact fun P1 m' H' u g r => P1 m' H' u g r
    | bk _ _ => exact fun P1 => P1.elim
    | ct _ _ => exact fun P1 => P1.elim
    | exc e ρ' A' => exact fun P1 m' H' σ' cls d g l x => P1 m' H' cls d g x
    | er => exact fun P1 => P1.elim
  · unfold runDefR at P1
    revert P1
    cases fs (as.map some ++ List.replicate (n - as.length) none) A1 with
    | nx ρ' A' => exact fun P1 m' H' σ' g l => gcR_ok S1 g .non P1
    | rt v A' => exact fun P1 m' H' u g r => gcR_ok S1 g r P1
    | bk _ _ => exact fun P1 => P1.elim
    | ct _ _ => exact fun P1 => P1.elim
    | exc e ρ' A' => exact fun P1 m' H' σ' cls d g l x => gcE_ok S1 g x P1
    | er => exact fun P1 => P1.elim
theorem ok_def {P : Program} {w : World} {mg : Str → Option Value} {base : Heap} {x qual : Str} {st : Stmt} {f : Addr} {fd : FuncData} {N ps : List Str} {k : Nat} {fs : FS} {G : FD} (hG : RunOf N.length fs G) (F : Fun cf.K x qual st f fd) (S : FnScope N ps (defScope st))
    (hbody : ∀ (cdv : Value) (A : Around) (outer : List Env) (s : Shared) (H : Hp) (E : XK), Room k (A.deeper (envOfC qual (defScope st) s.heap.objs.size f cdv)) →
      CB cf (cxOf (L2.CX P w) P w cf.K mg base N qual (defScope st) f cdv A outer s H E) (WD E) (defBody st) fs) : FnOk P w cf.K mg base (L2.CX P w) (k + 1) f fd ps (spOf cf ps.length G) := by
  refine F.okX S (fun vs H Q E h => ?_) (fun cdv A outer s H vs Q E hr h => ?_)
  · obtain ⟨m, A, as, _, r, hl, _⟩ := h
    rw [← r.length, hl]
  · obtain ⟨t, p, o⟩ := (hbody cdv A outer s H E hr).ex
    obtain ⟨m, A1, as, S1, r, hl, P1⟩ := h
    refine ⟨t, p, o _ _ m H A1 _ S1 (loc_start r N.length) ?_⟩
    exact body_ok hG S1 P1
def fCall (n : Nat) (G : FD) (f : FA) : FE := fun ρ A => (f ρ A).bind fun as A => if as.length = n then G as A else .er
theorem post_w {m : List Addr} {H : Hp} {σ : L2.St} {Q : VK} {r : Res AV} (P : Post cf W (rA cf) m H σ Q r) : Post cf (WD (WE W σ)) (rA cf) m H [] Q r := by
  cases r with
  | ok _ _ => exact P
  | exc _ _ => exact P
  | er => exact P
theorem ok_call {n : Nat} {G : FD} {t : TA} {f : FA} (h : AOk cf W t f) : EOk cf W (tCallS (spOf cf n G) (WE W) t) (fCall n G f) := fun ρ σ m H A Q S L P => by
  refine h.then S L P fun as vs m1 H1 A1 _ g1 L1 r P1 => ?_
  obtain ⟨hl, P1⟩ := post_if P1
  exact ⟨m1, A1, as, g1.sim, r, hl, post_w P1⟩
theorem c_call {x : Str} {p pos : Pos} {e : Expr} {es : List Expr} {k n : Nat} {fa : Addr} {fd : FuncData} {ps : List Str} {G : FD} {f : FA} (F : FnOk X.prog X.w X.K X.mg X.base (L2.CX X.prog X.w) k fa fd ps (spOf cf n G)) (hr : Room k X.A) (hm : X.mg x = some (.ref fa)) (hk : PySem.W.keepIn X.K (.ref fa) = true)
    (hb : Binds X.K fd ps []) (tk : Takes X W) (ha : CA cf X W (e :: es) f) (hg : Gl X x := by rfl) (hdb : (x == ("__debug__" : Str)) = false := by decide) (he : starEach (e :: es) X.env = (false, eval e X.env) :: starEach es X.env := by rfl) (hpl : (backTo pos (starEach es X.env)).any (·.1) = false := by rfl) :
    CE cf X W (.Call (.Name x p) (e :: es) [] pos) (fCall n G f) := by
  obtain ⟨t, p, o⟩ := ha.ex
  exact ⟨_, pe_callS F hr hg hm hk hb (fun σ => passAt tk σ) p hdb he hpl, ok_call o⟩

/-! ### built-in calls -/
def CbOk (cf : Cfg) (r : List V → Hp → VK → Prop) (g : FD) : Prop := ∀ (W : WX) (m : List Addr) (H : Hp) (A : AH) (σ : L2.St) (Q : VK) (xs : List AV) (vs : List V), Sim cf m H A → RelAs cf.K m H xs vs → Post cf W (rA cf) m H σ Q (g xs A) → r vs H Q
def fCb (g : FD) (f : FA) : FE := fun ρ A => (f ρ A).bind fun xs A => g xs A
theorem ok_cb {r : List V → Hp → VK → Prop} {g : FD} {t : TA} {f : FA} (hr : CbOk cf r g) (h : AOk cf W t f) : EOk cf W (tCB r t) (fCb g f) := fun ρ σ m H A Q S L P => by
  refine h.then S L P fun xs vs m1 H1 A1 _ g1 L1 r P1 => ?_
  exact hr W m1 H1 A1 σ Q xs vs g1.sim r P1
theorem c_callB {x : Str} {id : String} {p pos : Pos} {e : Expr} {es : List Expr} {r : List V → Hp → VK → Prop} {g : FD} {f : FA} (hc : CallR X (.builtin id) r) (hr : CbOk cf r g) (hm : X.mg x = none) (hv : bootBuiltins x = some (.builtin id)) (ha : CA cf X W (e :: es) f) (hg : Gl X x := by rfl) (hn : x ≠ "__name__" := by decide) (hdb : (x == ("__debug__" : Str)) = false := by decide)
    (he : starEach (e :: es) X.env = (false, eval e X.env) :: starEach es X.env := by rfl) (hpl : (backTo pos (starEach es X.env)).any (·.1) = false := by rfl) : CE cf X W (.Call (.Name x p) (e :: es) [] pos) (fCb g f) := by
  obtain ⟨t, p, o⟩ := ha.ex
  exact ⟨_, pe_callB hc hg hm hv p hn hdb he hpl, ok_cb hr o⟩
theorem c_callTy {x : Str} {T : String} {p pos : Pos} {e : Expr} {es : List Expr} {r : List V → Hp → VK → Prop} {g : FD} {f : FA} (hc : CallR X (.type T) r) (hr : CbOk cf r g) (hm : X.mg x = none) (hv : bootBuiltins x = some (.type T)) (ha : CA cf X W (e :: es) f) (hg : Gl X x := by rfl) (hn : x ≠ "__name__" := by decide) (hdb : (x == ("__debug__" : Str)) = false := by decide)
    (he : starEach (e :: es) X.env = (false, eval e X.env) :: starEach es X.env := by rfl) (hpl : (backTo pos (starEach es X.env)).any (·.1) = false := by rfl) : CE cf X W (.Call (.Name x p) (e :: es) [] pos) (fCb g f) := by
  obtain ⟨t, p, o⟩ := ha.ex
  exact ⟨_, pe_callTy hc hg hm hv p hn hdb he hpl, ok_cb hr o⟩
def gAbs : FD := fun xs A => match xs with
  | [.int i] => .ok (.int (if i < 0 then -i else i)) A
  | _ => .er
theorem ok_abs : CbOk cf (fun xs H Q => ∃ i, xs = [.int i] ∧ Q (.int (if i < 0 then -i else i)) H) gAbs := fun W m H A σ Q xs vs S r P => by
  unfold gAbs at P
  split at P
  · rename_i i
    obtain ⟨v, rfl, q⟩ := r.one
    exact ⟨i, by rw [q.to_int], P m H _ (Go.refl S) (.int _)⟩
  · exact P.elim
def gMax2 : FD := fun xs A => match xs with
  | [.int i, .int j] => .ok (.int (if j > i then j else i)) A
  | _ => .er
def gMin2 : FD := fun xs A => match xs with
  | [.int i, .int j] => .ok (.int (if j < i then j else i)) A
  | _ => .er
theorem ok_max2 : CbOk cf (fun xs H Q => ∃ i j, xs = [.int i, .int j] ∧ Q (.int (if j > i then j else i)) H) gMax2 := fun W m H A σ Q xs vs S r P => by
  unfold gMax2 at P
  split at P
  · rename_i i j
    obtain ⟨v, w, rfl, q1, q2⟩ := r.two
    exact ⟨i, j, by rw [q1.to_int, q2.to_int], P m H _ (Go.refl S) (.int _)⟩
  · exact P.elim
theorem ok_min2 : CbOk cf (fun xs H Q => ∃ i j, xs = [.int i, .int j] ∧ Q (.int (if j < i then j else i)) H) gMin2 := fun W m H A σ Q xs vs S r P => by
  unfold gMin2 at P
  split at P
  · rename_i i j
    obtain ⟨v, w, rfl, q1, q2⟩ := r.two
    exact ⟨i, j, by rw [q1.to_int, q2.to_int], P m H _ (Go.refl S) (.int _)⟩
  · exact P.elim
/-- int(n), int(flag) -/
def gInt : FD := fun xs A => match xs with
  | [.int i] => .ok (.int i) A
  | [.bl k] => .ok (.int (if k then 1 else 0)) A
  | _ => .er
theorem ok_int : CbOk cf (fun xs H Q => (∃ i, xs = [.int i] ∧ Q (.int i) H) ∨ ∃ k, xs = [.bl k] ∧ Q (.int (if k then 1 else 0)) H) gInt := fun W m H A σ Q xs vs S r P => by
  unfold gInt at P
  split at P
  · rename_i i
    obtain ⟨v, rfl, q⟩ := r.one
    exact .inl ⟨i, by rw [q.to_int], P m H _ (Go.refl S) (.int _)⟩
  · rename_i i
    obtain ⟨v, rfl, q⟩ := r.one
    exact .inr ⟨i, by rw [q.to_bl], P m H _ (Go.refl S) (.int _)⟩
  · exact P.elim
/-! len -/
abbrev rLenAll (K : PySem.W.Frag) : List V → Hp → VK → Prop := fun xs H Q => (∃ p ys, xs = [.ref p] ∧ (SqL K H p ys ∨ SqT K H p ys) ∧ Q (.int ys.length) H) ∨ ((∃ z, xs = [.str z] ∧ z.length ≤ sizeLine ∧ Q (.int z.length) H) ∨
  ((∃ a kvs, xs = [V.ref a] ∧ H a = some (.dK kvs) ∧ Q (.int kvs.length) H) ∨ rLenT xs H Q))
theorem call_lenAll : CallR X (.builtin "len") (rLenAll X.K) := call_len_seq.or (call_len_str.or (call_lenD.or call_len_dT))
def gLen : FD := fun xs A => match xs with
  | [.str z] => if z.length < big then .ok (.int (z.length : Nat)) A else .er
  | [x] => match seqAt A x with
    | some ys => .ok (.int (ys.length : Nat)) A
    | none => match x with
      | .obj n => match A[n]? with
        | some (.dK kvs) => .ok (.int (kvs.length : Nat)) A
        | some (.dT kvs) => .ok (.int (kvs.length : Nat)) A
        | _ => .er
      | _ => .er
  | _ => .er
theorem paired_len {α β : Type} {R : α → β → Prop} {xs : List α} {ys : List β} (h : Paired R xs ys) : xs.length = ys.length := h.length
theorem ok_len : CbOk cf (rLenAll cf.K) gLen := fun W m H A σ Q xs vs S r P => by
  unfold gLen at P
  split at P
  · rename_i z
    obtain ⟨hl, P⟩ := post_if P
    obtain ⟨v, rfl, q⟩ := r.one
    exact .inr (.inl ⟨z, by rw [q.to_str], big_le hl, P m H _ (Go.refl S) (.int _)⟩)
  · rename_i x _
    obtain ⟨v, rfl, q⟩ := r.one
    split at P
    · rename_i ys e
      obtain ⟨a, ws, rfl, hs, r2⟩ := seqAt_ok S q e
      exact .inl ⟨a, ws, rfl, hs, P m H _ (Go.refl S) (by rw [← r2.length]; exact .int _)⟩
    · split at P
      · rename_i n _
        split at P
        · rename_i kvs e
          obtain ⟨a, rfl, _, ws, h1, r2⟩ := S.obj q e
          exact .inr (.inr (.inl ⟨a, ws, rfl, h1, P m H _ (Go.refl S) (by rw [← paired_len r2]; exact .int _)⟩))
        · rename_i kvs e
          obtain ⟨a, rfl, _, ws, h1, r2⟩ := S.obj q e
          exact .inr (.inr (.inr ⟨a, ws, rfl, h1, P m H _ (Go.refl S) (by rw [← paired_len r2]; exact .int _)⟩))
        · exact P.elim
      · exact P.elim
  · exact P.elim
/-! tuple(x), list(x) -/
def gTuple : FD := fun xs A => match xs with
  | [.tup ys] => .ok (.tup ys) A
  | [x] => match seqAt A x with
    | some ys => .ok (.tup ys) A
    | none => .er
  | _ => .er
theorem ok_tuple : CbOk cf (fun xs H Q => ∃ p ys, xs = [.ref p] ∧ ((SqL cf.K H p ys ∧ ∀ l, H l = none → Q (.ref l) (upd H l (.tup ys))) ∨ (SqT cf.K H p ys ∧ Q (.ref p) H))) gTuple := fun W m H A σ Q xs vs S r P => by
  unfold gTuple at P
  split at P
  · rename_i ys
    obtain ⟨v, rfl, q⟩ := r.one
    obtain ⟨a, ws, rfl, h1, r2⟩ := q.to_tup
    exact ⟨a, ws, rfl, .inr ⟨SqT.of h1, P m H _ (Go.refl S) q⟩⟩
  · rename_i x hx
    obtain ⟨v, rfl, q⟩ := r.one
    split at P
    · rename_i ys e
      have hl : ∃ a ws, v = .ref a ∧ SqL cf.K H a ws ∧ RelAs cf.K m H ys ws := by
        cases x with
        | obj n =>
          obtain ⟨_, a, ws, _, e1, _, e3, r'⟩ := lstAt_ok S q (show lstAt A (.obj n) = some ys from e)
          exact ⟨a, ws, e1, SqL.of e3, r'⟩
        | scr ns =>
          cases e
          cases q with
          | scr h => exact ⟨_, _, rfl, h.sq, RelAs.ints ns⟩
        | tup zs => exact (hx zs rfl).elim
        | _ => cases e
      obtain ⟨a, ws, rfl, hs, r2⟩ := hl
      exact ⟨a, ws, rfl, .inl ⟨hs, fun p hp => new_tup S r2 P hp⟩⟩
    · exact P.elim
  · exact P.elim
def kA : Key → AV
  | .inl i => .int i
  | .inr x => .str x
theorem kA_rel {K : PySem.W.Frag} {m : List Addr} {H : Hp} (k : Key) : RelA K m H (kA k) (kV k) := by
  cases k with
  | inl i => exact .int i
  | inr x => exact .str x
theorem kAs_rel {K : PySem.W.Frag} {m : List Addr} {H : Hp} : ∀ ks : List Key, RelAs K m H (ks.map kA) (ks.map kV)
  | [] => .nil
  | k :: ks => .cons (kA_rel k) (kAs_rel ks)
def gList : FD := fun xs A => match xs with
  | [x] => match seqAt A x with
    | some ys => .ok (.obj A.length) (A ++ [.lst ys])
    | none => match x with
      | .obj n => match A[n]? with
        | some (.dK kvs) => .ok (.obj A.length) (A ++ [.lst (kvs.map fun kv => kA kv.1)])
        | some (.dT kvs) => .ok (.obj A.length) (A ++ [.lst (kvs.map fun kv => .tup (kv.1.map kA))])
        | _ => .er
      | _ => .er
  | _ => .er
abbrev rListAll (K : PySem.W.Frag) : List V → Hp → VK → Prop := fun xs H Q => (∃ p ys, xs = [.ref p] ∧ (SqL K H p ys ∨ SqT K H p ys) ∧ ∀ l, H l = none → Q (.ref l) (upd H l (.lst ys))) ∨ (rListD xs H Q ∨
  (∃ d kvs, xs = [V.ref d] ∧ Rd H d (.dT kvs) ∧ ∀ p bs, H p = none → IsKeys H kvs bs → Q (.ref p) (upd H p (.lst (bs.map V.ref)))))
theorem call_listAll (hc : X.calm = true) : CallR X (.type "list") (rListAll X.K) := call_list_of.or ((call_list_dK hc).or (call_list_dT hc))
end
end Dn

set_option maxRecDepth 100000
set_option maxHeartbeats 1000000
/-! Dn, part F: lists and dicts. -/
namespace Dn
open PySem L2 PyProof.Rows

section
variable {cf : Cfg} {X : Cx} {W : WX}
theorem keys_rel {m : List Addr} {H : Hp} : ∀ {kvs : List (List Key × AV)} {vs : List (List Key × V)} {bs : List Addr}, RelKV cf.K m H kvs vs → IsKeys H vs bs → RelAs cf.K m H (kvs.map fun kv => .tup (kv.1.map kA)) (bs.map V.ref)
  | _, _, _, .nil, .nil => .nil
  | (k, x) :: kvs, (k', v) :: vs, b :: bs, .cons r rs, .cons h hs => by
    obtain ⟨e, r⟩ := r
    cases (show k = k' from e)
    exact .cons (.tup h (kAs_rel k)) (keys_rel rs hs)
theorem keysK_rel {m : List Addr} {H : Hp} : ∀ {kvs : List (Key × AV)} {vs : List (Key × V)}, RelKV cf.K m H kvs vs → RelAs cf.K m H (kvs.map fun kv => kA kv.1) (vs.map fun kv => kV kv.1)
  | _, _, .nil => .nil
  | (k, x) :: kvs, (k', v) :: vs, .cons r rs => by
    obtain ⟨e, r⟩ := r
    cases (show k = k' from e)
    exact .cons (kA_rel k) (keysK_rel rs)
theorem vals_rel {κ : Type} {m : List Addr} {H : Hp} : ∀ {kvs : List (κ × AV)} {vs : List (κ × V)}, RelKV cf.K m H kvs vs → RelAs cf.K m H (kvs.map (·.2)) (vs.map (·.2))
  | _, _, .nil => .nil
  | (k, x) :: kvs, (k', v) :: vs, .cons r rs => .cons r.2 (vals_rel rs)
theorem ok_listAll : CbOk cf (rListAll cf.K) gList := fun W m H A σ Q xs vs S r P => by
  unfold gList at P
  split at P
  · rename_i x
    obtain ⟨v, rfl, q⟩ := r.one
    split at P
    · rename_i ys e
      obtain ⟨a, ws, rfl, hs, r2⟩ := seqAt_ok S q e
      exact .inl ⟨a, ws, rfl, hs, fun p hp => new_list S r2 P hp⟩
    · split at P
      · rename_i n _
        split at P
        · rename_i kvs e
          obtain ⟨a, rfl, _, ws, h1, r2⟩ := S.obj q e
          exact .inr (.inl ⟨a, ws, rfl, h1, fun p hp => new_list S (keysK_rel r2) P hp⟩)
        · rename_i kvs e
          obtain ⟨a, rfl, _, ws, h1, r2⟩ := S.obj q e
          exact .inr (.inr ⟨a, ws, rfl, .inl h1, fun p bs hp hk => new_list S (keys_rel r2 hk) P hp⟩)
        · exact P.elim
      · exact P.elim
  · exact P.elim
/-- list(range(..)) -/
def fListRg (fi : FI) : FE := fun ρ A => (fi ρ A).bind fun s A => match s with
  | .fix xs => .ok (.obj A.length) (A ++ [.lst xs])
  | _ => .er

/-! ### slices -/
abbrev FO := Rho → AH → Res (Option Int)
structure CO (cf : Cfg) (X : Cx) (W : WX) (e : Option Expr) (f : FO) : Prop where
  ex : ∃ t, PO X e t ∧ Ok cf W (fun _ _ a b => a = b) t f
def foNone : FO := fun _ A => .ok none A
def foSome (f : FE) : FO := fun ρ A => (f ρ A).bind fun x A => match x with
  | .int i => .ok (some i) A
  | _ => .er
theorem co_none : CO cf X W none foNone := ⟨_, po_none, fun ρ σ m H A Q S L P => P m H none (Go.refl S) rfl⟩
theorem co_some {e : Expr} {f : FE} (h : CE cf X W e f) : CO cf X W (some e) (foSome f) := by
  obtain ⟨t, p, o⟩ := h.ex
  refine ⟨_, po_some p, fun ρ σ m H A Q S L P => ?_⟩
  refine o.then S L P fun x v m1 H1 A1 e0 g1 L1 r P1 => ?_
  clear e0
  split at P1
  · rename_i i
    exact ⟨i, r.to_int, P1 m1 H1 _ (Go.refl g1.sim) rfl⟩
  · exact P1.elim
def cutA (xs : List AV) (lo hi : Option Int) : List AV := (xs.drop (HT.sIx xs.length 0 lo)).take (HT.sIx xs.length xs.length hi - HT.sIx xs.length 0 lo)
theorem cut_rel {m : List Addr} {H : Hp} {xs : List AV} {vs : List V} (r : RelAs cf.K m H xs vs) (lo hi : Option Int) : RelAs cf.K m H (cutA xs lo hi) (cutV vs lo hi) := by
  unfold cutA cutV
  rw [r.length]
  exact (r.drop _).take _
theorem cut_all {α : Type} (xs : List α) (lo hi : Option Int) (h : HT.sIx xs.length 0 lo = 0 ∧ HT.sIx xs.length xs.length hi = xs.length) : (xs.drop (HT.sIx xs.length 0 lo)).take (HT.sIx xs.length xs.length hi - HT.sIx xs.length 0 lo) = xs := by
  rw [h.1, h.2]
  simp
def fSlice (fa : FE) (fl fh : FO) : FE := fun ρ A => (fa ρ A).bind fun x A => (fl ρ A).bind fun lo A => (fh ρ A).bind fun hi A => match x with
  | .tup xs => .ok (.tup (cutA xs lo hi)) A
  | .str z => if z.length < big then .ok (.str (cutS z lo hi)) A else .er
  | _ => match seqAt A x with
    | some xs => .ok (.obj A.length) (A ++ [.lst (cutA xs lo hi)])
    | none => .er
abbrev rSlAll (K : PySem.W.Frag) : V → Option Int → Option Int → Hp → VK → Prop := fun x lo hi H Q => rSlA K x lo hi H Q ∨ (rSlS x lo hi H Q ∨ rSlL K x lo hi H Q)
theorem c_slice {e : Expr} {lo hi : Option Expr} {pos p2 : Pos} {fa : FE} {fl fh : FO} (hK : X.K = cf.K) (he : CE cf X W e fa) (hl : CO cf X W lo fl) (hh : CO cf X W hi fh) : CE cf X W (.Subscript e (.Slice lo hi none p2) pos) (fSlice fa fl fh) := by
  obtain ⟨t, p, o⟩ := he.ex
  obtain ⟨t1, p1, o1⟩ := hl.ex
  obtain ⟨t2, p2, o2⟩ := hh.ex
  refine ⟨_, pe_slice (sl_tupA.or (sl_str.or sl_list)) p p1 p2, fun ρ σ m H A Q S L P => ?_⟩
  refine o.then S L P fun x v m1 H1 A1 e1 g1 L1 r P1 => ?_
  refine o1.then g1.sim L1 P1 fun l l' m2 H2 A2 e2 g2 L2 rl P2 => ?_
  refine o2.then g2.sim L2 P2 fun u u' m3 H3 A3 e3 g3 L3 ru P3 => ?_
  clear e1 e2 e3
  cases (show l = l' from rl)
  cases (show u = u' from ru)
  have r3 : RelA cf.K m3 H3 x v := r.mono (g2.trans g3).pre (g2.trans g3).fz
  rw [hK]
  split at P3
  · rename_i xs
    obtain ⟨a, vs, rfl, h1, r4⟩ := r3.to_tup
    refine .inl ⟨a, vs, rfl, SqT.of h1, fun hw => ?_, fun _ p hp => new_tup g3.sim (cut_rel r4 l u) P3 hp⟩
    have e : cutA xs l u = xs := by
      unfold cutA
      exact cut_all xs l u (by rw [r4.length]; exact hw)
    rw [e] at P3
    exact P3 m3 H3 _ (Go.refl g3.sim) r3
  · rename_i z
    obtain ⟨hz, P3⟩ := post_if P3
    exact .inr (.inl ⟨z, r3.to_str, big_le hz, P3 m3 H3 _ (Go.refl g3.sim) (.str _)⟩)
  · rename_i hx1 hx2
    split at P3
    · rename_i xs e
      have hl : ∃ a ws, v = .ref a ∧ SqL cf.K H3 a ws ∧ RelAs cf.K m3 H3 xs ws := by
        cases x with
        | obj n =>
          obtain ⟨_, a, ws, _, e1, _, e3, r'⟩ := lstAt_ok g3.sim r3 (show lstAt A3 (.obj n) = some xs from e)
          exact ⟨a, ws, e1, SqL.of e3, r'⟩
        | scr ns =>
          cases e
          cases r3 with
          | scr h => exact ⟨_, _, rfl, h.sq, RelAs.ints ns⟩
        | tup zs => exact (hx1 zs rfl).elim
        | _ => cases e
      obtain ⟨a, ws, rfl, hs, r4⟩ := hl
      exact .inr (.inr ⟨a, ws, rfl, hs, fun p hp => new_list g3.sim (cut_rel r4 l u) P3 hp⟩)
    · exact P3.elim

/-! ### methods of lists -/
abbrev FM := AV → List AV → AH → Res AV
def MtOk (cf : Cfg) (r : V → List V → Hp → VK → Prop) (g : FM) : Prop := ∀ (W : WX) (m : List Addr) (H : Hp) (A : AH) (σ : L2.St) (Q : VK) (x : AV) (v : V) (xs : List AV) (vs : List V), Sim cf m H A → RelA cf.K m H x v → RelAs cf.K m H xs vs → Post cf W (rA cf) m H σ Q (g x xs A) → r v vs H Q
/-- what a method's object is: a list, a dict, a text -/
def isL (A : AH) : AV → Bool
  | .obj n => match A[n]? with
    | some (.lst _) => true
    | _ => false
  | _ => false
theorem isL_ok {m : List Addr} {H : Hp} {A : AH} {x : AV} {v : V} (S : Sim cf m H A) (r : RelA cf.K m H x v) (h : isL A x = true) : tyV cf.K "list" v H := by
  unfold isL at h
  split at h
  · split at h
    · rename_i e
      obtain ⟨a, rfl, _, vs, h1, _⟩ := S.obj r e
      exact .inl ⟨rfl, vs, SqL.of h1⟩
    · cases h
  · cases h
def isDk (A : AH) : AV → Bool
  | .obj n => match A[n]? with
    | some (.dK _) => true
    | some (.dT _) => true
    | _ => false
  | _ => false
theorem isDk_ok {m : List Addr} {H : Hp} {A : AH} {x : AV} {v : V} (S : Sim cf m H A) (r : RelA cf.K m H x v) (h : isDk A x = true) : tyV cf.K "dict" v H := by
  unfold isDk at h
  split at h
  · split at h
    · rename_i e
      obtain ⟨a, rfl, _, vs, h1, _⟩ := S.obj r e
      exact .inr (.inr (.inl ⟨rfl, .inl ⟨vs, h1⟩⟩))
    · rename_i e
      obtain ⟨a, rfl, _, vs, h1, _⟩ := S.obj r e
      exact .inr (.inr (.inl ⟨rfl, .inr ⟨vs, h1⟩⟩))
    · cases h
  · cases h
def isS (_ : AH) : AV → Bool
  | .str _ => true
  | _ => false
theorem isS_ok {m : List Addr} {H : Hp} {A : AH} {x : AV} {v : V} (S : Sim cf m H A) (r : RelA cf.K m H x v) (h : isS A x = true) : tyV cf.K "str" v H := by
  cases x with
  | str z =>
    rw [r.to_str]
    exact rfl
  | _ => cases h
def fMeth0 (ty : AH → AV → Bool) (g : FM) (fo : FE) : FE := fun ρ A => (fo ρ A).bind fun x A => if ty A x = true then g x [] A else .er
def fMeth (ty : AH → AV → Bool) (g : FM) (fo : FE) (fa : FA) : FE := fun ρ A => (fo ρ A).bind fun x A => if ty A x = true then (fa ρ A).bind fun xs A => g x xs A else .er
theorem c_bm0 {o : Expr} {name : Str} {apos cpos : Pos} {T id : String} {r : V → List V → Hp → VK → Prop} {ty : AH → AV → Bool} {g : FM} {fo : FE} (pa : PlainAttrs T) (slot : Slot T name id) (hty : typeOf (.builtin id) = pure (.type "method_descriptor")) (hm : MtR X id r) (hK : X.K = cf.K)
    (hT : ∀ {m H A x v}, Sim cf m H A → RelA cf.K m H x v → ty A x = true → tyV cf.K T v H) (hr : MtOk cf r g) (ho : CE cf X W o fo) (hbase : attributeBase o name X.env (eval o X.env) = eval o X.env := by rfl) (hline : (apos.endLine == cpos.line) = true := by rfl) :
    CE cf X W (.Call (.Attribute o name apos) [] [] cpos) (fMeth0 ty g fo) := by
  obtain ⟨t, p, q⟩ := ho.ex
  refine ⟨_, pe_bm0 pa slot hty hm p hbase hline, fun ρ σ m H A Q S L P => ?_⟩
  refine q.then S L P fun x v m1 H1 A1 _ g1 L1 r1 P1 => ?_
  obtain ⟨h1, P1⟩ := post_if P1
  rw [hK]
  exact ⟨hT g1.sim r1 h1, hr W m1 H1 A1 σ Q x v [] [] g1.sim r1 .nil P1⟩
theorem c_bm {o e : Expr} {es : List Expr} {name : Str} {apos cpos : Pos} {T id : String} {r : V → List V → Hp → VK → Prop} {ty : AH → AV → Bool} {g : FM} {fo : FE} {fa : FA} (pa : PlainAttrs T) (slot : Slot T name id) (hty : typeOf (.builtin id) = pure (.type "method_descriptor")) (hm : MtR X id r) (hK : X.K = cf.K)
    (hT : ∀ {m H A x v}, Sim cf m H A → RelA cf.K m H x v → ty A x = true → tyV cf.K T v H) (hr : MtOk cf r g) (ho : CE cf X W o fo) (ha : CA cf X W (e :: es) fa) (hbase : attributeBase o name X.env (eval o X.env) = eval o X.env := by rfl)
    (hfew : ((backTo cpos (starEach (e :: es) X.env)).all (fun x => !x.1) && (backToKw cpos (keywordEach [] X.env)).all (fun x => x.1.isSome)
      && decide ((e :: es).length + ([] : List Keyword).length + (if ([] : List Keyword).isEmpty then 0 else 1) < 30)) = true := by rfl)
    (hline : (apos.endLine == cpos.line) = true := by rfl) (hs : starEach (e :: es) X.env = (false, eval e X.env) :: starEach es X.env := by rfl) (hplain : (backTo cpos (starEach es X.env)).any (·.1) = false := by rfl) :
    CE cf X W (.Call (.Attribute o name apos) (e :: es) [] cpos) (fMeth ty g fo fa) := by
  obtain ⟨t, p, q⟩ := ho.ex
  obtain ⟨t2, p2, q2⟩ := ha.ex
  refine ⟨_, pe_bm pa slot hty hm p p2 hbase hfew hline hs hplain, fun ρ σ m H A Q S L P => ?_⟩
  refine q.then S L P fun x v m1 H1 A1 _ g1 L1 r1 P1 => ?_
  obtain ⟨h1, P1⟩ := post_if P1
  rw [hK]
  refine ⟨hT g1.sim r1 h1, ?_⟩
  refine q2.then g1.sim L1 P1 fun xs vs m2 H2 A2 _ g2 L2 r2 P2 => ?_
  exact hr W m2 H2 A2 σ Q x v xs vs g2.sim (RelA.mono g2.pre g2.fz r1) r2 P2
/-- the list at a place is changed -/
theorem put_list {m : List Addr} {H : Hp} {A : AH} {σ : L2.St} {Q : VK} {n : Nat} {a : Addr} {xs : List AV} {vs : List V} {x : AV} {v : V} {u : HO} (S : Sim cf m H A) (hm : m[n]? = some a) (hu : H a = some u) (mu : Mn u) (r : RelAs cf.K m H xs vs) (rx : RelA cf.K m H x v) (P : Post cf W (rA cf) m H σ Q (.ok x (A.set n (.lst xs)))) : Q v (upd H a (.lst vs)) := by
  exact P m _ _ (go_put S hm hu mu ⟨vs, upd_same, r.mono (Pre.refl m) (fz_main hu mu)⟩) (rx.mono (Pre.refl m) (fz_main hu mu))
def gAppend : FM := fun x ys A => match x, ys with
  | .obj n, [y] => match A[n]? with
    | some (.lst xs) => if xs.length < big then .ok .non (A.set n (.lst (xs ++ [y]))) else .er
    | _ => .er
  | _, _ => .er
theorem ok_append : MtOk cf rAppend gAppend := fun W m H A σ Q x v ys vs S rx ry P => by
  unfold gAppend at P
  split at P
  · rename_i n y
    split at P
    · rename_i xs e
      obtain ⟨hl, P⟩ := post_if P
      obtain ⟨a, rfl, hm, ws, h1, r⟩ := S.obj rx e
      obtain ⟨u, rfl, ru⟩ := ry.one
      exact ⟨a, ws, u, rfl, rfl, h1, by rw [← r.length]; exact big_lt hl, put_list S hm h1 trivial (r.app (.cons ru .nil)) .non P⟩
    · exact P.elim
  · exact P.elim
def gExtend : FM := fun x ys A => match x, ys with
  | .obj n, [y] => match A[n]?, lstAt A y with
    | some (.lst xs), some zs => if xs.length + zs.length < big then .ok .non (A.set n (.lst (xs ++ zs))) else .er
    | _, _ => .er
  | _, _ => .er
theorem ok_extend : MtOk cf rExtend gExtend := fun W m H A σ Q x v ys vs S rx ry P => by
  unfold gExtend at P
  split at P
  · rename_i n y
    split at P
    · rename_i xs zs e e2
      obtain ⟨hl, P⟩ := post_if P
      obtain ⟨a, rfl, hm, ws, h1, r⟩ := S.obj rx e
      obtain ⟨u, rfl, ru⟩ := ry.one
      obtain ⟨_, b, us, _, rfl, _, h2, r2⟩ := lstAt_ok S ru e2
      exact ⟨a, b, ws, us, rfl, rfl, h1, h2, by rw [← r.length, ← r2.length]; exact big_le hl, put_list S hm h1 trivial (r.app r2) .non P⟩
    · exact P.elim
  · exact P.elim
theorem RelAs.dropLast {K : PySem.W.Frag} {m : List Addr} {H : Hp} {xs : List AV} {vs : List V} (r : RelAs K m H xs vs) : RelAs K m H xs.dropLast vs.dropLast := by
  rw [List.dropLast_eq_take, List.dropLast_eq_take, r.length]
  exact r.take _
def gPop : FM := fun x ys A => match x, ys with
  | .obj n, [] => match A[n]? with
    | some (.lst xs) => match xs[xs.length - 1]? with
      | some y => .ok y (A.set n (.lst xs.dropLast))
      | none => .er
    | _ => .er
  | _, _ => .er
theorem ok_pop : MtOk cf rPop gPop := fun W m H A σ Q x v ys vs S rx ry P => by
  unfold gPop at P
  split at P
  · rename_i n
    split at P
    · rename_i xs e
      split at P
      · rename_i y ey
        obtain ⟨a, rfl, hm, ws, h1, r⟩ := S.obj rx e
        obtain ⟨u, hu, ru⟩ := r.get ey
        cases ry
        exact ⟨a, ws, u, rfl, rfl, h1, by rw [← r.length]; exact hu, put_list S hm h1 trivial r.dropLast ru P⟩
      · exact P.elim
    · exact P.elim
  · exact P.elim
def gPopAt : FM := fun x ys A => match x, ys with
  | .obj n, [.int i] => match A[n]? with
    | some (.lst xs) => if rngB i = true then match seqIndex? i xs.length with
        | some k => match xs[k]? with
          | some y => .ok y (A.set n (.lst (xs.eraseIdx k)))
          | none => .er
        | none => .er
      else .er
    | _ => .er
  | _, _ => .er
theorem ok_popAt : MtOk cf rPopAt gPopAt := fun W m H A σ Q x v ys vs S rx ry P => by
  unfold gPopAt at P
  split at P
  · rename_i n i
    split at P
    · rename_i xs e
      obtain ⟨hi, P⟩ := post_if P
      split at P
      · rename_i k ek
        split at P
        · rename_i y ey
          obtain ⟨a, rfl, hm, ws, h1, r⟩ := S.obj rx e
          obtain ⟨u, hu, ru⟩ := r.get ey
          obtain ⟨z, rfl, rz⟩ := ry.one
          have hb := rng_ok hi
          exact ⟨a, ws, i, k, u, rfl, by rw [rz.to_int], h1, by omega, by omega, by rw [← r.length]; exact ek, hu, put_list S hm h1 trivial (r.erase k) ru P⟩
        · exact P.elim
      · exact P.elim
    · exact P.elim
  · exact P.elim

/-! ### xs[i] = e, d[k] = e -/
def keyOf : AV → Option Key
  | .int i => some (.inl i)
  | .str x => some (.inr x)
  | _ => none
theorem keyOf_ok {K : PySem.W.Frag} {m : List Addr} {H : Hp} {x : AV} {v : V} {k : Key} (r : RelA K m H x v) (h : keyOf x = some k) : v = kV k := by
  cases x with
  | int i =>
    cases h
    exact r.to_int
  | str i =>
    cases h
    exact r.to_str
  | _ => cases h
theorem keysOf_ok {K : PySem.W.Frag} {m : List Addr} {H : Hp} : ∀ {xs : List AV} {vs : List V} {ks : List Key}, RelAs K m H xs vs → mapO keyOf xs = some ks → vs = ks.map kV
  | [], _, ks, r, h => by
    cases h
    cases r
    rfl
  | x :: xs, _, ks, r, h => by
    obtain ⟨k, es, h1, h2, rfl⟩ := mapO_cons h
    cases r with
    | cons r1 r2 => rw [keyOf_ok r1 h1, keysOf_ok r2 h2]; rfl
def valA {κ : Type} [DecidableEq κ] (kvs : List (κ × AV)) (k : κ) : Option AV := (kvs.find? fun kv => decide (kv.1 = k)).map (·.2)
def putA {κ : Type} [DecidableEq κ] (kvs : List (κ × AV)) (k : κ) (v : AV) : List (κ × AV) :=
  if (kvs.any fun kv => decide (kv.1 = k)) = true then kvs.map (fun kv => if kv.1 = k then (kv.1, v) else kv) else kvs ++ [(k, v)]
theorem valA_cons {κ : Type} [DecidableEq κ] (p : κ × AV) (kvs : List (κ × AV)) (k : κ) : valA (p :: kvs) k = if p.1 = k then some p.2 else valA kvs k := by
  unfold valA
  rw [List.find?_cons]
  by_cases h : p.1 = k
  · simp [h]
  · simp [h]
theorem valA_ok {κ : Type} [DecidableEq κ] {m : List Addr} {H : Hp} (k : κ) : ∀ {kvs : List (κ × AV)} {vs : List (κ × V)}, RelKV cf.K m H kvs vs → (valA kvs k = none → valV vs k = none) ∧ ∀ x, valA kvs k = some x → ∃ v, valV vs k = some v ∧ RelA cf.K m H x v
  | _, _, .nil => ⟨fun _ => rfl, fun x h => by cases h⟩
  | (k1, x) :: kvs, (k2, v) :: vs, .cons r rs => by
    obtain ⟨e, r⟩ := r
    cases (show k1 = k2 from e)
    obtain ⟨h1, h2⟩ := valA_ok k rs
    rw [valA_cons]
    by_cases h : k1 = k
    · rw [valV_pos (p := (k1, v)) h]
      simp only [h, if_true]
      exact ⟨fun z => by simp at z, fun y e => by cases e; exact ⟨v, rfl, r⟩⟩
    · rw [valV_neg (p := (k1, v)) h]
      simp only [h, if_false]
      exact ⟨h1, h2⟩
theorem putMap_ok {κ : Type} [DecidableEq κ] {m : List Addr} {H : Hp} {k : κ} {x : AV} {v : V} (rx : RelA cf.K m H x v) : ∀ {kvs : List (κ × AV)} {vs : List (κ × V)}, RelKV cf.K m H kvs vs →
    RelKV cf.K m H (kvs.map (fun kv => if kv.1 = k then (kv.1, x) else kv)) (vs.map (fun kv => if kv.1 = k then (kv.1, v) else kv))
  | _, _, .nil => .nil
  | a :: _, b :: _, .cons h t => by
    rw [List.map_cons, List.map_cons]
    refine .cons ?_ (putMap_ok rx t)
    have e := h.1
    by_cases hk : a.1 = k
    · rw [if_pos hk, if_pos (e ▸ hk)]
      exact ⟨e, rx⟩
    · rw [if_neg hk, if_neg (e ▸ hk)]
      exact h
theorem putApp_ok {κ : Type} {m : List Addr} {H : Hp} {k : κ} {x : AV} {v : V} (rx : RelA cf.K m H x v) : ∀ {kvs : List (κ × AV)} {vs : List (κ × V)}, RelKV cf.K m H kvs vs → RelKV cf.K m H (kvs ++ [(k, x)]) (vs ++ [(k, v)])
  | _, _, .nil => .cons ⟨rfl, rx⟩ .nil
  | _, _, .cons h t => .cons h (putApp_ok rx t)
theorem anyKey {κ : Type} [DecidableEq κ] {m : List Addr} {H : Hp} {k : κ} : ∀ {kvs : List (κ × AV)} {vs : List (κ × V)}, RelKV cf.K m H kvs vs → (kvs.any fun kv => decide (kv.1 = k)) = (vs.any fun kv => decide (kv.1 = k))
  | _, _, .nil => rfl
  | _, _, .cons h t => by rw [List.any_cons, List.any_cons, anyKey t, h.1]
theorem putA_ok {κ : Type} [DecidableEq κ] {m : List Addr} {H : Hp} {k : κ} {x : AV} {v : V} {kvs : List (κ × AV)} {vs : List (κ × V)} (r : RelKV cf.K m H kvs vs) (rx : RelA cf.K m H x v) : RelKV cf.K m H (putA kvs k x) (putK vs k v) := by
  unfold putA putK
  rw [anyKey r]
  split
  · exact putMap_ok rx r
  · exact putApp_ok rx r
/-- what a dict holds at a key -/
def dGet (A : AH) (x y : AV) : Option (Option AV) := match x with
  | .obj n => match A[n]? with
    | some (.dK kvs) => (keyOf y).map (valA kvs)
    | some (.dT kvs) => match y with
      | .tup ys => (mapO keyOf ys).map (valA kvs)
      | _ => none
    | some (.lk kvs) => match y with
      | .tup ys => (mapO keyOf ys).map (valA kvs)
      | _ => none
    | _ => none
  | _ => none
theorem dGet_ok {m : List Addr} {H : Hp} {A : AH} {x y : AV} {v w : V} {o : Option AV} (S : Sim cf m H A) (rx : RelA cf.K m H x v) (ry : RelA cf.K m H y w) (h : dGet A x y = some o) :
    ∃ a o', v = .ref a ∧ DGet H a w o' ∧ IsD H a ∧ (o = none → o' = none) ∧ ∀ z, o = some z → ∃ u, o' = some u ∧ RelA cf.K m H z u := by
  unfold dGet at h
  split at h
  · rename_i n
    split at h
    · rename_i kvs e
      rw [Option.map_eq_some_iff] at h
      obtain ⟨k, hk, rfl⟩ := h
      obtain ⟨a, rfl, _, vs, h1, r⟩ := S.obj rx e
      rw [keyOf_ok ry hk]
      exact ⟨a, _, rfl, DGet.k h1, .inl ⟨_, .inl h1⟩, (valA_ok k r).1, (valA_ok k r).2⟩
    · rename_i kvs e
      split at h
      · rename_i ys
        rw [Option.map_eq_some_iff] at h
        obtain ⟨k, hk, rfl⟩ := h
        obtain ⟨a, rfl, _, vs, h1, r⟩ := S.obj rx e
        obtain ⟨b, us, rfl, hb, rb⟩ := ry.to_tup
        exact ⟨a, _, rfl, DGet.t h1 (by rw [← keysOf_ok rb hk]; exact hb), .inr ⟨_, .inl h1⟩, (valA_ok k r).1, (valA_ok k r).2⟩
      · cases h
    · rename_i kvs e
      split at h
      · rename_i ys
        rw [Option.map_eq_some_iff] at h
        obtain ⟨k, hk, rfl⟩ := h
        obtain ⟨a, rfl, _, o, vs, h1, r⟩ := S.obj rx e
        obtain ⟨b, us, rfl, hb, rb⟩ := ry.to_tup
        exact ⟨a, _, rfl, .inr ⟨_, _, _, .inr ⟨o, h1⟩, rfl, by rw [← keysOf_ok rb hk]; exact hb, rfl⟩, .inr ⟨_, .inr ⟨o, h1⟩⟩, (valA_ok k r).1, (valA_ok k r).2⟩
      · cases h
    · cases h
  · cases h
/-- d[k] = z -/
def dPut (A : AH) (x y z : AV) : Option AH := match x with
  | .obj n => match A[n]? with
    | some (.dK kvs) => if kvs.length < big then (keyOf y).map fun k => A.set n (.dK (putA kvs k z)) else none
    | some (.dT kvs) => match y with
      | .tup ys => if kvs.length < big then (mapO keyOf ys).map fun k => A.set n (.dT (putA kvs k z)) else none
      | _ => none
    | _ => none
  | _ => none
theorem dPut_ok {m : List Addr} {H : Hp} {A A' : AH} {x y z : AV} {v w u : V} (S : Sim cf m H A) (rx : RelA cf.K m H x v) (ry : RelA cf.K m H y w) (rz : RelA cf.K m H z u) (h : dPut A x y z = some A') :
    ∃ a H', v = .ref a ∧ DPut H a w u H' ∧ Go cf m H m H' A' := by
  unfold dPut at h
  split at h
  · rename_i n
    split at h
    · rename_i kvs e
      split at h
      · rename_i hl
        rw [Option.map_eq_some_iff] at h
        obtain ⟨k, hk, rfl⟩ := h
        obtain ⟨a, rfl, hm, vs, h1, r⟩ := S.obj rx e
        rw [keyOf_ok ry hk]
        refine ⟨a, _, rfl, DPut.k h1 (by rw [← paired_len r]; exact big_lt hl), go_put S hm h1 trivial ⟨_, upd_same, ?_⟩⟩
        exact (putA_ok r rz).mono (Pre.refl m) (fz_main h1 trivial)
      · cases h
    · rename_i kvs e
      split at h
      · rename_i ys
        split at h
        · rename_i hl
          rw [Option.map_eq_some_iff] at h
          obtain ⟨k, hk, rfl⟩ := h
          obtain ⟨a, rfl, hm, vs, h1, r⟩ := S.obj rx e
          obtain ⟨b, us, rfl, hb, rb⟩ := ry.to_tup
          refine ⟨a, _, rfl, DPut.t h1 (by rw [← keysOf_ok rb hk]; exact hb) (by rw [← paired_len r]; exact big_lt hl), go_put S hm h1 trivial ⟨_, upd_same, ?_⟩⟩
          exact (putA_ok r rz).mono (Pre.refl m) (fz_main h1 trivial)
        · cases h
      · cases h
    · cases h
  · cases h
/-- o[i] -/
def gIx : F2 := fun x y A => match dGet A x y with
  | some (some v) => .ok v A
  | _ => gIxS x y A
theorem f2_cases {fa fb : FE} {g : F2} (c : AV → AV → AH → Bool) (ρ : Rho) (A : AH) : (∃ x A1 y A2, fa ρ A = .ok x A1 ∧ fb ρ A1 = .ok y A2 ∧ c x y A2 = true) ∨ ∀ x A1 y A2, fa ρ A = .ok x A1 → fb ρ A1 = .ok y A2 → c x y A2 = false := by
  by_cases h : ∃ x A1 y A2, fa ρ A = .ok x A1 ∧ fb ρ A1 = .ok y A2 ∧ c x y A2 = true
  · exact .inl h
  · refine .inr fun x A1 y A2 h1 h2 => ?_
    cases hc : c x y A2 with
    | false => rfl
    | true => exact (h ⟨x, A1, y, A2, h1, h2, hc⟩).elim
def hasD (x y : AV) (A : AH) : Bool := match dGet A x y with
  | some _ => true
  | none => false
theorem c_ix {o i : Expr} {pos : Pos} {fa fb : FE} (hK : X.K = cf.K) (hu : X.A.units + 1 < cLine) (ha : CE cf X W o fa) (hb : CE cf X W i fb) (hs : PlainIx i := by exact fun _ _ => rfl) (hs2 : NoSl i := by exact fun _ _ => rfl) : CE cf X W (.Subscript o i pos) (f2 gIx fa fb) := by
  obtain ⟨ta, pa, oa⟩ := ha.ex
  obtain ⟨tb, pb, ob⟩ := hb.ex
  refine ⟨_, PE.or (pe_dget hu pa pb hs2) (pe_ix ix_seq pa pb hs), fun ρ σ m H A Q S L P => ?_⟩
  rcases f2_cases (fa := fa) (fb := fb) (g := gIx) (fun x y A => hasD x y A) ρ A with ⟨x0, B1, y0, B2, e1, e2, hc⟩ | hno
  · left
    refine oa.then S L P fun x v m1 H1 A1 ea g1 L1 r1 P1 => ?_
    rw [e1] at ea
    cases ea
    refine ob.then g1.sim L1 P1 fun y w m2 H2 A2 eb g2 L2 r2 P2 => ?_
    rw [e2] at eb
    cases eb
    unfold hasD at hc
    unfold gIx at P2
    cases hd : dGet B2 x0 y0 with
    | none => rw [hd] at hc; cases hc
    | some oz =>
      rw [hd] at P2
      obtain ⟨a, o', rfl, hg, hi, h0, h1⟩ := dGet_ok g2.sim (RelA.mono g2.pre g2.fz r1) r2 hd
      cases oz with
      | some z =>
        obtain ⟨u, rfl, ru⟩ := h1 z rfl
        exact ⟨a, u, rfl, hg, P2 m2 H2 u (Go.refl g2.sim) ru⟩
      | none =>
        exfalso
        simp only at P2
        unfold gIxS at P2
        split at P2
        · split at P2
          · simp [dGet] at hd
          · rename_i hx
            cases x0 with
            | obj n =>
              have e3 : seqAt B2 (.obj n) = none := by
                unfold dGet at hd
                simp only at hd
                unfold seqAt
                simp only
                split
                · rename_i xs e4
                  rw [e4] at hd
                  cases hd
                · rfl
              rw [e3] at P2
              exact P2
            | _ => simp [dGet] at hd
        · exact P2
  · right
    refine oa.then S L P fun x v m1 H1 A1 ea g1 L1 r1 P1 => ?_
    refine ob.then g1.sim L1 P1 fun y w m2 H2 A2 eb g2 L2 r2 P2 => ?_
    have hc := hno x A1 y A2 ea eb
    unfold hasD at hc
    unfold gIx at P2
    cases hd : dGet A2 x y with
    | some oz => rw [hd] at hc; cases hc
    | none =>
      rw [hd] at P2
      rw [hK]
      exact ok_ixS W m2 H2 A2 σ Q x y v w g2.sim (RelA.mono g2.pre g2.fz r1) r2 P2
theorem PT.or {e : Expr} {t u : TT} (h : PT X e t) (k : PT X e u) : PT X e (fun σ H R => t σ H R ∨ u σ H R) := ⟨fun pins s σ H R I q => q.elim (h.run pins s σ H R I) (k.run pins s σ H R I)⟩
/-- k in d -/
def gIn : F2 := fun x y A => match dGet A y x with
  | some o => .ok (.bl o.isSome) A
  | none => match x, y with
    | .str i, .str j => .ok (.bl (!(Builtin.Str.occurrences j i 0 j.length 1).isEmpty)) A
    | _, _ => gInS false x y A
def gNotIn : F2 := fun x y A => match dGet A y x with
  | some o => .ok (.bl (!o.isSome)) A
  | none => match x, y with
    | .str i, .str j => .ok (.bl (!(!(Builtin.Str.occurrences j i 0 j.length 1).isEmpty))) A
    | _, _ => gInS true x y A
theorem isSome_of {m : List Addr} {H : Hp} {o : Option AV} {o' : Option V} (h0 : o = none → o' = none) (h1 : ∀ z, o = some z → ∃ u, o' = some u ∧ RelA cf.K m H z u) : o'.isSome = o.isSome := by
  cases o with
  | none => rw [h0 rfl]; rfl
  | some z =>
    obtain ⟨u, rfl, _⟩ := h1 z rfl
    rfl
abbrev rInAll (K : PySem.W.Frag) (neg : Bool) : R2 := fun x y H Q => (∃ i j, x = .str i ∧ y = .str j ∧ Q (.bl (if neg = true then !(!(Builtin.Str.occurrences j i 0 j.length 1).isEmpty) else !(Builtin.Str.occurrences j i 0 j.length 1).isEmpty)) H) ∨ rIn K neg x y H Q
theorem pe_dIn (hu : X.A.units + 1 < cLine) {i o : Expr} {ty td : TE} {pos : Pos} (hi : PE X i ty) (ho : PE X o td) (hm : behindInMarks .In o = false) : PE X (.Compare i [.In] [o] pos) (tDIn ty td) := pe_cmp (pc_din hu hi ho) hm
theorem pe_dNotIn (hu : X.A.units + 1 < cLine) {i o : Expr} {ty td : TE} {pos : Pos} (hi : PE X i ty) (ho : PE X o td) (hm : behindInMarks .NotIn o = false) : PE X (.Compare i [.NotIn] [o] pos) (tDNotIn ty td) := pe_cmp (pc_dnotin hu hi ho) hm
theorem ok_c_inA {ta tb : TE} {fa fb : FE} (oa : EOk cf W ta fa) (ob : EOk cf W tb fb) : EOk cf W (fun σ H Q => tDIn ta tb σ H Q ∨ tOp (rInAll cf.K false) ta tb σ H Q) (f2 gIn fa fb) := fun ρ σ m H A Q S L P => by
  rcases f2_cases (fa := fa) (fb := fb) (g := gIn) (fun x y A => hasD y x A) ρ A with ⟨x0, B1, y0, B2, e1, e2, hc⟩ | hno
  · left
    refine oa.then S L P fun x v m1 H1 A1 ea g1 L1 r1 P1 => ?_
    rw [e1] at ea
    cases ea
    refine ob.then g1.sim L1 P1 fun y w m2 H2 A2 eb g2 L2 r2 P2 => ?_
    rw [e2] at eb
    cases eb
    unfold hasD at hc
    unfold gIn at P2
    cases hd : dGet B2 y0 x0 with
    | none => rw [hd] at hc; cases hc
    | some oz =>
      rw [hd] at P2
      obtain ⟨a, o', rfl, hg, hi, h0, h1⟩ := dGet_ok g2.sim r2 (RelA.mono g2.pre g2.fz r1) hd
      refine ⟨a, o', rfl, hg, ?_⟩
      rw [isSome_of h0 h1]
      exact P2 m2 H2 _ (Go.refl g2.sim) (.bl _)
  · right
    refine oa.then S L P fun x v m1 H1 A1 ea g1 L1 r1 P1 => ?_
    refine ob.then g1.sim L1 P1 fun y w m2 H2 A2 eb g2 L2 r2 P2 => ?_
    have hc := hno x A1 y A2 ea eb
    unfold hasD at hc
    unfold gIn at P2
    cases hd : dGet A2 y x with
    | some oz => rw [hd] at hc; cases hc
    | none =>
      rw [hd] at P2
      simp only at P2
      split at P2
      · rename_i i j
        exact .inl ⟨i, j, (RelA.mono g2.pre g2.fz r1).to_str, r2.to_str, P2 m2 H2 _ (Go.refl g2.sim) (.bl _)⟩
      · skip
        exact .inr (ok_inS false W m2 H2 A2 σ Q x y v w g2.sim (RelA.mono g2.pre g2.fz r1) r2 P2)
theorem c_in {i o : Expr} {pos : Pos} {fa fb : FE} (hK : X.K = cf.K) (hu : X.A.units + 1 < cLine) (ha : CE cf X W i fa) (hb : CE cf X W o fb) (hm : behindInMarks .In o = false := by rfl) : CE cf X W (.Compare i [.In] [o] pos) (f2 gIn fa fb) := by
  obtain ⟨ta, pa, oa⟩ := ha.ex
  obtain ⟨tb, pb, ob⟩ := hb.ex
  refine ⟨_, PE.or (pe_dIn hu pa pb hm) (pe_cmpR (op_in_str.or op_in_seq) pa pb hm), ?_⟩
  have h := ok_c_inA (W := W) oa ob
  rw [← hK] at h
  exact h
theorem ct_in {i o : Expr} {pos : Pos} {fa fb : FE} (hK : X.K = cf.K) (hu : X.A.units + 1 < cLine) (ha : CE cf X W i fa) (hb : CE cf X W o fb) (hm : behindInMarks .In o = false := by rfl) : CT cf X W (.Compare i [.In] [o] pos) (fB (f2 gIn fa fb)) := by
  obtain ⟨ta, pa, oa⟩ := ha.ex
  obtain ⟨tb, pb, ob⟩ := hb.ex
  refine ⟨_, PT.or (pt_cmp (pc_din hu pa pb) hm) (pt_cmpR (op_in_str.or op_in_seq) pa pb hm), ?_⟩
  have h := ok_test (ok_c_inA (W := W) oa ob)
  rw [← hK] at h
  exact h
theorem ok_c_notInA {ta tb : TE} {fa fb : FE} (oa : EOk cf W ta fa) (ob : EOk cf W tb fb) : EOk cf W (fun σ H Q => tDNotIn ta tb σ H Q ∨ tOp (rInAll cf.K true) ta tb σ H Q) (f2 gNotIn fa fb) := fun ρ σ m H A Q S L P => by
  rcases f2_cases (fa := fa) (fb := fb) (g := gNotIn) (fun x y A => hasD y x A) ρ A with ⟨x0, B1, y0, B2, e1, e2, hc⟩ | hno
  · left
    refine oa.then S L P fun x v m1 H1 A1 ea g1 L1 r1 P1 => ?_
    rw [e1] at ea
    cases ea
    refine ob.then g1.sim L1 P1 fun y w m2 H2 A2 eb g2 L2 r2 P2 => ?_
    rw [e2] at eb
    cases eb
    unfold hasD at hc
    unfold gNotIn at P2
    cases hd : dGet B2 y0 x0 with
    | none => rw [hd] at hc; cases hc
    | some oz =>
      rw [hd] at P2
      obtain ⟨a, o', rfl, hg, hi, h0, h1⟩ := dGet_ok g2.sim r2 (RelA.mono g2.pre g2.fz r1) hd
      refine ⟨a, o', rfl, hg, ?_⟩
      rw [isSome_of h0 h1]
      exact P2 m2 H2 _ (Go.refl g2.sim) (.bl _)
  · right
    refine oa.then S L P fun x v m1 H1 A1 ea g1 L1 r1 P1 => ?_
    refine ob.then g1.sim L1 P1 fun y w m2 H2 A2 eb g2 L2 r2 P2 => ?_
    have hc := hno x A1 y A2 ea eb
    unfold hasD at hc
    unfold gNotIn at P2
    cases hd : dGet A2 y x with
    | some oz => rw [hd] at hc; cases hc
    | none =>
      rw [hd] at P2
      simp only at P2
      split at P2
      · rename_i i j
        exact .inl ⟨i, j, (RelA.mono g2.pre g2.fz r1).to_str, r2.to_str, P2 m2 H2 _ (Go.refl g2.sim) (.bl _)⟩
      · skip
        exact .inr (ok_inS true W m2 H2 A2 σ Q x y v w g2.sim (RelA.mono g2.pre g2.fz r1) r2 P2)
theorem c_notIn {i o : Expr} {pos : Pos} {fa fb : FE} (hK : X.K = cf.K) (hu : X.A.units + 1 < cLine) (ha : CE cf X W i fa) (hb : CE cf X W o fb) (hm : behindInMarks .NotIn o = false := by rfl) : CE cf X W (.Compare i [.NotIn] [o] pos) (f2 gNotIn fa fb) := by
  obtain ⟨ta, pa, oa⟩ := ha.ex
  obtain ⟨tb, pb, ob⟩ := hb.ex
  refine ⟨_, PE.or (pe_dNotIn hu pa pb hm) (pe_cmpR (L2.op_notin_str.or op_notIn_seq) pa pb hm), ?_⟩
  have h := ok_c_notInA (W := W) oa ob
  rw [← hK] at h
  exact h
theorem ct_notIn {i o : Expr} {pos : Pos} {fa fb : FE} (hK : X.K = cf.K) (hu : X.A.units + 1 < cLine) (ha : CE cf X W i fa) (hb : CE cf X W o fb) (hm : behindInMarks .NotIn o = false := by rfl) : CT cf X W (.Compare i [.NotIn] [o] pos) (fB (f2 gNotIn fa fb)) := by
  obtain ⟨ta, pa, oa⟩ := ha.ex
  obtain ⟨tb, pb, ob⟩ := hb.ex
  refine ⟨_, PT.or (pt_cmp (pc_dnotin hu pa pb) hm) (pt_cmpR (L2.op_notin_str.or op_notIn_seq) pa pb hm), ?_⟩
  have h := ok_test (ok_c_notInA (W := W) oa ob)
  rw [← hK] at h
  exact h
/-- o[i] = e: a dict's, else a list's -/
def setL (A : AH) (x y z : AV) : Option AH := match x, y with
  | .obj n, .int i => match A[n]? with
    | some (.lst xs) => (ixN xs.length i).map fun j => A.set n (.lst (xs.set j z))
    | _ => none
  | _, _ => none
def fSub (fv fo fi : FE) : FS := fun ρ A => (fv ρ A).s ρ fun z A => (fo ρ A).s ρ fun x A => (fi ρ A).s ρ fun y A => match dPut A x y z with
  | some A' => .nx ρ A'
  | none => match setL A x y z with
    | some A' => .nx ρ A'
    | none => .er
theorem cs_sub {o i e : Expr} {pos pos' : Pos} {fv fo fi : FE} (hK : X.K = cf.K) (hu : X.A.units + 1 < cLine) (he : CE cf X W e fv) (ho : CE cf X W o fo) (hi : CE cf X W i fi) (hs : swapsWith e (some (.Subscript o i pos')) pos.line X.env = pure false := by rfl)
    (hs2 : swapsWithSole [.Subscript o i pos'] e pos.line X.env = pure false := by rfl) (hw : swappedStores [.Subscript o i pos'] e X.env = pure none := by rfl) (h1 : (assignEach [.Subscript o i pos'] X.env).map (·.2) = [assign (.Subscript o i pos') X.env] := by rfl)
    (ha : ∀ v, assign (.Subscript o i pos') X.env v = (do
      let ov ← holding [v] (eval o X.env)
      let iv ← holding [v, ov] (eval i X.env)
      standAt pos'
      holding [v, ov, iv] (setItem ov iv v)
      release [v, ov, iv] []) := by intro _; rfl) :
    CS cf X W (.Assign [.Subscript o i pos'] e pos) (fSub fv fo fi) := by
  obtain ⟨tv, pv, ov⟩ := he.ex
  obtain ⟨to, po, oo⟩ := ho.ex
  obtain ⟨ti, pi, oi⟩ := hi.ex
  refine ⟨_, PS.or (ps_dput hu po pi pv hs) (ps_asg pv (pg_sub po pi set_list ha) hs2 hw h1), fun ρ σ m H A D S L P => ?_⟩
  by_cases hd : ∃ z A1 x A2 y A3 A4, fv ρ A = .ok z A1 ∧ fo ρ A1 = .ok x A2 ∧ fi ρ A2 = .ok y A3 ∧ dPut A3 x y z = some A4
  · left
    obtain ⟨z0, B1, x0, B2, y0, B3, B4, e1, e2, e3, e4⟩ := hd
    refine ov.thenS S L P fun z u m1 H1 A1 ez g1 L1 rz P1 => ?_
    rw [e1] at ez
    cases ez
    refine oo.thenS g1.sim L1 P1 fun x v m2 H2 A2 ex g2 L2 rx P2 => ?_
    rw [e2] at ex
    cases ex
    refine oi.thenS g2.sim L2 P2 fun y w m3 H3 A3 ey g3 L3 ry P3 => ?_
    rw [e3] at ey
    cases ey
    rw [e4] at P3
    obtain ⟨a, H', rfl, hp, g4⟩ := dPut_ok g3.sim (RelA.mono g3.pre g3.fz rx) ry (RelA.mono (g2.trans g3).pre (g2.trans g3).fz rz) e4
    exact ⟨a, H', rfl, hp, P3 m3 H' σ g4 (L3.mono g4.pre g4.fz)⟩
  · right
    refine ov.thenS S L P fun z u m1 H1 A1 ez g1 L1 rz P1 => ?_
    refine oo.thenS g1.sim L1 P1 fun x v m2 H2 A2 ex g2 L2 rx P2 => ?_
    refine oi.thenS g2.sim L2 P2 fun y w m3 H3 A3 ey g3 L3 ry P3 => ?_
    cases e4 : dPut A3 x y z with
    | some A4 => exact (hd ⟨z, A1, x, A2, y, A3, A4, ez, ex, ey, e4⟩).elim
    | none =>
      rw [e4] at P3
      simp only at P3
      split at P3
      · rename_i A4 e5
        unfold setL at e5
        split at e5
        · rename_i n i
          split at e5
          · rename_i xs e6
            rw [Option.map_eq_some_iff] at e5
            obtain ⟨j, hj, rfl⟩ := e5
            obtain ⟨a, rfl, hm, vs, h1, r⟩ := g3.sim.obj (RelA.mono g3.pre g3.fz rx) e6
            have rz3 : RelA cf.K m3 H3 z u := RelA.mono (g2.trans g3).pre (g2.trans g3).fz rz
            have g4 : Go cf m3 H3 m3 (upd H3 a (.lst (vs.set j u))) (A3.set n (.lst (xs.set j z))) := go_put g3.sim hm h1 trivial ⟨_, upd_same, (RelAs.set rz3 j r).mono (Pre.refl m3) (fz_main h1 trivial)⟩
            exact ⟨a, vs, i, j, rfl, ry.to_int, h1, by rw [← r.length]; exact hj, P3 m3 _ σ g4 (L3.mono g4.pre g4.fz)⟩
          · cases e5
        · cases e5
      · exact P3.elim
/-! ### {}, {k: v, ..} -/
def fDK : FE := fun _ A => .ok (.obj A.length) (A ++ [.dK []])
def fDT : FE := fun _ A => .ok (.obj A.length) (A ++ [.dT []])
theorem c_dK {pos : Pos} : CE cf X W (.Dict [] [] pos) fDK := ⟨_, pe_dnewK, fun ρ σ m H A Q S L P p hp => P _ _ _ (go_new S hp ⟨[], upd_same, .nil⟩) (rel_new S)⟩
theorem c_dT {pos : Pos} : CE cf X W (.Dict [] [] pos) fDT := ⟨_, pe_dnewT, fun ρ σ m H A Q S L P p hp => P _ _ _ (go_new S hp ⟨[], upd_same, .nil⟩) (rel_new S)⟩
abbrev FP := Rho → AH → Res (List (AV × AV))
def fpNil : FP := fun _ A => .ok [] A
def fpCons (k v : FE) (f : FP) : FP := fun ρ A => (k ρ A).bind fun x A => (v ρ A).bind fun y A => (f ρ A).bind fun ps A => .ok ((x, y) :: ps) A
def RelPs (K : PySem.W.Frag) (m : List Addr) (H : Hp) : List (AV × AV) → List (V × V) → Prop := Paired fun p q => RelA K m H p.1 q.1 ∧ RelA K m H p.2 q.2
structure CP (cf : Cfg) (X : Cx) (W : WX) (pos : Pos) (keys : List (Option Expr)) (values : List Expr) (f : FP) : Prop where
  ex : ∃ trs, PPs X pos keys values trs ∧ Ok cf W (fun m H => RelPs cf.K m H) (tPairs trs) f
theorem cp_nil {pos : Pos} : CP cf X W pos [] [] fpNil := ⟨_, pps_nil, fun ρ σ m H A Q S L P => P m H [] (Go.refl S) .nil⟩
theorem cp_cons {pos : Pos} {k v : Expr} {ks : List (Option Expr)} {vs : List Expr} {fk fv : FE} {f : FP} (hk : CE cf X W k fk) (hv : CE cf X W v fv) (hr : CP cf X W pos ks vs f) : CP cf X W pos (some k :: ks) (v :: vs) (fpCons fk fv f) := by
  obtain ⟨tk, pk, ok⟩ := hk.ex
  obtain ⟨tv, pv, ov⟩ := hv.ex
  obtain ⟨tr, pr, or'⟩ := hr.ex
  refine ⟨_, pps_cons pk pv pr, fun ρ σ m H A Q S L P => ?_⟩
  refine ok.then S L P fun x v m1 H1 A1 _ g1 L1 r1 P1 => ?_
  refine ov.then g1.sim L1 P1 fun y w m2 H2 A2 _ g2 L2 r2 P2 => ?_
  refine or'.then g2.sim L2 P2 fun ps qs m3 H3 A3 _ g3 L3 r3 P3 => ?_
  exact P3 m3 H3 _ (Go.refl g3.sim) (.cons ⟨RelA.mono (g2.trans g3).pre (g2.trans g3).fz r1, RelA.mono g3.pre g3.fz r2⟩ r3)
def keysA : List (AV × AV) → Option (List (Key × AV))
  | [] => some []
  | (x, y) :: ps => match keyOf x, keysA ps with
    | some k, some r => some ((k, y) :: r)
    | _, _ => none
def mergeA (kvs more : List (Key × AV)) : List (Key × AV) := more.foldl (fun acc kv => putA acc kv.1 kv.2) kvs
theorem keysA_ok {m : List Addr} {H : Hp} : ∀ {ps : List (AV × AV)} {qs : List (V × V)} {kvs : List (Key × AV)}, RelPs cf.K m H ps qs → keysA ps = some kvs → ∃ ws : List (Key × V), qs = ws.map (fun kv => (kV kv.1, kv.2)) ∧ RelKV cf.K m H kvs ws ∧ ws.length = ps.length
  | [], _, kvs, r, h => by
    cases h
    cases r
    exact ⟨[], rfl, .nil, rfl⟩
  | (x, y) :: ps, _, kvs, r, h => by
    unfold keysA at h
    split at h
    · rename_i k r' h1 h2
      cases h
      cases r with
      | cons r1 r2 =>
        rename_i q qs
        obtain ⟨ws, rfl, r3, hl⟩ := keysA_ok r2 h2
        obtain ⟨q1, q2⟩ := q
        have e : q1 = kV k := keyOf_ok r1.1 h1
        subst e
        exact ⟨(k, q2) :: ws, rfl, .cons ⟨rfl, r1.2⟩ r3, by rw [List.length_cons, List.length_cons, hl]⟩
    · cases h
theorem mergeA_ok {m : List Addr} {H : Hp} : ∀ {more : List (Key × AV)} {more' : List (Key × V)} {kvs : List (Key × AV)} {vs : List (Key × V)}, RelKV cf.K m H more more' → RelKV cf.K m H kvs vs → RelKV cf.K m H (mergeA kvs more) (mergeK vs more')
  | _, _, _, _, .nil, r => r
  | (k, x) :: more, (k', v) :: more', _, _, .cons h t, r => by
    obtain ⟨e, h⟩ := h
    cases (show k = k' from e)
    show RelKV cf.K m H (mergeA (putA _ k x) more) (mergeK (putK _ k v) more')
    exact mergeA_ok t (putA_ok r h)
/-- {k: v, ..}, its parts read while the dict stands empty at its new place -/
def fDisp (f : FP) : FE := fun ρ A => (f ρ (A ++ [.dK []])).bind fun ps B => match keysA ps, B[A.length]? with
  | some kvs, some (.dK []) => if ps.length ≤ 15 then .ok (.obj A.length) (B.set A.length (.dK (mergeA [] kvs))) else .er
  | _, _ => .er
theorem c_disp {pos : Pos} {keys : List (Option Expr)} {values : List Expr} {f : FP} (h : CP cf X W pos keys values f) (hall : keys.all (·.isSome) = true := by rfl) (hl : keys.length = values.length := by rfl) (h0 : keys ≠ [] := by exact fun z => nomatch z) (h15 : keys.length ≤ 15 := by decide) :
    CE cf X W (.Dict keys values pos) (fDisp f) := by
  obtain ⟨trs, p, o⟩ := h.ex
  refine ⟨_, pe_disp p hall hl h0 h15, fun ρ σ m H A Q S L P p hp => ?_⟩
  have gN : Go cf m H (m ++ [p]) (upd H p (.dK [])) (A ++ [.dK []]) := go_new S hp ⟨[], upd_same, .nil⟩
  have hk : (m ++ [p])[A.length]? = some p := by
    rw [← S.len, List.getElem?_append_right (Nat.le_refl _)]
    simp
  refine o.then gN.sim (L.mono gN.pre gN.fz) (Post.mono gN P) fun ps qs m1 H1 A1 _ g1 L1 r1 P1 => ?_
  split at P1
  · rename_i kvs e1 e2
    obtain ⟨h15, P1⟩ := post_if P1
    obtain ⟨ws, rfl, rw', hlw⟩ := keysA_ok r1 e1
    have hk1 := g1.pre _ _ hk
    obtain ⟨vs, h1, r2⟩ := g1.sim.at_ _ _ _ hk1 e2
    cases r2
    refine ⟨h1, ws, rfl, by omega, P1 m1 _ _ (go_put g1.sim hk1 h1 trivial ⟨_, upd_same, ?_⟩) (.obj hk1)⟩
    exact (mergeA_ok rw' .nil).mono (Pre.refl m1) (fz_main h1 trivial)
  · exact P1.elim
end
end Dn

set_option maxRecDepth 100000
set_option maxHeartbeats 1000000
/-! Dn, part G: objects, isinstance, enumerate, sums and sorts. -/
namespace Dn
open PySem L2 PyProof.Rows

section
variable {cf : Cfg} {X : Cx} {W : WX}
/-! ### fields: tbl tells by class where a field stands -/
abbrev Tbl := List (Nat × Nat)
def tblAt (t : Tbl) (c : Nat) : Option Nat := (t.find? fun p => p.1 == c).map (·.2)
theorem tblAt_mem {t : Tbl} {c i : Nat} (h : tblAt t c = some i) : (c, i) ∈ t := by
  unfold tblAt at h
  rw [Option.map_eq_some_iff] at h
  obtain ⟨p, h1, rfl⟩ := h
  have h2 := List.find?_some h1
  have h3 := List.mem_of_find?_eq_some h1
  obtain ⟨a, b⟩ := p
  have e : a = c := by simpa using h2
  subst e
  exact h3
/-- a class whose objects have dicts -/
structure InsF (cf : Cfg) (f : Str) (c i : Nat) : Prop where
  cl : Cls cf.K (cf.cls c)
  no : NoAttr cf.K (cf.cls c) f
  nd : (cf.nam c).Nodup
  at_ : (cf.nam c)[i]? = some f
  few : (cf.nam c).length < 1000
/-- a class with slots -/
structure SltF (cf : Cfg) (f : Str) (c i : Nat) : Prop where
  cl : SlX.SCls cf.K (cf.cls c)
  sl : ∃ p, SlX.Slot1 cf.K (cf.cls c) f p i
def fFld (ti ts : Tbl) (fe : FE) : FE := fun ρ A => (fe ρ A).bind fun x A => match x with
  | .obj n => match A[n]? with
    | some (.ins c fs) => match tblAt ti c with
      | some i => match fs[i]? with
        | some v => .ok v A
        | none => .er
      | none => .er
    | some (.slt c fs) => match tblAt ts c with
      | some i => match fs[i]? with
        | some (some v) => .ok v A
        | _ => .er
      | none => .er
    | _ => .er
  | _ => .er
theorem lookup_zip {f : Str} : ∀ {ns : List Str} {vs : List V} {i : Nat} {v : V}, ns.Nodup → ns[i]? = some f → vs[i]? = some v → (ns.zip vs).lookup f = some v
  | [], _, _, _, _, h, _ => by simp at h
  | _ :: _, [], _, _, _, _, h => by simp at h
  | n :: ns, w :: vs, 0, v, nd, h1, h2 => by
    simp at h1 h2
    subst h1 h2
    simp
  | n :: ns, w :: vs, i + 1, v, nd, h1, h2 => by
    have h1' : ns[i]? = some f := by simpa using h1
    have h2' : vs[i]? = some v := by simpa using h2
    have hne : f ≠ n := fun e => (List.nodup_cons.mp nd).1 (e ▸ List.mem_of_getElem? h1')
    have hb : (f == n) = false := beq_eq_false_iff_ne.mpr hne
    simp only [List.zip_cons_cons, List.lookup, hb]
    exact lookup_zip (List.nodup_cons.mp nd).2 h1' h2'
theorem RelOs.get {m : List Addr} {H : Hp} : ∀ {xs : List (Option AV)} {vs : List (Option V)} {i : Nat} {x : AV}, RelOs cf.K m H xs vs → xs[i]? = some (some x) → ∃ v, vs[i]? = some (some v) ∧ RelA cf.K m H x v
  | _, _, _, _, .nil, e => by simp at e
  | _, v :: _, 0, x, .cons r _, e => by
    simp at e
    subst e
    cases v with
    | none => exact r.elim
    | some v => exact ⟨v, rfl, r⟩
  | _, _, i + 1, x, .cons _ t, e => by
    obtain ⟨u, h1, h2⟩ := RelOs.get (i := i) (x := x) t (by simpa using e)
    exact ⟨u, by simpa using h1, h2⟩
theorem slt_of {m : List Addr} {H : Hp} {a C dx : Addr} {vs : List (Option V)} (h : (H a = some (.ins C dx []) ∧ vs = [] ∧ H dx = some (.own a)) ∨ (H a = some (SlX.SlO a C dx vs) ∧ H dx = some (.xd []))) : SlX.Slt H a C dx vs := by
  rcases h with ⟨h1, h2, _⟩ | h
  · exact .inl ⟨h1, h2⟩
  · exact .inr h
def isSlt (A : AH) : AV → Bool
  | .obj n => match A[n]? with
    | some (.slt _ _) => true
    | _ => false
  | _ => false
theorem c_fld {e : Expr} {f : Str} {pos : Pos} {fe : FE} (ti ts : Tbl) (hK : X.K = cf.K) (h1 : ∀ p ∈ ti, InsF cf f p.1 p.2) (h2 : ∀ p ∈ ts, SltF cf f p.1 p.2) (he : CE cf X W e fe) (hb : attributeBase e f X.env (eval e X.env) = eval e X.env := by rfl) :
    CE cf X W (.Attribute e f pos) (fFld ti ts fe) := by
  obtain ⟨t, p, o⟩ := he.ex
  refine ⟨_, PE.or (SlX.pe_sl p hb) (pe_fld p hb), fun ρ σ m H A Q S L P => ?_⟩
  by_cases hs : ∃ x A1, fe ρ A = .ok x A1 ∧ isSlt A1 x = true
  · left
    obtain ⟨x0, B1, e0, hs⟩ := hs
    refine o.then S L P fun x v m1 H1 A1 ea g1 L1 r1 P1 => ?_
    rw [e0] at ea
    cases ea
    split at P1
    · rename_i n
      split at P1
      · rename_i c fs e1
        simp only [isSlt, e1] at hs
        cases hs
      · rename_i c fs e1
        split at P1
        · rename_i i ei
          split at P1
          · rename_i u eu
            obtain ⟨a, rfl, hm, dx, vs, ne, hq, r⟩ := g1.sim.obj r1 e1
            obtain ⟨w, hw, rw'⟩ := RelOs.get r eu
            obtain ⟨F1, q, F2⟩ := h2 _ (tblAt_mem ei)
            rw [hK]
            exact ⟨a, _, dx, q, vs, i, w, rfl, slt_of (m := m1) hq, F1, F2, hw, P1 m1 H1 w (Go.refl g1.sim) rw'⟩
          · exact P1.elim
        · exact P1.elim
      · exact P1.elim
    · exact P1.elim
  · right
    refine o.then S L P fun x v m1 H1 A1 ea g1 L1 r1 P1 => ?_
    split at P1
    · rename_i n
      split at P1
      · rename_i c fs e1
        split at P1
        · rename_i i ei
          split at P1
          · rename_i u eu
            obtain ⟨a, rfl, hm, dx, vs, h3, hl, r⟩ := g1.sim.obj r1 e1
            obtain ⟨w, hw, rw'⟩ := r.get eu
            have F := h1 _ (tblAt_mem ei)
            rw [hK]
            exact ⟨a, _, dx, _, w, rfl, h3, F.cl, F.no, lookup_zip F.nd F.at_ hw, P1 m1 H1 w (Go.refl g1.sim) rw'⟩
          · exact P1.elim
        · exact P1.elim
      · rename_i c fs e1
        exact (hs ⟨_, A1, ea, by simp only [isSlt, e1]⟩).elim
      · exact P1.elim
    · exact P1.elim
/-! storing -/
def putI (i : Nat) (v : AV) (fs : List AV) : Option (List AV) := if i < fs.length then some (fs.set i v) else if i = fs.length then some (fs ++ [v]) else none
def putO (i : Nat) (v : AV) (fs : List (Option AV)) : List (Option AV) := (fs ++ List.replicate (i + 1 - fs.length) none).set i (some v)
def setF (ti ts : Tbl) (A : AH) (x y : AV) : Option AH := match x with
  | .obj n => match A[n]? with
    | some (.ins c fs) => match tblAt ti c with
      | some i => (putI i y fs).map fun fs' => A.set n (.ins c fs')
      | none => none
    | some (.slt c fs) => match tblAt ts c with
      | some i => some (A.set n (.slt c (putO i y fs)))
      | none => none
    | _ => none
  | _ => none
theorem putF_zip {f : Str} {v : V} : ∀ {ns : List Str} {vs : List V} {i : Nat}, ns.Nodup → ns[i]? = some f → i < vs.length → vs.length ≤ ns.length → putF f v (ns.zip vs) = ns.zip (vs.set i v)
  | [], _, _, _, h, _, _ => by simp at h
  | _ :: _, [], _, _, _, h, _ => by simp at h
  | n :: ns, w :: vs, 0, nd, h1, h2, h3 => by
    simp at h1
    subst h1
    show (if n = n then (n, v) :: ns.zip vs else (n, w) :: putF n v (ns.zip vs)) = _
    rw [if_pos rfl]
    rfl
  | n :: ns, w :: vs, i + 1, nd, h1, h2, h3 => by
    have h1' : ns[i]? = some f := by simpa using h1
    have hne : ¬ n = f := fun e => (List.nodup_cons.mp nd).1 (e ▸ List.mem_of_getElem? h1')
    show (if n = f then (n, v) :: ns.zip vs else (n, w) :: putF f v (ns.zip vs)) = _
    rw [if_neg hne, putF_zip (List.nodup_cons.mp nd).2 h1' (by simpa using h2) (by simpa using h3)]
    rfl
theorem putF_zip' {f : Str} {v : V} : ∀ {ns : List Str} {vs : List V}, ns.Nodup → ns[vs.length]? = some f → putF f v (ns.zip vs) = ns.zip (vs ++ [v])
  | [], _, _, h => by simp at h
  | n :: ns, [], nd, h => by
    simp at h
    subst h
    show [(n, v)] = _
    cases ns <;> rfl
  | n :: ns, w :: vs, nd, h => by
    have h1' : ns[vs.length]? = some f := by simpa using h
    have hne : ¬ n = f := fun e => (List.nodup_cons.mp nd).1 (e ▸ List.mem_of_getElem? h1')
    show (if n = f then (n, v) :: ns.zip vs else (n, w) :: putF f v (ns.zip vs)) = _
    rw [if_neg hne, putF_zip' (List.nodup_cons.mp nd).2 h1']
    rfl
theorem RelOs.len {m : List Addr} {H : Hp} {xs : List (Option AV)} {vs : List (Option V)} (r : RelOs cf.K m H xs vs) : xs.length = vs.length := Paired.length r
theorem RelOs.app {m : List Addr} {H : Hp} : ∀ {xs ys : List (Option AV)} {vs ws : List (Option V)}, RelOs cf.K m H xs vs → RelOs cf.K m H ys ws → RelOs cf.K m H (xs ++ ys) (vs ++ ws)
  | _, _, _, _, .nil, s => s
  | _, _, _, _, .cons r t, s => .cons r (RelOs.app t s)
theorem RelOs.set {m : List Addr} {H : Hp} {x : Option AV} {v : Option V} (r : RelOA cf.K m H x v) : ∀ {xs : List (Option AV)} {vs : List (Option V)} (i : Nat), RelOs cf.K m H xs vs → RelOs cf.K m H (xs.set i x) (vs.set i v)
  | _, _, _, .nil => .nil
  | _, _, 0, .cons _ t => .cons r t
  | _, _, i + 1, .cons q t => .cons q (RelOs.set r i t)
theorem RelOs.nones {m : List Addr} {H : Hp} : ∀ n : Nat, RelOs cf.K m H (List.replicate n none) (List.replicate n none)
  | 0 => .nil
  | n + 1 => .cons trivial (RelOs.nones n)
theorem tabs_slt {T : List (Addr × Str)} {H : Hp} {a C dx : Addr} {u : HO} {vs : List (Option V)} (t : LamX.Tabs T H) (h : H a = some u) (hm : Mn u) (hd : H dx = some (.own a) ∨ H dx = some (.xd [])) : LamX.Tabs T (SlX.slH H a C dx vs) := fun p hp => by
  obtain ⟨ps, h1, h2, h3⟩ := t p hp
  have n1 : p.1 ≠ a := ne_of h1 h (fun z => by rw [← z] at hm; exact hm)
  have n2 : p.1 ≠ dx := fun z => by
    subst z
    rcases hd with q | q <;> (rw [h1] at q; cases q)
  refine ⟨ps, by rw [SlX.slH_ne n1 n2]; exact h1, h2, fun pos cv hc => ?_⟩
  obtain ⟨c, e1, e2⟩ := h3 pos cv hc
  have n3 : c ≠ a := ne_of e2 h (fun z => by rw [← z] at hm; exact hm c p.2 rfl)
  have n4 : c ≠ dx := fun z => by
    subst z
    unfold LamX.CodeO at e2
    rcases hd with q | q <;> (rw [e2] at q; cases q)
  exact ⟨c, e1, by rw [SlX.slH_ne n3 n4]; exact e2⟩
theorem put_slt {m : List Addr} {H : Hp} {A : AH} {n : Nat} {a C dx : Addr} {c : Nat} {fs' : List (Option AV)} {vs vs' : List (Option V)} (S : Sim cf m H A) (hm : m[n]? = some a) (hC : C = cf.cls c) (ne : dx ≠ a)
    (hq : (H a = some (.ins C dx []) ∧ vs = [] ∧ H dx = some (.own a)) ∨ (H a = some (SlX.SlO a C dx vs) ∧ H dx = some (.xd []))) (r : RelOs cf.K m H fs' vs') : Go cf m H m (SlX.slH H a C dx vs') (A.set n (.slt c fs')) := by
  subst hC
  have hdx : H dx = some (.own a) ∨ H dx = some (.xd []) := hq.elim (fun h => .inl h.2.2) fun h => .inr h.2
  obtain ⟨u, hu, mu⟩ : ∃ u, H a = some u ∧ Mn u := by
    rcases hq with ⟨q, _⟩ | ⟨q, _⟩
    · exact ⟨_, q, trivial⟩
    · exact ⟨_, q, slO_mn⟩
  have fz : Fz H (SlX.slH H a (cf.cls c) dx vs') := by
    refine ⟨fun b xs e => ?_, fun b o w e => ?_⟩
    · rw [SlX.slH_ne (ne_of e hu (fun z => by subst z; exact mu)) (fun z => by subst z; rcases hdx with q | q <;> (rw [e] at q; cases q))]
      exact e
    · rw [SlX.slH_ne (ne_of e hu (fun z => by subst z; exact mu)) (fun z => by subst z; rcases hdx with q | q <;> (rw [e] at q; cases q))]
      exact e
  refine ⟨Pre.refl m, fz, by rw [List.length_set, S.len], S.nd, fun k b q hk hA => ?_, tabs_slt S.tab hu mu hdx⟩
  by_cases e : k = n
  · subst e
    rw [hm] at hk
    cases hk
    have hl : k < A.length := by
      rw [← S.len]
      exact (List.getElem?_eq_some_iff.mp hm).1
    rw [List.getElem?_set_self hl] at hA
    cases hA
    refine ⟨dx, vs', ne, .inr ⟨upd_same, ?_⟩, r.mono (Pre.refl m) fz⟩
    unfold SlX.slH
    rw [upd_ne ne, upd_same]
  · rw [List.getElem?_set_ne (Ne.symm e)] at hA
    have hb : b ≠ a := fun z => by
      subst z
      exact e (nd_ix S.nd hk hm)
    obtain ⟨ub, hub, mub⟩ := S.main hk
    have hbd : b ≠ dx := fun z => by
      subst z
      rcases hdx with q | q <;> (rw [hub] at q; cases q; exact mub)
    refine (S.at_ k b q hk hA).stay (Pre.refl m) fz (fun u e => by rw [SlX.slH_ne hb hbd]; exact e) fun d w ed hw => ?_
    by_cases hda : d = a
    · subst hda
      rw [hu] at ed
      cases ed
      rcases hw with z | ⟨_, z⟩ <;> (subst z; exact mu.elim)
    · by_cases hdd : d = dx
      · subst hdd
        rcases hw with z | ⟨_, z⟩
        · subst z
          rcases hdx with q | q
          · rw [ed] at q
            cases q
            exact absurd rfl hb
          · rw [ed] at q
            cases q
        · subst z
          rcases hdx with q | q
          · rw [ed] at q
            cases q
          · rw [ed] at q
            cases q
            unfold SlX.slH
            rw [upd_ne ne, upd_same]
      · rw [SlX.slH_ne hda hdd]
        exact ed
def fSetF (ti ts : Tbl) (fv fo : FE) : FS := fun ρ A => (fv ρ A).s ρ fun y A => (fo ρ A).s ρ fun x A => match setF ti ts A x y with
  | some A' => .nx ρ A'
  | none => .er
theorem cs_fld {o e : Expr} {f : Str} {pos pos' : Pos} {fv fo : FE} (ti ts : Tbl) (hK : X.K = cf.K) (h1 : ∀ p ∈ ti, InsF cf f p.1 p.2) (h2 : ∀ p ∈ ts, SltF cf f p.1 p.2) (he : CE cf X W e fv) (ho : CE cf X W o fo) (hs : swapsWith e (some (.Attribute o f pos')) pos.line X.env = pure false := by rfl) :
    CS cf X W (.Assign [.Attribute o f pos'] e pos) (fSetF ti ts fv fo) := by
  obtain ⟨tv, pv, ov⟩ := he.ex
  obtain ⟨to, po, oo⟩ := ho.ex
  refine ⟨_, PS.or (SlX.ps_sl po pv hs) (ps_fld po pv hs), fun ρ σ m H A D S L P => ?_⟩
  by_cases hsl : ∃ y A1 x A2, fv ρ A = .ok y A1 ∧ fo ρ A1 = .ok x A2 ∧ isSlt A2 x = true
  · left
    obtain ⟨y0, B1, x0, B2, e1, e2, hsl⟩ := hsl
    refine ov.thenS S L P fun y u m1 H1 A1 ey g1 L1 ry P1 => ?_
    rw [e1] at ey
    cases ey
    refine oo.thenS g1.sim L1 P1 fun x v m2 H2 A2 ex g2 L2 rx P2 => ?_
    rw [e2] at ex
    cases ex
    split at P2
    · rename_i A' ea
      unfold setF at ea
      split at ea
      · rename_i n
        split at ea
        · rename_i c fs e3
          simp only [isSlt, e3] at hsl
          cases hsl
        · rename_i c fs e3
          split at ea
          · rename_i i ei
            cases ea
            obtain ⟨a, rfl, hm, dx, vs, ne, hq, r⟩ := g2.sim.obj rx e3
            obtain ⟨F1, q, F2⟩ := h2 _ (tblAt_mem ei)
            have r2 : RelOs cf.K m2 H2 (putO i y0 fs) (SlX.putS i u vs) := by
              unfold putO SlX.putS
              rw [r.len]
              exact RelOs.set (show RelOA cf.K m2 H2 (some y0) (some u) from RelA.mono g2.pre g2.fz ry) i (r.app (RelOs.nones _))
            have g3 := put_slt g2.sim hm rfl ne hq r2
            rw [hK]
            exact ⟨a, _, dx, q, vs, i, rfl, slt_of (m := m2) hq, F1, F2, P2 m2 _ σ g3 (L2.mono g3.pre g3.fz)⟩
          · cases ea
        · cases ea
      · cases ea
    · exact P2.elim
  · right
    refine ov.thenS S L P fun y u m1 H1 A1 ey g1 L1 ry P1 => ?_
    refine oo.thenS g1.sim L1 P1 fun x v m2 H2 A2 ex g2 L2 rx P2 => ?_
    split at P2
    · rename_i A' ea
      unfold setF at ea
      split at ea
      · rename_i n
        split at ea
        · rename_i c fs e3
          split at ea
          · rename_i i ei
            rw [Option.map_eq_some_iff] at ea
            obtain ⟨fs', hf, rfl⟩ := ea
            obtain ⟨a, rfl, hm, dx, vs, h3, hl, r⟩ := g2.sim.obj rx e3
            have F := h1 _ (tblAt_mem ei)
            have ry2 : RelA cf.K m2 H2 y u := RelA.mono g2.pre g2.fz ry
            have hlv : vs.length ≤ (cf.nam c).length := by rw [← r.length]; exact hl
            have key : ∃ vs', putF f u ((cf.nam c).zip vs) = (cf.nam c).zip vs' ∧ fs'.length ≤ (cf.nam c).length ∧ RelAs cf.K m2 H2 fs' vs' := by
              unfold putI at hf
              split at hf
              · rename_i hi
                cases hf
                exact ⟨_, putF_zip F.nd F.at_ (by rw [← r.length]; exact hi) hlv, by rw [List.length_set]; exact hl, RelAs.set ry2 i r⟩
              · split at hf
                · rename_i hi
                  cases hf
                  have hi2 : i = vs.length := by rw [← r.length]; exact hi
                  have hat := F.at_
                  simp only at hat
                  rw [hi2] at hat
                  obtain ⟨hlt, _⟩ := List.getElem?_eq_some_iff.mp hat
                  exact ⟨_, putF_zip' F.nd hat, by rw [List.length_append, List.length_singleton, r.length]; omega, r.app (.cons ry2 .nil)⟩
                · cases hf
            obtain ⟨vs', k1, k2, k3⟩ := key
            have g3 : Go cf m2 H2 m2 (upd H2 a (.ins (cf.cls c) dx (putF f u ((cf.nam c).zip vs)))) (A2.set n (.ins c fs')) := by
              rw [k1]
              exact go_put g2.sim hm h3 trivial ⟨dx, vs', upd_same, k2, k3.mono (Pre.refl m2) (fz_main h3 trivial)⟩
            rw [hK]
            refine ⟨a, _, dx, _, rfl, h3, F.cl, F.no, ?_, P2 m2 _ σ g3 (L2.mono g3.pre g3.fz)⟩
            rw [List.length_zip]
            exact Nat.lt_of_le_of_lt (Nat.min_le_left _ _) F.few
          · cases ea
        · rename_i c fs e3
          exact (hsl ⟨_, _, _, _, ey, ex, by simp only [isSlt, e3]⟩).elim
        · cases ea
      · cases ea
    · exact P2.elim

/-! ### methods and classes of the program -/
theorem passW {E : XK} {W : WX} (tk : Takes X (WD E)) : Passes (L2.CX X.prog X.w) X E := passes_call tk fun _ _ _ _ h => h
/-- a method: its class c; G takes the object first -/
def fMth (c : Nat) (n : Nat) (G : FD) (fo : FE) (fa : FA) : FE := fun ρ A => (fo ρ A).bind fun x A => match x with
  | .obj k => match A[k]? with
    | some (.ins c' _) => if c' = c then (fa ρ A).bind fun as A => if as.length + 1 = n then G (.obj k :: as) A else .er else .er
    | _ => .er
  | _ => .er
theorem zip_none {f : Str} : ∀ {ns : List Str} {vs : List V}, f ∉ ns → (ns.zip vs).lookup f = none
  | [], _, _ => by simp
  | _ :: _, [], _ => by simp
  | n :: ns, w :: vs, h => by
    have hb : (f == n) = false := beq_eq_false_iff_ne.mpr fun e => h (by rw [e]; simp)
    simp only [List.zip_cons_cons, List.lookup, hb]
    exact zip_none fun q => h (List.mem_cons_of_mem _ q)
theorem post_wd {E : XK} {m : List Addr} {H : Hp} {σ : L2.St} {Q : VK} {r : Res AV} (P : Post cf (WD E) (rA cf) m H σ Q r) : Post cf (WD E) (rA cf) m H [] Q r := by
  cases r with
  | ok _ _ => exact P
  | exc _ _ => exact P
  | er => exact P
theorem c_mth {E : XK} {o e : Expr} {es : List Expr} {m : Str} {apos pos : Pos} {pl : Sem Bool} {k n : Nat} {c : Nat} {g : Addr} {fd : FuncData} {ps : List Str} {G : FD} {fo : FE} {fa : FA} (hK : X.K = cf.K) (cl : Cls X.K (cf.cls c)) (hm : Meth X.K (cf.cls c) m g)
    (F : FnOk X.prog X.w X.K X.mg X.base (L2.CX X.prog X.w) k g fd ps (spOf cf n G)) (hr : Room k X.A) (hb : Binds X.K fd ps []) (tk : Takes X (WD E)) (hno : m ∉ cf.nam c) (ho : CE cf X (WD E) o fo) (ha : CA cf X (WD E) (e :: es) fa)
    (hst : starEach (e :: es) X.env = (false, eval e X.env) :: starEach es X.env := by rfl) (hpl : (backTo pos (starEach es X.env)).any (·.1) = false := by rfl)
    (ht : eval (.Call (.Attribute o m apos) (e :: es) [] pos) X.env = (do
      let ov ← eval o X.env
      standAt apos.atName
      let (f, first) ← holding [ov] (getMethod ov m pl)
      callWith pos f first (backTo pos (starEach (e :: es) X.env)) (backToKw pos (keywordEach [] X.env))) := by rfl) :
    CE cf X (WD E) (.Call (.Attribute o m apos) (e :: es) [] pos) (fMth c n G fo fa) := by
  obtain ⟨t, p, q⟩ := ho.ex
  obtain ⟨t2, p2, q2⟩ := ha.ex
  refine ⟨_, pe_meth p cl hm F hr hb .nil (passW (W := WD E) tk) p2 hst hpl ht, fun ρ σ mm H A Q S L P => ?_⟩
  refine q.then S L P fun x v m1 H1 A1 ea g1 L1 r1 P1 => ?_
  split at P1
  · rename_i k'
    split at P1
    · rename_i c' fs e1
      obtain ⟨hc, P1b⟩ := post_if P1
      subst hc
      obtain ⟨a, rfl, hm1, dx, vs, h3, hl, r⟩ := g1.sim.obj r1 e1
      refine ⟨a, dx, _, rfl, h3, zip_none hno, ?_⟩
      refine q2.then g1.sim L1 P1b fun as us m2 H2 A2 _ g2 L2 r2 P2 => ?_
      obtain ⟨hl2, P2⟩ := post_if P2
      rw [List.append_nil]
      exact ⟨m2, A2, _, g2.sim, .cons (RelA.mono g2.pre g2.fz r1) r2, hl2, post_wd P2⟩
    · exact P1.elim
  · exact P1.elim
theorem c_mth0 {E : XK} {o : Expr} {m : Str} {apos pos : Pos} {pl : Sem Bool} {k : Nat} {c : Nat} {g : Addr} {fd : FuncData} {ps : List Str} {G : FD} {fo : FE} (hK : X.K = cf.K) (cl : Cls X.K (cf.cls c)) (hm : Meth X.K (cf.cls c) m g)
    (F : FnOk X.prog X.w X.K X.mg X.base (L2.CX X.prog X.w) k g fd ps (spOf cf 1 G)) (hr : Room k X.A) (hb : Binds X.K fd ps []) (tk : Takes X (WD E)) (hno : m ∉ cf.nam c) (ho : CE cf X (WD E) o fo)
    (ht : eval (.Call (.Attribute o m apos) [] [] pos) X.env = (do
      let ov ← eval o X.env
      standAt apos.atName
      let (f, first) ← holding [ov] (getMethod ov m pl)
      callWith pos f first (backTo pos (starEach [] X.env)) (backToKw pos (keywordEach [] X.env))) := by rfl) :
    CE cf X (WD E) (.Call (.Attribute o m apos) [] [] pos) (fMth c 1 G fo fNil) := by
  obtain ⟨t, p, q⟩ := ho.ex
  refine ⟨_, pe_meth0 p cl hm F hr hb .nil (passW (W := WD E) tk) ht, fun ρ σ mm H A Q S L P => ?_⟩
  refine q.then S L P fun x v m1 H1 A1 ea g1 L1 r1 P1 => ?_
  split at P1
  · rename_i k'
    split at P1
    · rename_i c' fs e1
      obtain ⟨hc, P1b⟩ := post_if P1
      subst hc
      obtain ⟨a, rfl, hm1, dx, vs, h3, hl, r⟩ := g1.sim.obj r1 e1
      exact ⟨a, dx, _, rfl, h3, zip_none hno, m1, A1, _, g1.sim, .cons r1 .nil, rfl, post_wd P1b⟩
    · exact P1.elim
  · exact P1.elim
/-- C(..): o0 the new object -/
def fMake (o0 : AO) (n : Nat) (G : FD) (fa : FA) : FE := fun ρ A => (fa ρ A).bind fun as A => if as.length + 1 = n then (G (.obj A.length :: as) (A ++ [o0])).bind fun v B => match v with
  | .non => .ok (.obj A.length) B
  | _ => .er
  else .er
theorem made_ins {m : List Addr} {H : Hp} {A : AH} {x dx : Addr} {c : Nat} (S : Sim cf m H A) (hx : H x = none) (hd : H dx = none) (ne : dx ≠ x) : Go cf m H (m ++ [x]) (upd (upd H dx (.own x)) x (.ins (cf.cls c) dx [])) (A ++ [.ins c []]) := by
  have g1 : Go cf m H m (upd H dx (.own x)) A := go_side S hd
  have hx1 : upd H dx (.own x) x = none := by rw [upd_ne (Ne.symm ne)]; exact hx
  exact g1.trans (go_new g1.sim hx1 ⟨dx, [], by rw [upd_same]; cases (cf.nam c) <;> rfl, Nat.zero_le _, .nil⟩)
theorem made_slt {m : List Addr} {H : Hp} {A : AH} {x dx : Addr} {c : Nat} (S : Sim cf m H A) (hx : H x = none) (hd : H dx = none) (ne : dx ≠ x) : Go cf m H (m ++ [x]) (upd (upd H dx (.own x)) x (.ins (cf.cls c) dx [])) (A ++ [.slt c []]) := by
  have g1 : Go cf m H m (upd H dx (.own x)) A := go_side S hd
  have hx1 : upd H dx (.own x) x = none := by rw [upd_ne (Ne.symm ne)]; exact hx
  exact g1.trans (go_new g1.sim hx1 ⟨dx, [], ne, .inl ⟨upd_same, rfl, by rw [upd_ne ne, upd_same]⟩, .nil⟩)
theorem c_make {E : XK} {x : Str} {p pos : Pos} {e : Expr} {es : List Expr} {k n c : Nat} {fi : Addr} {fd : FuncData} {ps : List Str} {G : FD} {fa : FA} {o0 : AO} (ho0 : o0 = .ins c [] ∨ o0 = .slt c []) (M : Mk X.K (cf.cls c) fi) (F : FnOk X.prog X.w X.K X.mg X.base (L2.CX X.prog X.w) k fi fd ps (spOf cf n G)) (hr : Room (k + 1) X.A)
    (hm : X.mg x = some (.ref (cf.cls c))) (hb : Binds X.K fd ps []) (tk : Takes X (WD E)) (ha : CA cf X (WD E) (e :: es) fa) (hg : Gl X x := by rfl) (hdb : (x == ("__debug__" : Str)) = false := by decide) (he : starEach (e :: es) X.env = (false, eval e X.env) :: starEach es X.env := by rfl) (hpl : (backTo pos (starEach es X.env)).any (·.1) = false := by rfl) :
    CE cf X (WD E) (.Call (.Name x p) (e :: es) [] pos) (fMake o0 n G fa) := by
  obtain ⟨t, p, o⟩ := ha.ex
  refine ⟨_, pe_make M F hr hg hm hb .nil (passW (W := WD E) tk) p hdb he hpl, fun ρ σ m H A Q S L P => ?_⟩
  refine o.then S L P fun as vs m1 H1 A1 _ g1 L1 r P1 => ?_
  obtain ⟨hl, P1⟩ := post_if P1
  intro x dx hx hd ne
  have gm : Go cf m1 H1 (m1 ++ [x]) (upd (upd H1 dx (.own x)) x (.ins (cf.cls c) dx [])) (A1 ++ [o0]) := by
    rcases ho0 with z | z
    · subst z
      exact made_ins g1.sim hx hd ne
    · subst z
      exact made_slt g1.sim hx hd ne
  have hk : (m1 ++ [x])[A1.length]? = some x := by
    rw [← g1.sim.len, List.getElem?_append_right (Nat.le_refl _)]
    simp
  rw [List.append_nil]
  refine ⟨_, _, .obj A1.length :: as, gm.sim, .cons (.obj hk) (r.mono gm.pre gm.fz), hl, ?_⟩
  have P2 := Post.mono gm P1
  cases eg : G (.obj A1.length :: as) (A1 ++ [o0]) with
  | ok v B =>
    rw [eg] at P2
    intro m2 H2 u g2 ru
    have P3 := Post.mono g2 P2
    simp only [Res.bind_ok] at P3
    split at P3
    · exact ⟨ru.to_non, P3 m2 H2 _ (Go.refl g2.sim) (.obj (g2.pre _ _ hk))⟩
    · exact P3.elim
  | exc ex B =>
    rw [eg] at P2
    exact P2
  | er =>
    rw [eg] at P2
    exact P2.elim
/-- o.f, a property of the class c -/
def fProp (c : Nat) (G : FD) (fo : FE) : FE := fun ρ A => (fo ρ A).bind fun x A => match x with
  | .obj k => match A[k]? with
    | some (.ins c' _) => if c' = c then match G [.obj k] A with
      | .ok v B => .ok v B
      | _ => .er
      else .er
    | _ => .er
  | _ => .er
theorem c_prop {e : Expr} {f : Str} {pos : Pos} {k c : Nat} {p g : Addr} {fd : FuncData} {ps : List Str} {G : FD} {fo : FE} (cl : Cls X.K (cf.cls c)) (hp : PropOf X.K (cf.cls c) f p g) (F : FnOk X.prog X.w X.K X.mg X.base (L2.CX X.prog X.w) k g fd ps (spOf cf 1 G)) (hr : Room (k + 1) X.A) (hb : Binds X.K fd ps [])
    (ho : CE cf X W e fo) (hab : attributeBase e f X.env (eval e X.env) = eval e X.env := by rfl) : CE cf X W (.Attribute e f pos) (fProp c G fo) := by
  obtain ⟨t, pp, q⟩ := ho.ex
  refine ⟨_, pe_prop pp cl hp F hr hb .nil passL hab, fun ρ σ mm H A Q S L P => ?_⟩
  refine q.then S L P fun x v m1 H1 A1 ea g1 L1 r1 P1 => ?_
  split at P1
  · rename_i k'
    split at P1
    · rename_i c' fs e1
      obtain ⟨hc, P1b⟩ := post_if P1
      subst hc
      obtain ⟨a, rfl, hm1, dx, vs, h3, hl, r⟩ := g1.sim.obj r1 e1
      refine ⟨a, dx, _, rfl, h3, m1, A1, _, g1.sim, .cons r1 .nil, rfl, ?_⟩
      cases eg : G [AV.obj k'] A1 with
      | ok u B =>
        rw [eg] at P1b
        exact P1b
      | exc x B =>
        rw [eg] at P1b
        exact P1b.elim
      | er =>
        rw [eg] at P1b
        exact P1b.elim
    · exact P1.elim
  · exact P1.elim
end
end Dn

set_option maxRecDepth 100000
set_option maxHeartbeats 2000000
/-! Dn, part H: enumerate over tuples, isinstance, stars, sums, sorts. -/
namespace Dn
open PySem PySem.Spec L2 PyProof.Rows

/-! ### enumerate(v) of what begins -/
theorem meets_enumerate_newB1 {v : Value} {o : Obj} {H : Heap → Prop} (B : Begins v o H) :
    Meets (Builtin.«enumerate.__new__» ⟨[.type "enumerate", v], []⟩) (fun _ R s => H s.heap ∧
      R (.ok (.ret (.ref (s.heap.push o).objs.size))) { s with heap := (s.heap.push o).push { cls := .type "enumerate", data := .fields #[.none, .bool false, .ref s.heap.objs.size, rawInt 0, .none, .none] } }) :=
  .of_wp fun prog w A R s h => by
    obtain ⟨hp, g, d, tk, os⟩ := s; obtain ⟨h1, h⟩ := h
    have hsub := sub_enumerate
    have q1 : ∀ {A' : Around} {E : Value → Shared → Prop} {Q : Value → Shared → Prop}, Q (.ref hp.objs.size) ⟨hp.push o, g, d, tk, os⟩ → wpAny (model prog w) A' (pyIter v) Q E ⟨hp, g, d, tk, os⟩ :=
      fun q => B.iter prog w _ _ ⟨hp, g, d, tk, os⟩ _ h1 q
    wp_walk using q1
    refine wpAny_stack_any fun st => wpAny_pure ?_
    split
    · rename_i c _ _ _ _ _
      cases (c == Value.type "enumerate")
      · wp_walk using q1
        exact ⟨_, rfl, h⟩
      · wp_walk using q1
        exact ⟨_, rfl, h⟩
    · wp_walk using q1
      exact ⟨_, rfl, h⟩
theorem enum_begins1 {prog : Program} {w : World} {A : Around} {E : Value → Shared → Prop} {s : Shared} {v : Value} {o : Obj} {H : Heap → Prop} {Q : Value → Shared → Prop} (B : Begins v o H) (h1 : H s.heap)
    (h : ∀ h', IsEnum h' (s.heap.objs.size + 1) s.heap.objs.size 0 .none → h'.get? s.heap.objs.size = some o → h'.objs.size = s.heap.objs.size + 2 →
      (∀ b o, s.heap.get? b = some o → h'.get? b = some o) → Q (.ref (s.heap.objs.size + 1)) { s with heap := h' }) :
    wpAny (model prog w) A (call (.type "enumerate") [v]) Q E s := by
  refine callType_new F.called_enumerate (by decide) (F.typeCall_enumerate_1 _) (F.newCall_enumerate_1 _) (fun obj => F.args_object_init_2 obj _) F.entry_enumerate_new
    (meets_enumerate_newB1 B) ⟨h1, ?_⟩
  have hz : (s.heap.push o).objs.size = s.heap.objs.size + 1 := Heap.size_push ..
  show _ ∧ _
  rw [hz]
  have he : IsEnum ((s.heap.push o).push { cls := .type "enumerate", data := .fields #[.none, .bool false, .ref s.heap.objs.size, rawInt 0, .none, .none] }) (s.heap.objs.size + 1) s.heap.objs.size 0 .none := by
    have := Heap.get?_push_size (s.heap.push o) (o := { cls := .type "enumerate", data := .fields #[.none, .bool false, .ref s.heap.objs.size, rawInt 0, .none, .none] }) rfl
    rw [hz] at this; exact this
  refine ⟨⟨_, he, rfl⟩, h _ he (Heap.get?_push_of_some _ (Heap.get?_push_size _ B.free)) (by rw [Heap.size_push, hz]) fun b o x => Heap.get?_push_of_some _ (Heap.get?_push_of_some _ x)⟩
/-- the tuple at a, each item in a new pair -/
def IteT (K : PySem.W.Frag) (a : Addr) : It :=
  ⟨fun i H => ∃ (xs : List V) (x : V), SqT K H a xs ∧ xs[i]? = some x, fun i H v H' => ∃ T x, v = .ref T ∧ H T = none ∧ H' = upd H T (.tup [.int (i : Nat), x]) ∧ ∀ xs, SqT K H a xs → xs[i]? = some x, fun i H => ∃ xs : List V, SqT K H a xs ∧ xs.length = i⟩
theorem turn_enumT {P : Program} {w : World} {K : PySem.W.Frag} {elts : List Expr} {kk : Nat} {tpos : Pos} (a e it : Addr) :
    Turn P w K (.Tuple elts kk tpos) (IteT K a) [e, it] e (fun i h => (∃ old, IsEnum h e it ((i : Nat) : Int) old) ∧ h.IsTupleIter it a i ∧ e ≠ it) where
  mem := by simp
  obj := fun i h st b hb => by
    obtain ⟨⟨old, he⟩, ⟨o, ho, hc, hd⟩, _⟩ := st
    have e' : b = e ∨ b = it := by simpa using hb
    rcases e' with z | z
    · rw [z]; exact ⟨_, he, fun v q => nomatch q⟩
    · rw [z]; exact ⟨o, ho, fun v q => by rw [hd] at q; cases q⟩
  keep := fun i h h' st k => let ⟨⟨old, he⟩, hi, hne⟩ := st; ⟨⟨old, k e (by simp) _ he⟩, hi.at fun o q => k it (by simp) o q, hne⟩
  item := by
    intro X hP hw hK hc i pins s σ H E I hf st hg
    subst hP hw hK
    obtain ⟨⟨old, he⟩, hit, hne⟩ := st
    obtain ⟨xs, x, hq, hx⟩ := hg
    obtain ⟨its, rv, p, hz⟩ := I.tuple hq
    obtain ⟨u, hu, ru⟩ := rv.get hx
    have hel : e < s.heap.objs.size := Heap.lt_size he
    have hil : it < s.heap.objs.size := by obtain ⟨_, q, _⟩ := hit; exact Heap.lt_size q
    have hai : a ≠ it := fun z => by
      obtain ⟨o1, h1, h2, _⟩ := hit
      obtain ⟨o2, h3, h4, _⟩ := p
      rw [z, h1] at h3
      cases h3
      rw [h2] at h4
      exact absurd h4 (by simp)
    have hae : e ∉ [it, a] := fun z => by
      rcases List.mem_cons.mp z with z | z
      · exact hne z
      · rw [List.mem_singleton] at z
        obtain ⟨o2, h3, h4, _⟩ := p
        have he2 : s.heap.get? e = some _ := he
        rw [← z, he2] at h3
        cases h3
        exact absurd h4 (by simp)
    have hd0 : X.A.in1.handled = none := I.ok.hd hc
    have hlt : i < its.toArray.size := by
      rw [List.size_toArray, ← rv.length]
      exact (List.getElem?_eq_some_iff.mp hx).1
    refine wpAny_pyNext_enum_itemD (Draws.tuple hd0 it a hai its.toArray) he ⟨hit, p⟩ hlt hne hae fun y h' tk hy ho hst hT hsz hk => ?_
    have ey : y = u := by
      have h5 : its[i]? = some y := by simpa using hy
      rw [hu] at h5
      cases h5
      rfl
    subst ey
    refine ⟨_, rfl, wpAny_letOwnedTupleGo_enum (s := { s with heap := h', toks := tk + 1 }) ho fun h'' he' sb => ?_⟩
    have hT2 : h''.get? s.heap.objs.size = some { cls := .type "tuple", data := .seq #[.int i tk, y] } := (sb.2 _ (Nat.ne_of_gt hel)).trans hT
    have new : ObjOk X.prog X.w (upd H s.heap.objs.size (.tup [.int (i : Nat), x])) h'' s.heap.objs.size (.tup [.int (i : Nat), x]) :=
      ⟨by show 2 ≤ sizeLine; decide, [.int i tk, y], .cons ⟨_, rfl⟩ (.cons ru .nil), ⟨_, hT2, rfl, _, rfl⟩⟩
    have I1 : Inv X pins σ (upd H s.heap.objs.size (.tup [.int (i : Nat), x])) { s with heap := h'', toks := tk + 1 } :=
      I.turnedNew (ch := [e, it]) (fun b ob hb q => (sb.2 b (fun z => hb (by simp [z]))).trans (hk b ob (fun z => hb (by simp [z])) (fun z => hb (by simp [z])) q)) hf (Nat.le_refl _) new
    refine ⟨.ref s.heap.objs.size, _, I1, rfl, ⟨_, x, rfl, I.hok.fresh (Nat.le_refl _), rfl, fun ys hy => by rw [I.tuple_inj hy hq]; exact hx⟩, ⟨⟨y, ?_⟩, hst.1.at fun o q => (sb.2 it (Ne.symm hne)).trans q, hne⟩, fun b hb => ?_⟩
    · have e1 : ((i + 1 : Nat) : Int) = (i : Int) + 1 := by omega
      rw [e1]; exact he'
    · have hb' : b < s.heap.objs.size := by
        have e' : b = e ∨ b = it := by simpa using hb
        rcases e' with z | z
        · rw [z]; exact hel
        · rw [z]; exact hil
      rw [upd_ne (Nat.ne_of_lt hb')]
      exact (hf b hb).1
  done := by
    intro X hP hw hK hc i pins s σ H E I hf st hg
    subst hP hw hK
    obtain ⟨⟨old, he⟩, hit, hne⟩ := st
    obtain ⟨xs, hq, hx⟩ := hg
    obtain ⟨its, rv, p, hz⟩ := I.tuple hq
    obtain ⟨f0, f1, f2, f3, f4, f5⟩ := hf it (by simp)
    have hl := rv.length
    have hai : a ≠ it := fun z => by
      obtain ⟨o1, h1, h2, _⟩ := hit
      obtain ⟨o2, h3, h4, _⟩ := p
      rw [z, h1] at h3
      cases h3
      rw [h2] at h4
      exact absurd h4 (by simp)
    have hi2 : i = its.toArray.size := by rw [List.size_toArray, ← hl, hx]
    have hit2 : s.heap.IsTupleIter it a its.toArray.size := hi2 ▸ hit
    exact wpAny_pyNext_enum_endD (i := ((i : Nat) : Int)) (Draws.tuple (show X.A.in1.handled = none from I.ok.hd hc) it a hai its.toArray) he ⟨hit2, p⟩ fun h' eb => ⟨rfl, I.turned (t' := s.toks) (fun b o hb q => eb b o hb q) f0 f1 f3 f4 f5⟩
  self := fun A i s Q E st h => let ⟨⟨_, he⟩, _⟩ := st; wpAny_pyIter_enum he h
def iEnumT (K : PySem.W.Frag) (ta : TA) : TI := fun σ H R => ta σ H fun vs H1 => ∃ a xs, vs = [.ref a] ∧ SqT K H1 a xs ∧ R (IteT K a) H1
theorem pi_enumT {X : Cx} {e : Expr} {ta : TA} {p pos tpos : Pos} {elts : List Expr} {kk : Nat} (hg : Gl X "enumerate") (hm : X.mg "enumerate" = none) (ha : PA X [e] ta) (hs : starEach [e] X.env = [(false, eval e X.env)] := by rfl) :
    PI X (.Tuple elts kk tpos) (.Call (.Name "enumerate" p) [e] [] pos) (iEnumT X.K ta) := by
  refine ⟨fun pins s σ H R I h => ?_⟩
  refine Call_ (ld_blt I hg hm boot_enumerate (PyProof.Rows.callWith_type1 (thn (ha.run pos pins s σ H _ I h) fun us s1 ⟨vs, H1, I1, r1, q1⟩ => ?_) hs rfl))
  obtain ⟨a, xs, ex, hq, q⟩ := q1
  subst ex
  cases r1 with
  | cons r rr =>
    cases rr
    cases r
    obtain ⟨its, rv, p', hz⟩ := I1.tuple hq
    refine enum_begins1 (begins_tuple a its.toArray) p' fun h' he hit hsz hk => wpAny_pyIter_enum he ?_
    have I2 : Inv X pins σ H1 { s1 with heap := h' } := I1.kept (t' := s1.toks) hk
    refine ⟨s1.heap.objs.size + 1, [s1.heap.objs.size + 1, s1.heap.objs.size], _, _, H1, rfl, I2, turn_enumT a (s1.heap.objs.size + 1) s1.heap.objs.size, ⟨⟨.none, he⟩, ⟨_, hit, rfl, rfl⟩, Nat.succ_ne_self _⟩, fun b hb => ?_, q⟩
    have e' : b = s1.heap.objs.size + 1 ∨ b = s1.heap.objs.size := by simpa using hb
    have hle : s1.heap.objs.size ≤ b := by
      rcases e' with z | z
      · rw [z]; exact Nat.le_add_right _ _
      · rw [z]; exact Nat.le_refl _
    exact I1.fpOk hle (I1.hok.fresh hle)

section
variable {cf : Cfg} {X : Cx} {W : WX}
def pairI (i : Nat) (x : AV) : AV := .tup [.int (i : Nat), x]
def enumF (i : Nat) : List AV → List AV
  | [] => []
  | x :: xs => pairI i x :: enumF (i + 1) xs
theorem enumF_len : ∀ (xs : List AV) (i : Nat), (enumF i xs).length = xs.length
  | [], _ => rfl
  | _ :: xs, i => by rw [enumF, List.length_cons, List.length_cons, enumF_len xs]
theorem enumF_get : ∀ (xs : List AV) (i j : Nat), (enumF i xs)[j]? = xs[j]?.map (pairI (i + j))
  | [], _, _ => by simp [enumF]
  | x :: xs, i, 0 => by simp [enumF]
  | x :: xs, i, j + 1 => by
    rw [enumF, List.getElem?_cons_succ, List.getElem?_cons_succ, enumF_get xs (i + 1) j]
    congr 2
    omega
def fEnum (f : FE) : FI := fun ρ A => (f ρ A).bind fun x A => match x with
  | .obj n => match A[n]? with
    | some (.lst _) => .ok (.live n pairI) A
    | _ => .er
  | .scr ns => .ok (.fix (enumF 0 (ns.map AV.int))) A
  | .tup xs => .ok (.fix (enumF 0 xs)) A
  | _ => .er
theorem pair_go {m : List Addr} {H : Hp} {A : AH} {T : Addr} {i : Nat} {x : AV} {v : V} (S : Sim cf m H A) (hT : H T = none) (r : RelA cf.K m H x v) : Go cf m H m (upd H T (.tup [.int (i : Nat), v])) A ∧ RelA cf.K m (upd H T (.tup [.int (i : Nat), v])) (pairI i x) (.ref T) :=
  ⟨go_side S hT, .tup upd_same (.cons (.int _) (.cons (r.mono (Pre.refl m) (fz_new hT)) .nil))⟩
theorem src_enum {J : It} {m : List Addr} {H : Hp} {vs : List V} {xs : List AV} (hgo : ∀ H' i, Fz H H' → i < vs.length → J.go i H') (hst : ∀ H', Fz H H' → J.stop vs.length H')
    (hy : ∀ H' i x H2, Fz H H' → J.yld i H' x H2 → ∃ T v, x = .ref T ∧ H' T = none ∧ H2 = upd H' T (.tup [.int (i : Nat), v]) ∧ vs[i]? = some v) (hr : RelAs cf.K m H xs vs) : SrcR cf m H J (.fix (enumF 0 xs)) := fun m1 H1 A1 g => by
  have hl : (enumF 0 xs).length = vs.length := by rw [enumF_len, hr.length]
  refine ⟨fun i hi => hgo H1 i g.fz (by rw [← hl]; exact hi), by rw [hl]; exact hst H1 g.fz, fun i x H2 y hi => ?_⟩
  obtain ⟨T, v, rfl, hT, rfl, hv⟩ := hy H1 i x H2 g.fz y
  obtain ⟨z, h1, h2⟩ := hr.get' hv
  obtain ⟨g2, r2⟩ := pair_go (i := i) g.sim hT (h2.mono g.pre g.fz)
  exact ⟨pairI i z, by rw [enumF_get, h1, Nat.zero_add]; rfl, g2, r2⟩
theorem ci_enum {e : Expr} {p pos tpos : Pos} {elts : List Expr} {kk : Nat} {f : FE} (hK : X.K = cf.K) (hm : X.mg "enumerate" = none) (h : CE cf X W e f) (hg : Gl X "enumerate" := by rfl) (hs : starEach [e] X.env = [(false, eval e X.env)] := by rfl) :
    CI cf X W (.Tuple elts kk tpos) (.Call (.Name "enumerate" p) [e] [] pos) (fEnum f) := by
  obtain ⟨t, q, o⟩ := (ca_cons h ca_nil hs).ex
  refine ⟨_, PI.or (pi_enum hg hm q hs) (pi_enumT hg hm q hs), ?_⟩
  rw [hK]
  intro ρ σ m H A R S L P
  have key : ∀ (x : AV) (A1 : AH), f ρ A = .ok x A1 → fCons f fNil ρ A = .ok [x] A1 := fun x A1 e => by
    unfold fCons
    rw [e]
    rfl
  have P' : Post cf W (fun m' H' s J => SrcR cf m' H' J s) m H σ R ((fCons f fNil ρ A).bind fun xs A => match xs with
      | [x] => match x with
        | .obj n => match A[n]? with
          | some (.lst _) => .ok (.live n pairI) A
          | _ => .er
        | .scr ns => .ok (.fix (enumF 0 (ns.map AV.int))) A
        | .tup xs => .ok (.fix (enumF 0 xs)) A
        | _ => .er
      | _ => .er) := by
    unfold fEnum at P
    unfold fCons
    cases e : f ρ A with
    | ok x A1 =>
      rw [e] at P
      exact P
    | exc x A1 =>
      rw [e] at P
      exact P
    | er =>
      rw [e] at P
      exact P
  by_cases hk : ∃ xs A1, f ρ A = .ok (.tup xs) A1
  · right
    obtain ⟨xs, A1, hk⟩ := hk
    refine o.then S L P' fun x v m1 H1 A1 e g1 L1 r1 P1 => ?_
    rw [key _ _ hk] at e
    cases e
    obtain ⟨v, rfl, r2⟩ := RelAs.one r1
    obtain ⟨a, vs, rfl, ha, r⟩ := RelA.to_tup r2
    refine ⟨a, vs, rfl, SqT.of ha, P1 m1 H1 _ (Go.refl g1.sim) (src_enum (vs := vs) (fun H' i f hi => ⟨vs, vs[i], SqT.of (f.tup _ _ ha), by simp [hi]⟩) (fun H' f => ⟨vs, SqT.of (f.tup _ _ ha), rfl⟩) (fun H' i x H2 f y => ?_) r)⟩
    obtain ⟨T, w, h1, h2, h3, h4⟩ := y
    exact ⟨T, w, h1, h2, h3, h4 vs (SqT.of (f.tup _ _ ha))⟩
  · left
    refine o.then S L P' fun xs v m1 H1 A1 e g1 L1 r1 P1 => ?_
    split at P1
    · rename_i x
      obtain ⟨v, rfl, r2⟩ := RelAs.one r1
      clear r1
      have ex : f ρ A = .ok x A1 := by
        unfold fCons at e
        cases e2 : f ρ A with
        | ok y B =>
          rw [e2] at e
          simp only [Res.bind_ok, fNil] at e
          cases e
          rfl
        | exc y B => rw [e2] at e; cases e
        | er => rw [e2] at e; cases e
      split at P1
      · rename_i n
        split at P1
        · rename_i xs e1
          obtain ⟨a, rfl, hm, vs, h1, r⟩ := g1.sim.obj r2 e1
          refine ⟨a, vs, rfl, SqL.of h1, P1 m1 H1 _ (Go.refl g1.sim) (live_ok (A := A1) (xs0 := xs) hm (fun i H vs e hi => ⟨vs, vs[i], SqL.of e, by simp [hi]⟩) (fun i H vs e hi => ⟨vs, SqL.of e, hi⟩) fun i m2 H2 A2 vs x H3 S2 e y => ?_)⟩
          obtain ⟨T, w, rfl, hT, rfl, hw⟩ := y
          exact ⟨w, hw vs (SqL.of e), go_side S2 hT, fun z hz => (pair_go S2 hT hz).2⟩
        · exact P1.elim
      · rename_i ns
        cases r2 with
        | scr hf =>
          refine ⟨_, ns.map V.int, rfl, hf.sq, P1 m1 H1 _ (Go.refl g1.sim) (src_enum (vs := ns.map V.int) (fun H' i f hi => ⟨_, _, (hf.mono f).sq, List.getElem?_eq_getElem hi⟩) (fun H' f => ⟨_, (hf.mono f).sq, Nat.le_refl _⟩) (fun H' i x H2 f y => ?_) (RelAs.ints ns))⟩
          obtain ⟨T, w, h1, h2, h3, h4⟩ := y
          exact ⟨T, w, h1, h2, h3, h4 _ (hf.mono f).sq⟩
      · rename_i xs
        exact (hk ⟨xs, A1, ex⟩).elim
      · exact P1.elim
    · exact P1.elim

/-! ### isinstance of built-in types -/
def tyS (A : AH) : AV → String
  | .non => "NoneType"
  | .bl _ => "bool"
  | .int _ => "int"
  | .str _ => "str"
  | .scr _ => "list"
  | .tup _ => "tuple"
  | .ty _ => "?"
  | .obj n => match A[n]? with
    | some (.lst _) => "list"
    | some (.dK _) => "dict"
    | some (.dT _) => "dict"
    | _ => "?"
/-- the class of an object of the program -/
def clsA (A : AH) : AV → Option Nat
  | .obj n => match A[n]? with
    | some (.ins c _) => some c
    | some (.slt c _) => some c
    | _ => none
  | _ => none
theorem tyX_ok {m : List Addr} {H : Hp} {A : AH} {x : AV} {v : V} (S : Sim cf m H A) (r : RelA cf.K m H x v) (h : tyS A x ≠ "?") : TyX cf.K H v (.type (tyS A x)) := by
  cases x with
  | non => rw [r.to_non]; exact .base .non
  | bl b => rw [r.to_bl]; exact .base (.bl b)
  | int b => rw [r.to_int]; exact .base (.int b)
  | str b => rw [r.to_str]; exact .base (.str b)
  | ty b => exact absurd rfl h
  | scr ns =>
    cases r with
    | scr hf =>
      rcases hf with ⟨o, hf⟩ | ⟨o, its, n, h1, h2, _⟩
      · exact .base (.frz hf)
      · exact .kList h1 h2
  | tup xs =>
    obtain ⟨a, vs, rfl, h1, _⟩ := r.to_tup
    exact .base (.tup h1)
  | obj n =>
    unfold tyS at h ⊢
    simp only at h ⊢
    split at h
    · rename_i xs e
      obtain ⟨a, rfl, _, vs, h1, _⟩ := S.obj r e
      exact .base (.lst h1)
    · rename_i xs e
      obtain ⟨a, rfl, _, vs, h1, _⟩ := S.obj r e
      exact .base (.dK h1)
    · rename_i xs e
      obtain ⟨a, rfl, _, vs, h1, _⟩ := S.obj r e
      exact .base (.dT h1)
    · exact absurd rfl h
def tyNames : List String := ["NoneType", "bool", "int", "str", "list", "tuple", "dict"]
def isiT (t T : String) : Bool := t == T || (t == "bool" && T == "int")
theorem kit_names : ∀ t ∈ tyNames, ∀ T ∈ ["int", "bool", "str", "tuple", "list"], kitB t T = some (isiT t T) := by decide +kernel
theorem tyS_in {A : AH} {x : AV} (h : tyS A x ≠ "?") : tyS A x ∈ tyNames := by
  cases x with
  | obj n =>
    unfold tyS at h ⊢
    simp only at h ⊢
    split at h
    · decide
    · decide
    · decide
    · exact absurd rfl h
  | ty _ => exact absurd rfl h
  | _ => (simp only [tyS]; decide)
/-- isinstance(x, T) -/
def fIsi (T : String) (fe : FE) : FE := fun ρ A => (fe ρ A).bind fun x A => if tyS A x ≠ "?" then .ok (.bl (isiT (tyS A x) T)) A else .er
theorem c_tyN {x : Str} {T : String} {pos : Pos} (hm : X.mg x = none) (hv : bootBuiltins x = some (.type T)) (hg : Gl X x := by rfl) (hn : x ≠ "__name__" := by decide) (hd : (x == ("__debug__" : Str)) = false := by decide) : PE X (.Name x pos) (tC (.ty T)) := pe_bltn (v := .ty T) hg hm hv rfl hn hd
theorem c_isiT {e : Expr} {xT : Str} {T : String} {p p2 pos : Pos} {fe : FE} (hK : X.K = cf.K) (hI : X.mg "isinstance" = none) (hm : X.mg xT = none) (hv : bootBuiltins xT = some (.type T)) (hT : T ∈ ["int", "bool", "str", "tuple", "list"]) (he : CE cf X W e fe) (hgI : Gl X "isinstance" := by rfl) (hg : Gl X xT := by rfl) (hn : xT ≠ "__name__" := by decide) (hd : (xT == ("__debug__" : Str)) = false := by decide)
    (hs : starEach [e, .Name xT p2] X.env = (false, eval e X.env) :: starEach [.Name xT p2] X.env := by rfl) (hs2 : starEach [.Name xT p2] X.env = (false, eval (.Name xT p2) X.env) :: starEach [] X.env := by rfl) (hpl : (backTo pos (starEach [.Name xT p2] X.env)).any (·.1) = false := by rfl) :
    CE cf X W (.Call (.Name "isinstance" p) [e, .Name xT p2] [] pos) (fIsi T fe) := by
  obtain ⟨t, q, o⟩ := he.ex
  refine ⟨_, pe_callB call_isi hgI hI boot_isinstance (pa_cons q (pa_cons (c_tyN hm hv hg hn hd) pa_nil hs2) hs) (by decide) (by decide) hs hpl, fun ρ σ m H A Q S L P => ?_⟩
  refine o.then S L P fun x v m1 H1 A1 _ g1 L1 r P1 => ?_
  obtain ⟨h1, P1⟩ := post_if P1
  rw [hK]
  exact ⟨v, .ty T, _, _, _, rfl, .ty T, tyX_ok g1.sim r h1, kit_ty (kit_names _ (tyS_in h1) T hT), P1 m1 H1 _ (Go.refl g1.sim) (.bl _)⟩
/-- isinstance(x, (T, U)) -/
def fIsi2 (T U : String) (fe : FE) : FE := fun ρ A => (fe ρ A).bind fun x A => if tyS A x ≠ "?" then .ok (.bl (isiT (tyS A x) T || isiT (tyS A x) U)) A else .er
theorem c_isiT2 {e : Expr} {xT xU : Str} {T U : String} {k : Nat} {p p2 p3 p4 pos : Pos} {fe : FE} (hK : X.K = cf.K) (hI : X.mg "isinstance" = none) (hm : X.mg xT = none) (hv : bootBuiltins xT = some (.type T)) (hT : T ∈ ["int", "bool", "str", "tuple", "list"]) (hm2 : X.mg xU = none) (hv2 : bootBuiltins xU = some (.type U)) (hU : U ∈ ["int", "bool", "str", "tuple", "list"]) (he : CE cf X W e fe)
    (hgI : Gl X "isinstance" := by rfl) (hg : Gl X xT := by rfl) (hn : xT ≠ "__name__" := by decide) (hd : (xT == ("__debug__" : Str)) = false := by decide) (hg2 : Gl X xU := by rfl) (hn2 : xU ≠ "__name__" := by decide) (hd2 : (xU == ("__debug__" : Str)) = false := by decide)
    (hs : starEach [e, .Tuple [.Name xT p2, .Name xU p3] k p4] X.env = (false, eval e X.env) :: starEach [.Tuple [.Name xT p2, .Name xU p3] k p4] X.env := by rfl) (hs2 : starEach [.Tuple [.Name xT p2, .Name xU p3] k p4] X.env = (false, eval (.Tuple [.Name xT p2, .Name xU p3] k p4) X.env) :: starEach [] X.env := by rfl)
    (ht : starEach [.Name xT p2, .Name xU p3] X.env = (false, eval (.Name xT p2) X.env) :: starEach [.Name xU p3] X.env := by rfl) (ht2 : starEach [.Name xU p3] X.env = (false, eval (.Name xU p3) X.env) :: starEach [] X.env := by rfl)
    (hpl : (backTo pos (starEach [.Tuple [.Name xT p2, .Name xU p3] k p4] X.env)).any (·.1) = false := by rfl) :
    CE cf X W (.Call (.Name "isinstance" p) [e, .Tuple [.Name xT p2, .Name xU p3] k p4] [] pos) (fIsi2 T U fe) := by
  obtain ⟨t, q, o⟩ := he.ex
  refine ⟨_, pe_callB call_isiT hgI hI boot_isinstance (pa_cons q (pa_cons (pe_tup (pa_cons (c_tyN hm hv hg hn hd) (pa_cons (c_tyN hm2 hv2 hg2 hn2 hd2) pa_nil ht2) ht)) pa_nil hs2) hs) (by decide) (by decide) hs hpl, fun ρ σ m H A Q S L P => ?_⟩
  refine o.then S L P fun x v m1 H1 A1 _ g1 L1 r P1 => ?_
  obtain ⟨h1, P1⟩ := post_if P1
  refine ⟨by show 2 ≤ sizeLine; decide, fun p hp => ?_⟩
  have g2 : Go cf m1 H1 m1 (upd H1 p (.tup [.ty T, .ty U])) A1 := go_side g1.sim hp
  rw [hK]
  refine ⟨v, p, [.ty T, .ty U], _, [.type T, .type U], _, rfl, upd_same, .cons (.ty T) (.cons (.ty U) .nil), tyX_ok g2.sim (r.mono g2.pre g2.fz) h1, ?_, P1 m1 _ _ g2 (.bl (isiT (tyS A1 x) T || isiT (tyS A1 x) U))⟩
  refine kitAny_cons (kit_ty (kit_names _ (tyS_in h1) T hT)) (fun e => ?_) (fun e => by rw [e]; rfl)
  rw [e, Bool.false_or]
  refine kitAny_cons (kit_ty (kit_names _ (tyS_in h1) U hU)) (fun e => ?_) (fun e => e)
  rw [e]
  exact kitAny_nil
end
end Dn

set_option maxRecDepth 100000
set_option maxHeartbeats 2000000
/-! Dn, part I: the defs of a text by their names; calls; small operators. -/
namespace Dn
open PySem L2 PyProof.Rows

section
variable {P : Program} {w : World} {cf : Cfg} {mg : Str → Option Value} {base : Heap}
/-- a def of the text -/
structure Raw (cf : Cfg) (mg : Str → Option Value) (x : Str) (st : Stmt) : Prop where
  ex : ∃ fa fd, Fun cf.K x x st fa fd ∧ mg x = some (.ref fa)
/-- a method of the text -/
structure RawM (cf : Cfg) (c : Nat) (m qual : Str) (st : Stmt) : Prop where
  ex : ∃ fa fd, Fun cf.K m qual st fa fd ∧ Meth cf.K (cf.cls c) m fa
/-- a def: what it computes -/
structure Df (P : Program) (w : World) (cf : Cfg) (mg : Str → Option Value) (base : Heap) (x : Str) (st : Stmt) (ps : List Str) (k : Nat) (G : FD) : Prop where
  ex : ∃ fa fd, Fun cf.K x x st fa fd ∧ mg x = some (.ref fa) ∧ FnOk P w cf.K mg base (L2.CX P w) k fa fd ps (spOf cf ps.length G)
structure Mf (P : Program) (w : World) (cf : Cfg) (mg : Str → Option Value) (base : Heap) (c : Nat) (m qual : Str) (st : Stmt) (ps : List Str) (k : Nat) (G : FD) : Prop where
  ex : ∃ fa fd, Fun cf.K m qual st fa fd ∧ Meth cf.K (cf.cls c) m fa ∧ FnOk P w cf.K mg base (L2.CX P w) k fa fd ps (spOf cf ps.length G)
/-- a class to make objects of -/
structure Mak (cf : Cfg) (mg : Str → Option Value) (x : Str) (c : Nat) : Prop where
  makes : PySem.W.makesIn cf.K (cf.cls c) = true
  keep : PySem.W.keepIn cf.K (.ref (cf.cls c)) = true
  gl : mg x = some (.ref (cf.cls c))
theorem df_of {x : Str} {st : Stmt} {N ps : List Str} {k : Nat} {fs : FS} {G : FD} (R : Raw cf mg x st) (S : FnScope N ps (defScope st)) (hG : RunOf N.length fs G)
    (hbody : ∀ (f : Addr) (cdv : Value) (A : Around) (outer : List Env) (s : Shared) (H : Hp) (E : XK), Room k (A.deeper (envOfC x (defScope st) s.heap.objs.size f cdv)) →
      CB cf (cxOf (L2.CX P w) P w cf.K mg base N x (defScope st) f cdv A outer s H E) (WD E) (defBody st) fs) : Df P w cf mg base x st ps (k + 1) G := by
  obtain ⟨fa, fd, F, hm⟩ := R.ex
  exact ⟨fa, fd, F, hm, ok_def hG F S fun cdv A outer s H E hr => hbody fa cdv A outer s H E hr⟩
theorem mf_of {c : Nat} {m qual : Str} {st : Stmt} {N ps : List Str} {k : Nat} {fs : FS} {G : FD} (R : RawM cf c m qual st) (S : FnScope N ps (defScope st)) (hG : RunOf N.length fs G)
    (hbody : ∀ (f : Addr) (cdv : Value) (A : Around) (outer : List Env) (s : Shared) (H : Hp) (E : XK), Room k (A.deeper (envOfC qual (defScope st) s.heap.objs.size f cdv)) →
      CB cf (cxOf (L2.CX P w) P w cf.K mg base N qual (defScope st) f cdv A outer s H E) (WD E) (defBody st) fs) : Mf P w cf mg base c m qual st ps (k + 1) G := by
  obtain ⟨fa, fd, F, hm⟩ := R.ex
  exact ⟨fa, fd, F, hm, ok_def hG F S fun cdv A outer s H E hr => hbody fa cdv A outer s H E hr⟩
end
/-- how a def binds as many values as it has parameters -/
def BindsT (x qual : Str) (st : Stmt) (ps : List Str) : Prop :=
  ∀ (kV doc pm : Value) (an : Option Addr) (cdv ct : Value) (us : List Value), us.length = ps.length → bindArgs (PySem.W.fnOf x qual (defArgs st) (defBody st) (defScope st) .none kV doc pm an cdv ct) ⟨us, []⟩ = pure (ps.zip us)
/-- the same by keywords ks alone; g puts their values in the parameters' order -/
def BindsKw (x qual : Str) (st : Stmt) (ps ks : List Str) (n : Nat) (g : {α : Type} → List α → List α → List α) : Prop :=
  ∀ (kV doc pm : Value) (an : Option Addr) (cdv ct : Value) (us ws : List Value), us.length = n → ws.length = ks.length → bindArgs (PySem.W.fnOf x qual (defArgs st) (defBody st) (defScope st) .none kV doc pm an cdv ct) ⟨us, ks.zip ws⟩ = pure (ps.zip (g us ws))

section
variable {cf : Cfg} {X : Cx} {W : WX}
theorem c_df {x : Str} {st : Stmt} {p pos : Pos} {e : Expr} {es : List Expr} {k j : Nat} {ps : List Str} {G : FD} {f : FA} (D : Df X.prog X.w cf X.mg X.base x st ps k G) (hb : BindsT x x st ps) (hK : X.K = cf.K) (hr : Room j X.A) (hj : k ≤ j) (tk : Takes X W) (ha : CA cf X W (e :: es) f)
    (hg : Gl X x := by rfl) (hdb : (x == ("__debug__" : Str)) = false := by decide) (he : starEach (e :: es) X.env = (false, eval e X.env) :: starEach es X.env := by rfl) (hpl : (backTo pos (starEach es X.env)).any (·.1) = false := by rfl) :
    CE cf X W (.Call (.Name x p) (e :: es) [] pos) (fCall ps.length G f) := by
  obtain ⟨fa, fd, F, hm, O⟩ := D.ex
  have hk := F.kp
  have hbn := F.binds hb
  rw [← hK] at O hk hbn
  exact c_call O (hr.mono hj) hm hk hbn tk ha hg hdb he hpl
theorem c_mf {E : XK} {o e : Expr} {es : List Expr} {c : Nat} {m qual : Str} {st : Stmt} {apos pos : Pos} {pl : Sem Bool} {k j : Nat} {ps : List Str} {G : FD} {fo : FE} {fa : FA} (D : Mf X.prog X.w cf X.mg X.base c m qual st ps k G) (hb : BindsT m qual st ps) (cl : Cls cf.K (cf.cls c)) (hno : m ∉ cf.nam c) (hK : X.K = cf.K) (hr : Room j X.A) (hj : k ≤ j) (tk : Takes X (WD E)) (ho : CE cf X (WD E) o fo) (ha : CA cf X (WD E) (e :: es) fa)
    (hst : starEach (e :: es) X.env = (false, eval e X.env) :: starEach es X.env := by rfl) (hpl : (backTo pos (starEach es X.env)).any (·.1) = false := by rfl)
    (ht : eval (.Call (.Attribute o m apos) (e :: es) [] pos) X.env = (do
      let ov ← eval o X.env
      standAt apos.atName
      let (f, first) ← holding [ov] (getMethod ov m pl)
      callWith pos f first (backTo pos (starEach (e :: es) X.env)) (backToKw pos (keywordEach [] X.env))) := by rfl) :
    CE cf X (WD E) (.Call (.Attribute o m apos) (e :: es) [] pos) (fMth c ps.length G fo fa) := by
  obtain ⟨g, fd, F, hm, O⟩ := D.ex
  have hbn := F.binds hb
  rw [← hK] at O hm hbn cl
  exact c_mth hK cl hm O (hr.mono hj) hbn tk hno ho ha hst hpl ht
theorem c_mf0 {E : XK} {o : Expr} {c : Nat} {m qual : Str} {st : Stmt} {apos pos : Pos} {pl : Sem Bool} {k j : Nat} {ps : Str} {G : FD} {fo : FE} (D : Mf X.prog X.w cf X.mg X.base c m qual st [ps] k G) (hb : BindsT m qual st [ps]) (cl : Cls cf.K (cf.cls c)) (hno : m ∉ cf.nam c) (hK : X.K = cf.K) (hr : Room j X.A) (hj : k ≤ j) (tk : Takes X (WD E)) (ho : CE cf X (WD E) o fo)
    (ht : eval (.Call (.Attribute o m apos) [] [] pos) X.env = (do
      let ov ← eval o X.env
      standAt apos.atName
      let (f, first) ← holding [ov] (getMethod ov m pl)
      callWith pos f first (backTo pos (starEach [] X.env)) (backToKw pos (keywordEach [] X.env))) := by rfl) :
    CE cf X (WD E) (.Call (.Attribute o m apos) [] [] pos) (fMth c 1 G fo fNil) := by
  obtain ⟨g, fd, F, hm, O⟩ := D.ex
  have hbn := F.binds hb
  rw [← hK] at O hm hbn cl
  exact c_mth0 hK cl hm O (hr.mono hj) hbn tk hno ho ht
theorem mk_of {x : Str} {c : Nat} {f : Addr} (M : Mak cf X.mg x c) (hK : X.K = cf.K) (hm : Meth cf.K (cf.cls c) "__init__" f) : Mk X.K (cf.cls c) f := by
  rw [hK]
  exact ⟨M.makes, hm.at_, hm.fn, M.keep⟩
theorem c_mk {E : XK} {x qual : Str} {st : Stmt} {p pos : Pos} {e : Expr} {es : List Expr} {k j c : Nat} {ps : List Str} {G : FD} {fa : FA} (o0 : AO) (ho0 : o0 = .ins c [] ∨ o0 = .slt c []) (D : Mf X.prog X.w cf X.mg X.base c "__init__" qual st ps k G) (M : Mak cf X.mg x c) (hb : BindsT "__init__" qual st ps) (hK : X.K = cf.K) (hr : Room j X.A) (hj : k + 1 ≤ j) (tk : Takes X (WD E)) (ha : CA cf X (WD E) (e :: es) fa)
    (hg : Gl X x := by rfl) (hdb : (x == ("__debug__" : Str)) = false := by decide) (he : starEach (e :: es) X.env = (false, eval e X.env) :: starEach es X.env := by rfl) (hpl : (backTo pos (starEach es X.env)).any (·.1) = false := by rfl) :
    CE cf X (WD E) (.Call (.Name x p) (e :: es) [] pos) (fMake o0 ps.length G fa) := by
  obtain ⟨g, fd, F, hm, O⟩ := D.ex
  have hbn := F.binds hb
  rw [← hK] at O hbn
  exact c_make ho0 (mk_of M hK hm) O (hr.mono hj) M.gl hbn tk ha hg hdb he hpl

/-! ### keywords alone -/
structure CK (cf : Cfg) (X : Cx) (W : WX) (kws : List Keyword) (f : FA) : Prop where
  ex : ∃ t, PK X kws t ∧ AOk cf W t f
theorem ck_nil : CK cf X W [] fNil := ⟨_, pk_nil, ok_nil⟩
theorem ck_cons {nm : Option Str} {e : Expr} {kpos : Pos} {kws : List Keyword} {f : FE} {g : FA} (h : CE cf X W e f) (k : CK cf X W kws g) : CK cf X W (⟨nm, e, kpos⟩ :: kws) (fCons f g) := by
  obtain ⟨t, p, o⟩ := h.ex
  obtain ⟨u, p', o'⟩ := k.ex
  exact ⟨_, pk_cons p p', ok_cons o o'⟩
/-- the values of keywords put in the parameters' order -/
def perm (ix : List Nat) {α : Type} (us ws : List α) : List α := us ++ ix.filterMap fun i => ws[i]?
theorem vals_perm : ∀ (ix : List Nat) {zs : List V} {ws : List Value}, Vals zs ws → Vals (ix.filterMap fun i => zs[i]?) (ix.filterMap fun i => ws[i]?)
  | [], _, _, _ => .nil
  | i :: ix, zs, ws, r => by
    have ih := vals_perm ix r
    rw [List.filterMap_cons, List.filterMap_cons]
    cases e : zs[i]? with
    | none =>
      have h : ws[i]? = none := by
        rw [List.getElem?_eq_none_iff] at e ⊢
        rw [← r.length]
        exact e
      rw [h]
      exact ih
    | some v =>
      obtain ⟨u, hu, ru⟩ := r.get e
      rw [hu]
      exact .cons ru ih
theorem vals_app : ∀ {vs zs : List V} {us ws : List Value}, Vals vs us → Vals zs ws → Vals (vs ++ zs) (us ++ ws)
  | _, _, _, _, .nil, s => s
  | _, _, _, _, .cons r t, s => .cons r (vals_app t s)
theorem RelAs.perm {K : PySem.W.Frag} {m : List Addr} {H : Hp} : ∀ (ix : List Nat) {zs : List AV} {ws : List V}, RelAs K m H zs ws → RelAs K m H (ix.filterMap fun i => zs[i]?) (ix.filterMap fun i => ws[i]?)
  | [], _, _, _ => .nil
  | i :: ix, zs, ws, r => by
    have ih := RelAs.perm ix r
    rw [List.filterMap_cons, List.filterMap_cons]
    cases e : zs[i]? with
    | none =>
      have h : ws[i]? = none := by
        rw [List.getElem?_eq_none_iff] at e ⊢
        rw [← r.length]
        exact e
      rw [h]
      exact ih
    | some v =>
      obtain ⟨u, hu, ru⟩ := r.get e
      rw [hu]
      exact .cons ru ih
/-- a def's call, the values in the parameters' order -/
def gOrd (l m : Nat) (ix : List Nat) (G : FD) : List AV → FD := fun as bs A => if bs.length = m ∧ (perm ix as bs).length = l then G (perm ix as bs) A else .er
def fCallK (l m : Nat) (ix : List Nat) (G : FD) (fk : FA) : FE := fun ρ A => (fk ρ A).bind fun bs A => gOrd l m ix G [] bs A
/-- a call by keywords of the object at g, first the values vs -/
theorem run_kw {x qual : Str} {st : Stmt} {k j n : Nat} {ps ks : List Str} {G : FD} {ix : List Nat} {g : Addr} {fd : FuncData} {E : L2.St → XK} {pins : List (Addr × Obj)} {σ : L2.St} {H : Hp} {s : Shared} {Q : VK} {us ws : List Value} {vs zs : List V}
    (F : Fun cf.K x qual st g fd) (O : FnOk X.prog X.w X.K X.mg X.base (L2.CX X.prog X.w) k g fd ps (spOf cf ps.length G)) (hb : BindsKw x qual st ps ks n (perm ix)) (hr : Room k X.A) (hx : PassesAt (L2.CX X.prog X.w) X σ (E σ)) (I : Inv X pins σ H s) (r : Vals vs us) (rz : Vals zs ws) (l1 : vs.length = n) (l2 : zs.length = ks.length)
    (l3 : (perm ix vs zs).length = ps.length) (q : spOf cf ps.length G (perm ix vs zs) H Q (E σ)) : wpAny (model X.prog X.w) X.A (call (.ref g) us (ks.zip ws)) (EP X pins σ Q) X.xe s := by
  have rg : Vals (perm ix vs zs) (perm ix us ws) := vals_app r (vals_perm ix rz)
  have hbt : BindsTo s fd ⟨us, ks.zip ws⟩ (ps.zip (perm ix us ws)) := by
    obtain ⟨oc, od, kV, doc, pm, an, cdv, ct, osl, rfl, lk, hcd⟩ := F.ex
    exact .of_eq (hb kV doc pm an cdv ct us ws (by rw [← r.length]; exact l1) (by rw [← rz.length]; exact l2))
  refine wpAny_call (codeAny_mono (O.run X.A X.stack s H ⟨us, ks.zip ws⟩ (perm ix us ws) (perm ix vs zs) Q (E σ) hr I.env0 hbt rg q) fun r s' hq => ?_)
  cases r with
  | error e => exact hx pins H s e s' I hq
  | ok fl =>
    cases fl with
    | ret u => exact I.after hq
    | next => exact False.elim hq
    | brk => exact False.elim hq
    | cont => exact False.elim hq
theorem c_dfK {x : Str} {st : Stmt} {p pos : Pos} {kws : List Keyword} {k j : Nat} {ps : List Str} {G : FD} {fk : FA} (ks : List Str) (ix : List Nat) (D : Df X.prog X.w cf X.mg X.base x st ps k G) (hb : BindsKw x x st ps ks 0 (perm ix)) (hK : X.K = cf.K) (hr : Room j X.A) (hj : k ≤ j) (tk : Takes X W) (ha : CK cf X W kws fk)
    (hall : (backToKw pos (keywordEach kws X.env)).all (·.1.isSome) = true := by rfl) (hks : (backToKw pos (keywordEach kws X.env)).filterMap (·.1) = ks := by rfl)
    (hg : Gl X x := by rfl) (hdb : (x == ("__debug__" : Str)) = false := by decide)
    (hpl : ((backTo pos (starEach [] X.env)).any (·.1) || (backToKw pos (keywordEach kws X.env)).any (·.1.isNone)) = false := by rfl) :
    CE cf X W (.Call (.Name x p) [] kws pos) (fCallK ps.length ks.length ix G fk) := by
  obtain ⟨fa, fd, F, hm, O⟩ := D.ex
  obtain ⟨t, hkw, o⟩ := ha.ex
  have hk := F.kp
  rw [← hK] at O hk
  refine ⟨fun σ H Q => t σ H fun zs H2 => zs.length = ks.length ∧ (perm ix [] zs).length = ps.length ∧ spOf cf ps.length G (perm ix [] zs) H2 Q (WE W σ), ⟨fun pins s σ H Q I h => ?_⟩, fun ρ σ m H A Q S L P => ?_⟩
  · refine wpAny_Call_Name_kw (ld_glob I hg hm ?_ hdb)
    refine PySem.W.callWith_KW0 (h₀ := X.base) I.ok.mod.kin hk hall ?_ hpl
    refine thn (hkw.run pos pins s σ H _ I h) fun ws s2 ⟨zs, H2, I2, rz, l2, l3, q2⟩ => ⟨I2.kIn, ?_⟩
    rw [hks]
    exact run_kw (us := []) (vs := []) (E := fun σ => WE W σ) (j := 0) F O hb (hr.mono hj) (passAt tk σ) I2 .nil rz rfl l2 l3 q2
  · refine o.then S L P fun bs zs m1 H1 A1 _ g1 L1 r P1 => ?_
    obtain ⟨⟨h2, h3⟩, P1⟩ := post_if P1
    have rr : RelAs cf.K m1 H1 (perm ix [] bs) (perm ix [] zs) := RelAs.app .nil (RelAs.perm ix r)
    exact ⟨by rw [← r.length]; exact h2, by rw [← rr.length]; exact h3, m1, A1, _, g1.sim, rr, h3, post_w P1⟩
/-- C(k = v, ..) -/
def fMakeK (o0 : AO) (l m : Nat) (ix : List Nat) (G : FD) (fk : FA) : FE := fun ρ A => (fk ρ A).bind fun bs A => (gOrd l m ix G [.obj A.length] bs (A ++ [o0])).bind fun v B => match v with
  | .non => .ok (.obj A.length) B
  | _ => .er
theorem c_mkK {E : XK} {x qual : Str} {st : Stmt} {p pos : Pos} {kws : List Keyword} {k j c : Nat} {ps : List Str} {G : FD} {fk : FA} (o0 : AO) (ks : List Str) (ix : List Nat) (ho0 : o0 = .ins c [] ∨ o0 = .slt c []) (D : Mf X.prog X.w cf X.mg X.base c "__init__" qual st ps k G) (M : Mak cf X.mg x c) (hb : BindsKw "__init__" qual st ps ks 1 (perm ix)) (hK : X.K = cf.K) (hr : Room j X.A) (hj : k + 1 ≤ j) (tk : Takes X (WD E)) (ha : CK cf X (WD E) kws fk)
    (hall : (backToKw pos (keywordEach kws X.env)).all (·.1.isSome) = true := by rfl) (hks : (backToKw pos (keywordEach kws X.env)).filterMap (·.1) = ks := by rfl)
    (hg : Gl X x := by rfl) (hdb : (x == ("__debug__" : Str)) = false := by decide)
    (hpl : ((backTo pos (starEach [] X.env)).any (·.1) || (backToKw pos (keywordEach kws X.env)).any (·.1.isNone)) = false := by rfl) :
    CE cf X (WD E) (.Call (.Name x p) [] kws pos) (fMakeK o0 ps.length ks.length ix G fk) := by
  obtain ⟨fi, fd, F, hm, O⟩ := D.ex
  obtain ⟨t, hkw, o⟩ := ha.ex
  have hMk := mk_of M hK hm
  rw [← hK] at O
  have hM := M.gl
  refine ⟨fun σ H Q => t σ H fun zs H2 => zs.length = ks.length ∧ ∀ y dx, H2 y = none → H2 dx = none → dx ≠ y → (perm ix [V.ref y] zs).length = ps.length ∧ spOf cf ps.length G (perm ix [V.ref y] zs) (upd (upd H2 dx (.own y)) y (.ins (cf.cls c) dx [])) (fun v H3 => v = .non ∧ Q (.ref y) H3) E,
    ⟨fun pins s σ H Q I h => ?_⟩, fun ρ σ m H A Q S L P => ?_⟩
  · refine wpAny_Call_Name_kw (ld_glob I hg hM ?_ hdb)
    refine PySem.W.callWith_KW0 (h₀ := X.base) I.ok.mod.kin hMk.kp hall ?_ hpl
    refine thn (hkw.run pos pins s σ H _ I h) fun ws s2 ⟨zs, H2, I2, rz, l2, q2⟩ => ⟨I2.kIn, ?_⟩
    rw [hks]
    obtain ⟨l3, hq⟩ := q2 (s2.heap.objs.size + 1) s2.heap.objs.size (I2.hok.fresh (Nat.le_succ _)) (I2.hok.fresh (Nat.le_refl _)) (Nat.ne_of_lt (Nat.lt_succ_self _))
    have I3 := Inv.made (C := cf.cls c) I2
    have r1 : Vals [V.ref (s2.heap.objs.size + 1)] [Value.ref (s2.heap.objs.size + 1)] := .cons rfl .nil
    have rg : Vals (perm ix [V.ref (s2.heap.objs.size + 1)] zs) (perm ix [Value.ref (s2.heap.objs.size + 1)] ws) := vals_app r1 (vals_perm ix rz)
    refine wpAny_call (make_map (f := fi) I2.kIn hMk.makes hMk.init (beq_iff_eq.mp hMk.fn) (codeAny_mono (O.run _ X.stack _ _ ⟨[Value.ref (s2.heap.objs.size + 1)], ks.zip ws⟩ (perm ix [Value.ref (s2.heap.objs.size + 1)] ws) _ _ E ((hr.mono hj).make (cf.cls c) [] (ks.zip ws))
      (I3.env0.make (cf.cls c) [] (ks.zip ws)) ?_ rg hq) fun r s' hq' => ?_))
    · obtain ⟨oc, od, kV, doc, pm, an, cdv, ct, osl, rfl, lk, hcd⟩ := F.ex
      exact .of_eq (hb kV doc pm an cdv ct _ ws rfl (by rw [← rz.length]; exact l2))
    · cases r with
      | error e => exact (passW (W := WD E) tk) pins σ _ _ e s' I3 hq'
      | ok fl =>
        cases fl with
        | ret u =>
          obtain ⟨v, H', I4, rv, ev, q3⟩ := I3.after hq'
          subst ev
          exact ⟨rv, ⟨V.ref (s2.heap.objs.size + 1), H', I4, rfl, q3⟩⟩
        | next => exact False.elim hq'
        | brk => exact False.elim hq'
        | cont => exact False.elim hq'
  · refine o.then S L P fun bs zs m1 H1 A1 _ g1 L1 r P1 => ?_
    have h2 : bs.length = ks.length ∧ (perm ix [AV.obj A1.length] bs).length = ps.length := by
      by_cases hc : bs.length = ks.length ∧ (perm ix [AV.obj A1.length] bs).length = ps.length
      · exact hc
      · exfalso
        unfold gOrd at P1
        rw [if_neg hc] at P1
        exact P1
    refine ⟨by rw [← r.length]; exact h2.1, fun y dx hy hd ne => ?_⟩
    have gm : Go cf m1 H1 (m1 ++ [y]) (upd (upd H1 dx (.own y)) y (.ins (cf.cls c) dx [])) (A1 ++ [o0]) := by
      rcases ho0 with z | z
      · subst z
        exact made_ins g1.sim hy hd ne
      · subst z
        exact made_slt g1.sim hy hd ne
    have hk : (m1 ++ [y])[A1.length]? = some y := by
      rw [← g1.sim.len, List.getElem?_append_right (Nat.le_refl _)]
      simp
    have rr : RelAs cf.K (m1 ++ [y]) (upd (upd H1 dx (.own y)) y (.ins (cf.cls c) dx [])) (perm ix [AV.obj A1.length] bs) (perm ix [V.ref y] zs) := RelAs.app (.cons (.obj hk) .nil) (RelAs.perm ix (r.mono gm.pre gm.fz))
    refine ⟨by rw [← rr.length]; exact h2.2, _, _, _, gm.sim, rr, h2.2, ?_⟩
    have P2 := Post.mono gm P1
    unfold gOrd at P2
    rw [if_pos h2] at P2
    cases eg : G (perm ix [AV.obj A1.length] bs) (A1 ++ [o0]) with
    | ok v B =>
      rw [eg] at P2
      intro m2 H2 u g2 ru
      have P3 := Post.mono g2 P2
      simp only [Res.bind_ok] at P3
      split at P3
      · exact ⟨ru.to_non, P3 m2 H2 _ (Go.refl g2.sim) (.obj (g2.pre _ _ hk))⟩
      · exact P3.elim
    | exc ex B =>
      rw [eg] at P2
      exact P2
    | er =>
      rw [eg] at P2
      exact P2.elim

/-! ### methods of a class with slots -/
def fMthS (c : Nat) (n : Nat) (G : FD) (fo : FE) (fa : FA) : FE := fun ρ A => (fo ρ A).bind fun x A => match x with
  | .obj k => match A[k]? with
    | some (.slt c' _) => if c' = c then (fa ρ A).bind fun as A => if as.length + 1 = n then G (.obj k :: as) A else .er else .er
    | _ => .er
  | _ => .er
theorem fnR_of {k : Nat} {f : Addr} {fd : FuncData} {ps : List Str} {sp : Sp} (F : FnOk X.prog X.w X.K X.mg X.base (L2.CX X.prog X.w) k f fd ps sp) (hb : L2.Binds X.K fd ps []) : L2.FnR X.prog X.w X.K X.mg X.base (L2.CX X.prog X.w) k f sp := by
  have h := F.raw hb .nil
  simpa using h
theorem c_sm {E : XK} {o e : Expr} {es : List Expr} {c : Nat} {m qual : Str} {st : Stmt} {apos pos : Pos} {pl : Sem Bool} {k j : Nat} {ps : List Str} {G : FD} {fo : FE} {fa : FA} (D : Mf X.prog X.w cf X.mg X.base c m qual st ps k G) (hb : BindsT m qual st ps) (cl : SlX.SCls cf.K (cf.cls c)) (hK : X.K = cf.K) (hr : Room j X.A) (hj : k ≤ j) (tk : Takes X (WD E)) (ho : CE cf X (WD E) o fo) (ha : CA cf X (WD E) (e :: es) fa)
    (hst : starEach (e :: es) X.env = (false, eval e X.env) :: starEach es X.env := by rfl) (hpl : (backTo pos (starEach es X.env)).any (·.1) = false := by rfl)
    (ht : eval (.Call (.Attribute o m apos) (e :: es) [] pos) X.env = (do
      let ov ← eval o X.env
      standAt apos.atName
      let (f, first) ← holding [ov] (getMethod ov m pl)
      callWith pos f first (backTo pos (starEach (e :: es) X.env)) (backToKw pos (keywordEach [] X.env))) := by rfl) :
    CE cf X (WD E) (.Call (.Attribute o m apos) (e :: es) [] pos) (fMthS c ps.length G fo fa) := by
  obtain ⟨g, fd, F, hm, O⟩ := D.ex
  have hbn := F.binds hb
  rw [← hK] at O hm hbn cl
  obtain ⟨t, p, q⟩ := ho.ex
  obtain ⟨t2, p2, q2⟩ := ha.ex
  refine ⟨_, SlX.pe_methSl p cl hm (fnR_of O hbn) (hr.mono hj) (passW (W := WD E) tk) p2 hst hpl ht, fun ρ σ mm H A Q S L P => ?_⟩
  refine q.then S L P fun x v m1 H1 A1 ea g1 L1 r1 P1 => ?_
  split at P1
  · rename_i k'
    split at P1
    · rename_i c' fs e1
      obtain ⟨hc, P1b⟩ := post_if P1
      subst hc
      obtain ⟨a, rfl, hm1, dx, vs, ne, hq, r⟩ := g1.sim.obj r1 e1
      refine ⟨a, dx, vs, rfl, slt_of (m := m1) hq, ?_⟩
      refine q2.then g1.sim L1 P1b fun as us m2 H2 A2 _ g2 L2 r2 P2 => ?_
      obtain ⟨hl2, P2⟩ := post_if P2
      exact ⟨m2, A2, _, g2.sim, .cons (RelA.mono g2.pre g2.fz r1) r2, hl2, post_wd P2⟩
    · exact P1.elim
  · exact P1.elim
/-- o.m(k = v, ..), o of a class with slots or not (sl) -/
def fMthK (sl : Bool) (c l m : Nat) (ix : List Nat) (G : FD) (fo : FE) (fk : FA) : FE := fun ρ A => (fo ρ A).bind fun x A => match x with
  | .obj k => match A[k]? with
    | some (.slt c' _) => if c' = c ∧ sl = true then (fk ρ A).bind fun bs A => gOrd l m ix G [.obj k] bs A else .er
    | some (.ins c' _) => if c' = c ∧ sl = false then (fk ρ A).bind fun bs A => gOrd l m ix G [.obj k] bs A else .er
    | _ => .er
  | _ => .er
def KindC (cf : Cfg) (sl : Bool) (c : Nat) (m : Str) : Prop := match sl with
  | true => SlX.SCls cf.K (cf.cls c)
  | false => Cls cf.K (cf.cls c) ∧ m ∉ cf.nam c
theorem c_mfK {E : XK} {o : Expr} {kws : List Keyword} {c : Nat} {m qual : Str} {st : Stmt} {apos pos : Pos} {pl : Sem Bool} {k j : Nat} {ps : List Str} {G : FD} {fo : FE} {fk : FA} (sl : Bool) (ks : List Str) (ix : List Nat) (D : Mf X.prog X.w cf X.mg X.base c m qual st ps k G) (hb : BindsKw m qual st ps ks 1 (perm ix)) (cl : KindC cf sl c m) (hK : X.K = cf.K) (hr : Room j X.A) (hj : k ≤ j) (tk : Takes X (WD E)) (ho : CE cf X (WD E) o fo) (ha : CK cf X (WD E) kws fk)
    (hall : (backToKw pos (keywordEach kws X.env)).all (·.1.isSome) = true := by rfl) (hks : (backToKw pos (keywordEach kws X.env)).filterMap (·.1) = ks := by rfl)
    (hpl : ((backTo pos (starEach [] X.env)).any (·.1) || (backToKw pos (keywordEach kws X.env)).any (·.1.isNone)) = false := by rfl)
    (ht : eval (.Call (.Attribute o m apos) [] kws pos) X.env = (do
      let ov ← eval o X.env
      standAt apos.atName
      let (f, first) ← holding [ov] (getMethod ov m pl)
      callWith pos f first (backTo pos (starEach [] X.env)) (backToKw pos (keywordEach kws X.env))) := by rfl) :
    CE cf X (WD E) (.Call (.Attribute o m apos) [] kws pos) (fMthK sl c ps.length ks.length ix G fo fk) := by
  obtain ⟨g, fd, F, hm, O⟩ := D.ex
  obtain ⟨t, p, q⟩ := ho.ex
  obtain ⟨t2, p2, q2⟩ := ha.ex
  rw [← hK] at O hm
  refine ⟨fun σ H Q => t σ H fun x H1 => ∃ a, x = V.ref a ∧ ((sl = true ∧ ∃ dx vs, SlX.Slt H1 a (cf.cls c) dx vs) ∨ (sl = false ∧ ∃ dx fs, H1 a = some (.ins (cf.cls c) dx fs) ∧ fs.lookup m = none)) ∧
    t2 σ H1 fun zs H2 => zs.length = ks.length ∧ (perm ix [V.ref a] zs).length = ps.length ∧ spOf cf ps.length G (perm ix [V.ref a] zs) H2 Q E, ⟨fun pins s σ H Q I h => ?_⟩, fun ρ σ mm H A Q S L P => ?_⟩
  · refine PySem.W.methodCall_KW (pl := pl) (thn (p.run pins s σ H _ I h) fun u s1 ⟨x, H1, I1, rx, a, ex, hsl, q⟩ => ?_) ht
    subst ex
    obtain rfl : u = Value.ref a := rx
    have key : ∀ {QQ : Value × List Value → Shared → Prop}, QQ (.ref g, [.ref a]) s1 → wpAny (model X.prog X.w) X.A (getMethod (.ref a) m pl) QQ X.xe s1 := fun {QQ} hq => by
      rcases hsl with ⟨rfl, dx, vs, hsl⟩ | ⟨rfl, dx, fs, hin, hl⟩
      · have cl' : SlX.SCls cf.K (cf.cls c) := cl
        rw [← hK] at cl'
        exact SlX.getmethsl_ok I1 hsl cl' hm hq
      · have cl' : Cls cf.K (cf.cls c) ∧ m ∉ cf.nam c := cl
        rw [← hK] at cl'
        exact getmeth_ok I1 hin cl'.1 hm hl hq
    refine key ?_
    refine PySem.W.callWith_KW0 (first := [.ref a]) (h₀ := X.base) I.ok.mod.kin hm.kp hall ?_ hpl
    refine thn (p2.run pos pins s1 σ H1 _ I1 q) fun ws s2 ⟨zs, H2, I2, rz, l2, l3, q2⟩ => ⟨I2.kIn, ?_⟩
    rw [hks]
    exact run_kw (us := [.ref a]) (vs := [.ref a]) (E := fun _ => E) (j := 0) F O hb (hr.mono hj) (fun p' H' s' e s'' I' c' => (passW (W := WD E) tk) p' σ H' s' e s'' I' c') I2 (.cons rfl .nil) rz rfl l2 l3 q2
  · refine q.then S L P fun x v m1 H1 A1 ea g1 L1 r1 P1 => ?_
    split at P1
    · rename_i k'
      have fin : ∀ a, RelA cf.K m1 H1 (.obj k') (.ref a) → Post cf (WD E) (rA cf) m1 H1 σ Q ((fk ρ A1).bind fun bs A => gOrd ps.length ks.length ix G [.obj k'] bs A) → t2 σ H1 fun zs H2 => zs.length = ks.length ∧ (perm ix [V.ref a] zs).length = ps.length ∧ spOf cf ps.length G (perm ix [V.ref a] zs) H2 Q E := fun a ra P2 => by
        refine q2.then g1.sim L1 P2 fun bs zs m2 H2 A2 _ g2 L2 r2 P3 => ?_
        obtain ⟨⟨h2, h3⟩, P3⟩ := post_if P3
        have rr : RelAs cf.K m2 H2 (perm ix [AV.obj k'] bs) (perm ix [V.ref a] zs) := RelAs.app (.cons (RelA.mono g2.pre g2.fz ra) .nil) (RelAs.perm ix r2)
        exact ⟨by rw [← r2.length]; exact h2, by rw [← rr.length]; exact h3, m2, A2, _, g2.sim, rr, h3, post_wd P3⟩
      split at P1
      · rename_i c' fs e1
        obtain ⟨⟨hc, hs⟩, P1b⟩ := post_if P1
        subst hc
        obtain ⟨a, rfl, hm1, dx, vs, ne, hq, r⟩ := g1.sim.obj r1 e1
        exact ⟨a, rfl, .inl ⟨hs, dx, vs, slt_of (m := m1) hq⟩, fin a r1 P1b⟩
      · rename_i c' fs e1
        obtain ⟨⟨hc, hs⟩, P1b⟩ := post_if P1
        subst hc
        obtain ⟨a, rfl, hm1, dx, vs, h3, hl, r⟩ := g1.sim.obj r1 e1
        subst hs
        have cl' : Cls cf.K (cf.cls c') ∧ m ∉ cf.nam c' := cl
        exact ⟨a, rfl, .inr ⟨rfl, dx, _, h3, zip_none cl'.2⟩, fin a r1 P1b⟩
      · exact P1.elim
    · exact P1.elim
/-! ### never come to; small operators -/
theorem pe_nv {e : Expr} : PE X e (fun _ _ _ => False) := ⟨fun _ _ _ _ _ _ h => h.elim⟩
def fErE : FE := fun _ _ => .er
theorem c_never {e : Expr} : CE cf X W e fErE := ⟨_, pe_nv, fun ρ σ m H A Q S L P => P⟩
def gNeg : AV → AH → Res AV := fun x A => match x with
  | .int i => .ok (.int (-i)) A
  | _ => .er
def f1 (g : AV → AH → Res AV) (fa : FE) : FE := fun ρ A => (fa ρ A).bind fun x A => g x A
theorem c_neg {a : Expr} {pos : Pos} {fa : FE} (h : CE cf X W a fa) : CE cf X W (.UnaryOp .USub a pos) (f1 gNeg fa) := by
  obtain ⟨t, p, o⟩ := h.ex
  refine ⟨_, pe_un un_neg p, fun ρ σ m H A Q S L P => ?_⟩
  refine o.then S L P fun x v m1 H1 A1 e1 g1 L1 r P1 => ?_
  clear e1
  unfold gNeg at P1
  split at P1
  · exact ⟨_, r.to_int, P1 m1 H1 _ (Go.refl g1.sim) (.int _)⟩
  · exact P1.elim
end
end Dn

set_option maxRecDepth 100000
set_option maxHeartbeats 2000000
/-! Dn, part J: data: sums, any, all, least and greatest, sorted, removed; comparisons. -/
namespace Dn
open PySem L2 PyProof.Rows

section
variable {cf : Cfg} {X : Cx} {W : WX}
/-- a list's items (no tuple's) -/
def lsAt (A : AH) : AV → Option (List AV)
  | .obj n => match A[n]? with
    | some (.lst xs) => some xs
    | _ => none
  | .scr ns => some (ns.map AV.int)
  | _ => none
theorem lsAt_ok {m : List Addr} {H : Hp} {A : AH} {x : AV} {v : V} {xs : List AV} (S : Sim cf m H A) (r : RelA cf.K m H x v) (h : lsAt A x = some xs) : ∃ a vs, v = .ref a ∧ SqL cf.K H a vs ∧ RelAs cf.K m H xs vs := by
  cases x with
  | obj n =>
    obtain ⟨_, a, ws, _, e1, _, e3, r'⟩ := lstAt_ok S r (show lstAt A (.obj n) = some xs from h)
    exact ⟨a, ws, e1, SqL.of e3, r'⟩
  | scr ns =>
    cases h
    cases r with
    | scr h => exact ⟨_, _, rfl, h.sq, RelAs.ints ns⟩
  | _ => cases h
def asI : AV → Option Int
  | .int i => some i
  | _ => none
def asBo : AV → Option Bool
  | .bl i => some i
  | _ => none
theorem asI_all {K : PySem.W.Frag} {m : List Addr} {H : Hp} : ∀ {xs : List AV} {vs : List V} {ns : List Int}, RelAs K m H xs vs → mapO asI xs = some ns → vs = ns.map V.int
  | [], _, ks, r, h => by
    cases h
    cases r
    rfl
  | x :: xs, _, ks, r, h => by
    obtain ⟨k, es, h1, h2, rfl⟩ := mapO_cons h
    cases r with
    | cons r1 r2 =>
      cases x with
      | int i =>
        cases h1
        rw [r1.to_int, asI_all r2 h2]
        rfl
      | _ => cases h1
theorem asB_all {K : PySem.W.Frag} {m : List Addr} {H : Hp} : ∀ {xs : List AV} {vs : List V} {ns : List Bool}, RelAs K m H xs vs → mapO asBo xs = some ns → vs = ns.map V.bl
  | [], _, ks, r, h => by
    cases h
    cases r
    rfl
  | x :: xs, _, ks, r, h => by
    obtain ⟨k, es, h1, h2, rfl⟩ := mapO_cons h
    cases r with
    | cons r1 r2 =>
      cases x with
      | bl i =>
        cases h1
        rw [r1.to_bl, asB_all r2 h2]
        rfl
      | _ => cases h1
/-- the ints of a list -/
def ilAt (A : AH) (x : AV) : Option (List Int) := (lsAt A x).bind (mapO asI)
theorem ilAt_ok {m : List Addr} {H : Hp} {A : AH} {x : AV} {v : V} {ns : List Int} (S : Sim cf m H A) (r : RelA cf.K m H x v) (h : ilAt A x = some ns) : ∃ a, v = .ref a ∧ SqL cf.K H a (ns.map V.int) := by
  unfold ilAt at h
  rw [Option.bind_eq_some_iff] at h
  obtain ⟨xs, h1, h2⟩ := h
  obtain ⟨a, vs, rfl, hs, r2⟩ := lsAt_ok S r h1
  rw [asI_all r2 h2] at hs
  exact ⟨a, rfl, hs⟩
def blAt (A : AH) (x : AV) : Option (List Bool) := (lsAt A x).bind (mapO asBo)
theorem blAt_ok {m : List Addr} {H : Hp} {A : AH} {x : AV} {v : V} {ns : List Bool} (S : Sim cf m H A) (r : RelA cf.K m H x v) (h : blAt A x = some ns) : ∃ a, v = .ref a ∧ SqL cf.K H a (ns.map V.bl) := by
  unfold blAt at h
  rw [Option.bind_eq_some_iff] at h
  obtain ⟨xs, h1, h2⟩ := h
  obtain ⟨a, vs, rfl, hs, r2⟩ := lsAt_ok S r h1
  rw [asB_all r2 h2] at hs
  exact ⟨a, rfl, hs⟩
def gSum : FD := fun xs A => match xs with
  | [x] => match ilAt A x with
    | some ns => .ok (.int ns.sum) A
    | none => .er
  | _ => .er
theorem ok_sum : CbOk cf (rSum cf.K) gSum := fun W m H A σ Q xs vs S r P => by
  unfold gSum at P
  split at P
  · split at P
    · rename_i e
      obtain ⟨v, rfl, q⟩ := r.one
      obtain ⟨a, rfl, hs⟩ := ilAt_ok S q e
      exact ⟨a, _, rfl, hs, P m H _ (Go.refl S) (.int _)⟩
    · exact P.elim
  · exact P.elim
def gAny : FD := fun xs A => match xs with
  | [x] => match blAt A x with
    | some ns => .ok (.bl (ns.any id)) A
    | none => .er
  | _ => .er
theorem ok_any : CbOk cf (rAny cf.K) gAny := fun W m H A σ Q xs vs S r P => by
  unfold gAny at P
  split at P
  · split at P
    · rename_i e
      obtain ⟨v, rfl, q⟩ := r.one
      obtain ⟨a, rfl, hs⟩ := blAt_ok S q e
      exact ⟨a, _, rfl, hs, P m H _ (Go.refl S) (.bl _)⟩
    · exact P.elim
  · exact P.elim
def gAll : FD := fun xs A => match xs with
  | [x] => match blAt A x with
    | some ns => .ok (.bl (ns.all id)) A
    | none => .er
  | _ => .er
theorem ok_all : CbOk cf (rAll cf.K) gAll := fun W m H A σ Q xs vs S r P => by
  unfold gAll at P
  split at P
  · split at P
    · rename_i e
      obtain ⟨v, rfl, q⟩ := r.one
      obtain ⟨a, rfl, hs⟩ := blAt_ok S q e
      exact ⟨a, _, rfl, hs, P m H _ (Go.refl S) (.bl _)⟩
    · exact P.elim
  · exact P.elim

/-! ### sorted -/
def insI (x : Int) : List Int → List Int
  | [] => [x]
  | y :: ys => if x ≤ y then x :: y :: ys else y :: insI x ys
def srtI : List Int → List Int
  | [] => []
  | x :: xs => insI x (srtI xs)
theorem insI_perm (x : Int) : ∀ ys, (insI x ys).Perm (x :: ys)
  | [] => .refl _
  | y :: ys => by
    unfold insI
    split
    · exact .refl _
    · exact ((insI_perm x ys).cons y).trans (.swap x y ys)
theorem srtI_perm : ∀ xs, (srtI xs).Perm xs
  | [] => .refl _
  | x :: xs => (insI_perm x _).trans ((srtI_perm xs).cons x)
theorem insI_srt (x : Int) : ∀ {ys : List Int}, ys.Pairwise (· ≤ ·) → (insI x ys).Pairwise (· ≤ ·)
  | [], _ => by simp [insI]
  | y :: ys, h => by
    unfold insI
    rw [List.pairwise_cons] at h
    split
    · rename_i hx
      refine List.pairwise_cons.mpr ⟨fun z hz => ?_, List.pairwise_cons.mpr h⟩
      rcases List.mem_cons.mp hz with e | hz
      · rw [e]; exact hx
      · exact Int.le_trans hx (h.1 z hz)
    · rename_i hx
      refine List.pairwise_cons.mpr ⟨fun z hz => ?_, insI_srt x h.2⟩
      rcases List.mem_cons.mp ((insI_perm x ys).mem_iff.mp hz) with e | hz
      · rw [e]; omega
      · exact h.1 z hz
theorem srtI_srt : ∀ xs, (srtI xs).Pairwise (· ≤ ·)
  | [] => .nil
  | x :: xs => insI_srt x (srtI_srt xs)
theorem perm_srt_eq : ∀ {xs ys : List Int}, xs.Perm ys → xs.Pairwise (· ≤ ·) → ys.Pairwise (· ≤ ·) → xs = ys := fun p h1 h2 => p.eq_of_pairwise (fun a b _ _ x y => Int.le_antisymm x y) h1 h2
/-- pairs of ints -/
def asP : AV → Option (Int × Int)
  | .tup [.int i, .int j] => some (i, j)
  | _ => none
def leP (p q : Int × Int) : Bool := decide (p.1 < q.1) || (decide (p.1 = q.1) && decide (p.2 ≤ q.2))
def insP (x : Int × Int) : List (Int × Int) → List (Int × Int)
  | [] => [x]
  | y :: ys => if leP x y = true then x :: y :: ys else y :: insP x ys
def srtP : List (Int × Int) → List (Int × Int)
  | [] => []
  | x :: xs => insP x (srtP xs)
def pA (p : Int × Int) : AV := .tup [.int p.1, .int p.2]
def gSorted : FD := fun xs A => match xs with
  | [x] => match lsAt A x with
    | some ys => match mapO asI ys with
      | some ns => .ok (.obj A.length) (A ++ [.lst ((srtI ns).map AV.int)])
      | none => match mapO asP ys with
        | some ps => .ok (.obj A.length) (A ++ [.lst ((srtP ps).map pA)])
        | none => .er
    | none => .er
  | _ => .er
theorem leP_iff {p q : Int × Int} : leP p q = true ↔ p.1 < q.1 ∨ (p.1 = q.1 ∧ p.2 ≤ q.2) := by
  simp [leP]
theorem insP_perm (x : Int × Int) : ∀ ys, (insP x ys).Perm (x :: ys)
  | [] => .refl _
  | y :: ys => by
    unfold insP
    split
    · exact .refl _
    · exact ((insP_perm x ys).cons y).trans (.swap x y ys)
theorem srtP_perm : ∀ xs, (srtP xs).Perm xs
  | [] => .refl _
  | x :: xs => (insP_perm x _).trans ((srtP_perm xs).cons x)
theorem leP_tot {p q : Int × Int} (h : ¬ leP p q = true) : leP q p = true := by
  rw [leP_iff] at h ⊢
  omega
theorem leP_tr {p q r : Int × Int} (h : leP p q = true) (k : leP q r = true) : leP p r = true := by
  rw [leP_iff] at h k ⊢
  omega
theorem leP_anti {p q : Int × Int} (h : leP p q = true) (k : leP q p = true) : p = q := by
  rw [leP_iff] at h k
  obtain ⟨a, b⟩ := p
  obtain ⟨c, d⟩ := q
  simp only at h k
  rw [Prod.mk.injEq]
  omega
theorem insP_srt (x : Int × Int) : ∀ {ys : List (Int × Int)}, ys.Pairwise (fun p q => leP p q = true) → (insP x ys).Pairwise (fun p q => leP p q = true)
  | [], _ => by simp [insP]
  | y :: ys, h => by
    unfold insP
    rw [List.pairwise_cons] at h
    split
    · rename_i hx
      refine List.pairwise_cons.mpr ⟨fun z hz => ?_, List.pairwise_cons.mpr h⟩
      rcases List.mem_cons.mp hz with e | hz
      · rw [e]; exact hx
      · exact leP_tr hx (h.1 z hz)
    · rename_i hx
      refine List.pairwise_cons.mpr ⟨fun z hz => ?_, insP_srt x h.2⟩
      rcases List.mem_cons.mp ((insP_perm x ys).mem_iff.mp hz) with e | hz
      · rw [e]; exact leP_tot hx
      · exact h.1 z hz
theorem srtP_srt : ∀ xs, (srtP xs).Pairwise (fun p q => leP p q = true)
  | [] => .nil
  | x :: xs => insP_srt x (srtP_srt xs)
/-- the pair that stands at a reference -/
def kH (H : Hp) : V → Int × Int
  | .ref t => match H t with
    | some (.tup [.int i, .int j]) => (i, j)
    | _ => (0, 0)
  | _ => (0, 0)
theorem asP_all {K : PySem.W.Frag} {m : List Addr} {H : Hp} : ∀ {xs : List AV} {vs : List V} {ps : List (Int × Int)}, RelAs K m H xs vs → mapO asP xs = some ps → vs.map (kH H) = ps ∧ ∀ x ∈ vs, ∃ t, x = .ref t ∧ H t = some (.tup [.int (kH H x).1, .int (kH H x).2])
  | [], _, ks, r, h => by
    cases h
    cases r
    exact ⟨rfl, fun x hx => nomatch hx⟩
  | x :: xs, _, ks, r, h => by
    obtain ⟨k, es, h1, h2, rfl⟩ := mapO_cons h
    cases r with
    | cons r1 r2 =>
      rename_i v vs
      obtain ⟨e1, e2⟩ := asP_all r2 h2
      unfold asP at h1
      split at h1
      · rename_i i j
        cases h1
        obtain ⟨a, us, rfl, ha, ru⟩ := r1.to_tup
        obtain ⟨u1, u2, rfl, q1, q2⟩ := ru.two
        rw [q1.to_int, q2.to_int] at ha
        have hk : kH H (.ref a) = (i, j) := by simp only [kH, ha]
        refine ⟨by rw [List.map_cons, hk, e1], fun x hx => ?_⟩
        rcases List.mem_cons.mp hx with e | hx
        · subst e
          exact ⟨a, rfl, by rw [hk]; exact ha⟩
        · exact e2 x hx
      · cases h1
theorem pA_all {K : PySem.W.Frag} {m : List Addr} {H : Hp} : ∀ {vs : List V}, (∀ x ∈ vs, ∃ t, x = .ref t ∧ H t = some (.tup [.int (kH H x).1, .int (kH H x).2])) → RelAs K m H ((vs.map (kH H)).map pA) vs
  | [], _ => .nil
  | v :: vs, h => by
    obtain ⟨t, e, ht⟩ := h v List.mem_cons_self
    refine .cons ?_ (pA_all fun x hx => h x (List.mem_cons_of_mem _ hx))
    subst e
    exact .tup ht (.cons (.int _) (.cons (.int _) .nil))
abbrev rSrtAll (K : PySem.W.Frag) : List V → Hp → VK → Prop := fun vs H Q => rSortedI K vs H Q ∨ rSortedPO K vs H Q
theorem call_sorted : CallR X (.builtin "sorted") (rSrtAll X.K) := cr_sortedI.or cr_sortedPO
theorem ok_sorted : CbOk cf (rSrtAll cf.K) gSorted := fun W m H A σ Q xs vs S r P => by
  unfold gSorted at P
  split at P
  · rename_i x
    obtain ⟨v, rfl, q⟩ := r.one
    split at P
    · rename_i ys e
      obtain ⟨a, ws, rfl, hs, r2⟩ := lsAt_ok S q e
      split at P
      · rename_i ns e2
        rw [asI_all r2 e2] at hs
        refine .inl ⟨a, ns, rfl, hs, fun ns' p hp1 hp2 hp => ?_⟩
        have en : ns' = srtI ns := perm_srt_eq (hp1.trans (srtI_perm ns).symm) hp2 (srtI_srt ns)
        subst en
        exact new_list S (RelAs.ints _) P hp
      · split at P
        · rename_i ps e3
          obtain ⟨k1, k2⟩ := asP_all r2 e3
          refine .inr ⟨a, ws, kH H, rfl, hs, k2, fun zs p hz1 hz2 hp => ?_⟩
          have k3 : ∀ x ∈ zs, ∃ t, x = .ref t ∧ H t = some (.tup [.int (kH H x).1, .int (kH H x).2]) := fun x hx => k2 x (hz2.perm.mem_iff.mp hx)
          have k4 : zs.map (kH H) = srtP ps := by
            have p1 : (zs.map (kH H)).Perm (srtP ps) := by
              have := hz2.perm.map (kH H)
              rw [k1] at this
              exact this.trans (srtP_perm ps).symm
            refine p1.eq_of_pairwise (le := fun p q => leP p q = true) (fun a b _ _ x y => leP_anti x y) ?_ (srtP_srt ps)
            refine List.pairwise_map.mpr (hz1.imp fun {x y} h => ?_)
            have h' : ¬ _ := SrtO.lexB_no.mp h
            rw [leP_iff]
            omega
          have r5 : RelAs cf.K m H ((srtP ps).map pA) zs := by rw [← k4]; exact pA_all k3
          exact new_list S r5 P hp
        · exact P.elim
    · exact P.elim
  · exact P.elim

/-! ### comparisons of data -/
def rLtD (K : PySem.W.Frag) (f : PyData → PyData → Bool) : R2 := fun x y H Q => ∃ d e, Dp K H x d ∧ Dp K H y e ∧ PySem.W.alike d e = true ∧ d ≠ .none ∧ d.depth ≤ 16 ∧ Q (.bl (f d e)) H
theorem op_ltD (hu : X.A.units + 64 < cLine) : OpR X (compareOp .Lt) (rLtD X.K PySem.W.dataLt) := by
  intro pins s σ H x y v u Q I rx ry h
  obtain ⟨d, e, hd, he, sd, se, sz, q⟩ := h
  obtain ⟨as, r1⟩ := Dp.reads I d x v hd rx
  obtain ⟨bs, r2⟩ := Dp.reads I e y u he ry
  exact PySem.W.lt_data r1 r2 sd se (by have := Nat.min_le_left d.depth e.depth; omega) ⟨.bl _, H, I, rfl, q⟩
theorem op_gtD (hu : X.A.units + 64 < cLine) : OpR X (compareOp .Gt) (rLtD X.K fun d e => PySem.W.dataLt e d) := by
  intro pins s σ H x y v u Q I rx ry h
  obtain ⟨d, e, hd, he, sd, se, sz, q⟩ := h
  obtain ⟨as, r1⟩ := Dp.reads I d x v hd rx
  obtain ⟨bs, r2⟩ := Dp.reads I e y u he ry
  exact PySem.W.gt_data r1 r2 sd se (by have := Nat.min_le_left d.depth e.depth; omega) ⟨.bl _, H, I, rfl, q⟩
theorem op_leD (hu : X.A.units + 64 < cLine) : OpR X (compareOp .LtE) (rLtD X.K fun d e => !PySem.W.dataLt e d) := by
  intro pins s σ H x y v u Q I rx ry h
  obtain ⟨d, e, hd, he, sd, se, sz, q⟩ := h
  obtain ⟨as, r1⟩ := Dp.reads I d x v hd rx
  obtain ⟨bs, r2⟩ := Dp.reads I e y u he ry
  exact PySem.W.le_data r1 r2 sd se (by have := Nat.min_le_left d.depth e.depth; omega) ⟨.bl _, H, I, rfl, q⟩
theorem op_geD (hu : X.A.units + 64 < cLine) : OpR X (compareOp .GtE) (rLtD X.K fun d e => !PySem.W.dataLt d e) := by
  intro pins s σ H x y v u Q I rx ry h
  obtain ⟨d, e, hd, he, sd, se, sz, q⟩ := h
  obtain ⟨as, r1⟩ := Dp.reads I d x v hd rx
  obtain ⟨bs, r2⟩ := Dp.reads I e y u he ry
  exact PySem.W.ge_data r1 r2 sd se (by have := Nat.min_le_left d.depth e.depth; omega) ⟨.bl _, H, I, rfl, q⟩
def nonP : PyData → Bool
  | .none => true
  | _ => false
def gCmpD (f : PyData → PyData → Bool) : F2 := fun x y A => match AV.toP A 16 x, AV.toP A 16 y with
  | some d, some e => if PySem.W.alike d e = true ∧ nonP d = false then .ok (.bl (f d e)) A else .er
  | _, _ => .er
theorem ok_cmpD (f : PyData → PyData → Bool) : R2Ok cf (rLtD cf.K f) (gCmpD f) := fun W m H A σ Q x y v w S rx ry P => by
  unfold gCmpD at P
  split at P
  · rename_i d e h1 h2
    obtain ⟨⟨ha, hn⟩, P⟩ := post_if P
    exact ⟨d, e, toP_ok S 16 x d v h1 rx, toP_ok S 16 y e w h2 ry, ha, (fun z => by subst z; cases hn), (toP_shape 16 x d h1).2, P m H _ (Go.refl S) (.bl _)⟩
  · exact P.elim
/-- ints, else data -/
def isI : AV → Bool
  | .int _ => true
  | _ => false
def gOr2 (g g' : F2) : F2 := fun x y A => match x with
  | .int _ => g x y A
  | _ => g' x y A
theorem R2Ok.or2 {r r' : R2} {g g' : F2} (h : R2Ok cf r g) (h' : R2Ok cf r' g') : R2Ok cf (fun x y H Q => r x y H Q ∨ r' x y H Q) (gOr2 g g') := fun W m H A σ Q x y v w S rx ry P => by
  unfold gOr2 at P
  split at P
  · exact .inl (h W m H A σ Q _ y v w S rx ry P)
  · exact .inr (h' W m H A σ Q x y v w S rx ry P)
def gLtA : F2 := gOr2 gLt (gCmpD PySem.W.dataLt)
def gGtA : F2 := gOr2 gGt (gCmpD fun d e => PySem.W.dataLt e d)
def gLeA : F2 := gOr2 gLe (gCmpD fun d e => !PySem.W.dataLt e d)
def gGeA : F2 := gOr2 gGe (gCmpD fun d e => !PySem.W.dataLt d e)
abbrev rLtA (K : PySem.W.Frag) : R2 := fun x y H Q => rI0 (fun i j => .bl (decide (i < j))) x y H Q ∨ rLtD K PySem.W.dataLt x y H Q
abbrev rGtA (K : PySem.W.Frag) : R2 := fun x y H Q => rI0 (fun i j => .bl (decide (j < i))) x y H Q ∨ rLtD K (fun d e => PySem.W.dataLt e d) x y H Q
abbrev rLeA (K : PySem.W.Frag) : R2 := fun x y H Q => rI0 (fun i j => .bl (decide (i ≤ j))) x y H Q ∨ rLtD K (fun d e => !PySem.W.dataLt e d) x y H Q
abbrev rGeA (K : PySem.W.Frag) : R2 := fun x y H Q => rI0 (fun i j => .bl (decide (j ≤ i))) x y H Q ∨ rLtD K (fun d e => !PySem.W.dataLt d e) x y H Q
theorem op_ltA (hu : X.A.units + 64 < cLine) : OpR X (compareOp .Lt) (rLtA X.K) := op_lt.or (op_ltD hu)
theorem op_gtA (hu : X.A.units + 64 < cLine) : OpR X (compareOp .Gt) (rGtA X.K) := op_gt.or (op_gtD hu)
theorem op_leA (hu : X.A.units + 64 < cLine) : OpR X (compareOp .LtE) (rLeA X.K) := op_le.or (op_leD hu)
theorem op_geA (hu : X.A.units + 64 < cLine) : OpR X (compareOp .GtE) (rGeA X.K) := op_ge.or (op_geD hu)
theorem ok_ltA : R2Ok cf (rLtA cf.K) gLtA := R2Ok.or2 ok_lt (ok_cmpD _)
theorem ok_gtA : R2Ok cf (rGtA cf.K) gGtA := R2Ok.or2 ok_gt (ok_cmpD _)
theorem ok_leA : R2Ok cf (rLeA cf.K) gLeA := R2Ok.or2 ok_le (ok_cmpD _)
theorem ok_geA : R2Ok cf (rGeA cf.K) gGeA := R2Ok.or2 ok_ge (ok_cmpD _)
/-! ### min of a list of tuples of ints -/
def tI (l : List Int) : PyData := .tuple (l.map PyData.int)
theorem tI_inj {l m : List Int} (h : tI l = tI m) : l = m := by
  have h1 : l.map PyData.int = m.map PyData.int := PyData.tuple.inj h
  exact List.map_inj_right (fun a b e => PyData.int.inj e) |>.mp h1
def ltT (l m : List Int) : Bool := PySem.W.dataLt (tI l) (tI m)
def minT (l : List Int) (ls : List (List Int)) : List Int := ls.foldl (fun a y => if ltT y a = true then y else a) l
theorem minD_T : ∀ (ls : List (List Int)) (l : List Int), PySem.W.minD (tI l) (ls.map tI) = tI (minT l ls)
  | [], _ => rfl
  | m :: ls, l => by
    have ih := minD_T ls (if ltT m l = true then m else l)
    unfold PySem.W.minD minT at ih ⊢
    rw [List.map_cons, List.foldl_cons, List.foldl_cons, ← ih]
    congr 1
    by_cases h : ltT m l = true
    · have h' : PySem.W.dataLt (tI m) (tI l) = true := h
      rw [if_pos h, if_pos h']
    · have h' : ¬ PySem.W.dataLt (tI m) (tI l) = true := h
      rw [if_neg h, if_neg h']
theorem alike_ints : ∀ l m : List Int, PySem.W.alikeAll (l.map PyData.int) (m.map PyData.int) = true
  | [], m => by simp [PySem.W.alikeAll]
  | a :: l, [] => by simp [PySem.W.alikeAll]
  | a :: l, b :: m => by
    rw [List.map_cons, List.map_cons, PySem.W.alikeAll, alike_ints l m]
    rfl
theorem alike_tI (l m : List Int) : PySem.W.alike (tI l) (tI m) = true := by
  unfold tI
  rw [PySem.W.alike]
  exact alike_ints l m
theorem alikeAll_tI (ls : List (List Int)) : PySem.W.AlikeAll (ls.map tI) := by
  refine ⟨fun x hx y hy => ?_, fun x hx z => ?_⟩
  · obtain ⟨l, _, rfl⟩ := List.mem_map.mp hx
    obtain ⟨m, _, rfl⟩ := List.mem_map.mp hy
    exact alike_tI l m
  · obtain ⟨l, _, rfl⟩ := List.mem_map.mp hx
    cases z
theorem depth_tI : ∀ ls : List (List Int), PyData.depthAll (ls.map tI) ≤ 1
  | [] => Nat.zero_le _
  | l :: ls => by
    have ih := depth_tI ls
    have hd : (tI l).depth ≤ 1 := by
      unfold tI
      rw [PyData.depth, (canInts l).2]
      exact Nat.le_refl _
    rw [List.map_cons, PyData.depthAll]
    omega
theorem plain_tI (l : List Int) : (tI l).plain = true := PySem.PyData.plain_of_canLay0 _ (by unfold tI; rw [PyData.canLay0]; exact (canInts l).1)
def rMinT (K : PySem.W.Frag) : List V → Hp → VK → Prop := fun vs H Q => ∃ (a : Addr) (xs : List V) (l : List Int) (ls : List (List Int)), vs = [V.ref a] ∧ SqL K H a xs ∧ DpAll K H xs ((l :: ls).map tI) ∧
  ∀ (i : Nat) (v : V), xs[i]? = some v → (l :: ls)[i]? = some (minT l ls) → Q v H
theorem cr_minT (hc : X.calm = true) (hu : X.A.units + 64 < cLine) : CallR X (.builtin "min") (rMinT X.K) := by
  intro pins s σ H vs us Q I r h
  obtain ⟨a, xs, l, ls, rfl, hs, hd, q⟩ := h
  obtain ⟨its, rv, hl, _⟩ := I.list hs
  rw [Vals.ref1 r]
  obtain ⟨as, hr⟩ := Dp.readsAll I _ xs its hd rv
  refine PySem.W.min_list_data (x := tI l) (xs := ls.map tI) (I.ok.hd hc) hl.isList hr (alikeAll_tI (l :: ls)) (by have := depth_tI (l :: ls); rw [List.map_cons] at this; omega) fun i v h' tk bs hv hm hk => ?_
  have hv' : its[i]? = some v := by simpa using hv
  have hil : i < its.length := (List.getElem?_eq_some_iff.mp hv').1
  obtain ⟨w, hw⟩ : ∃ w, xs[i]? = some w := ⟨xs[i]'(by rw [rv.length]; exact hil), List.getElem?_eq_getElem _⟩
  obtain ⟨u, hu', rw'⟩ := rv.get hw
  rw [hv'] at hu'
  cases hu'
  obtain ⟨cs, rr, hlt, _, _⟩ := PySem.W.readsAll_atA (h := s.heap) (vs := its.toArray) hr i v hv
  have hlt' : i < (l :: ls).length := by simpa using hlt
  have e1 : ((l :: ls).map tI).getD i .none = tI ((l :: ls)[i]) := by
    rw [List.getD_eq_getElem?_getD, List.getElem?_map, List.getElem?_eq_getElem hlt']
    rfl
  rw [e1] at rr
  rw [minD_T] at hm
  have e2 := tI_inj (PySem.SeqAt.plain_unique _ _ v _ _ (plain_tI _) (PySem.W.reads_keeps hk rr) hm)
  exact ⟨w, H, I.kept hk, rw', q i w hw (by rw [List.getElem?_eq_getElem hlt', e2])⟩
def asT : AV → Option (List Int)
  | .tup xs => mapO asI xs
  | _ => none
def tA (l : List Int) : AV := .tup (l.map AV.int)
theorem dp_ints {K : PySem.W.Frag} {H : Hp} (ns : List Int) : DpAll K H (ns.map V.int) (ns.map PyData.int) := DpAll.ints ns
theorem asI_map : ∀ {xs : List AV} {ns : List Int}, mapO asI xs = some ns → xs = ns.map AV.int
  | [], _, h => by cases h; rfl
  | x :: xs, _, h => by
    obtain ⟨k, es, h1, h2, rfl⟩ := mapO_cons h
    cases x with
    | int i =>
      cases h1
      rw [asI_map h2]
      rfl
    | _ => cases h1
theorem asT_all {K : PySem.W.Frag} {m : List Addr} {H : Hp} : ∀ {xs : List AV} {vs : List V} {ls : List (List Int)}, RelAs K m H xs vs → mapO asT xs = some ls → DpAll K H vs (ls.map tI) ∧ xs = ls.map tA
  | [], _, ks, r, h => by
    cases h
    cases r
    exact ⟨.nil, rfl⟩
  | x :: xs, _, ks, r, h => by
    obtain ⟨k, es, h1, h2, rfl⟩ := mapO_cons h
    cases r with
    | cons r1 r2 =>
      obtain ⟨d1, e1⟩ := asT_all r2 h2
      unfold asT at h1
      split at h1
      · rename_i ys
        obtain ⟨a, us, rfl, ha, ru⟩ := r1.to_tup
        have e2 := asI_all ru h1
        subst e2
        have e3 := asI_map h1
        subst e3
        refine ⟨.cons (.tup (SqT.of ha) (dp_ints k)) d1, by rw [e1]; rfl⟩
      · cases h1
def gMinL : FD := fun xs A => match xs with
  | [x] => match (lsAt A x).bind (mapO asT) with
    | some (l :: ls) => .ok (tA (minT l ls)) A
    | _ => .er
  | _ => .er
theorem ok_minT : CbOk cf (rMinT cf.K) gMinL := fun W m H A σ Q xs vs S r P => by
  unfold gMinL at P
  split at P
  · rename_i x
    obtain ⟨v, rfl, q⟩ := r.one
    split at P
    · rename_i l ls e
      rw [Option.bind_eq_some_iff] at e
      obtain ⟨ys, e1, e2⟩ := e
      obtain ⟨a, ws, rfl, hs, r2⟩ := lsAt_ok S q e1
      obtain ⟨d1, d2⟩ := asT_all r2 e2
      subst d2
      refine ⟨a, ws, l, ls, rfl, hs, d1, fun i v hv hi => ?_⟩
      obtain ⟨y, hy, ry⟩ := r2.get' hv
      rw [List.getElem?_map, hi] at hy
      cases hy
      exact P m H _ (Go.refl S) ry
    · exact P.elim
  · exact P.elim

/-! ### xs.remove(k) -/
def fRemove (fo fe : FE) : FE := fun ρ A => (fo ρ A).bind fun x A => if isL A x = true then (fe ρ A).bind fun y A => match x, y with
  | .obj n, .int k => match A[n]? with
    | some (.lst xs) => match mapO asI xs with
      | some ns => if k ∈ ns then .ok .non (A.set n (.lst ((ns.erase k).map AV.int))) else .er
      | none => .er
    | _ => .er
  | _, _ => .er
  else .er
theorem c_remove {o e : Expr} {apos cpos : Pos} {fo fe : FE} (hc : X.calm = true) (hK : X.K = cf.K) (tk : Takes X W) (ho : CE cf X W o fo) (he : CE cf X W e fe) (hbase : attributeBase o "remove" X.env (eval o X.env) = eval o X.env := by rfl)
    (hfew : ((backTo cpos (starEach [e] X.env)).all (fun x => !x.1) && (backToKw cpos (keywordEach [] X.env)).all (fun x => x.1.isSome)
      && decide (([e] : List Expr).length + ([] : List Keyword).length + (if ([] : List Keyword).isEmpty then 0 else 1) < 30)) = true := by rfl)
    (hline : (apos.endLine == cpos.line) = true := by rfl) (hs : starEach [e] X.env = (false, eval e X.env) :: starEach [] X.env := by rfl) (hplain : (backTo cpos (starEach [] X.env)).any (·.1) = false := by rfl) :
    CE cf X W (.Call (.Attribute o "remove" apos) [e] [] cpos) (fRemove fo fe) := by
  obtain ⟨t, p, q⟩ := ho.ex
  obtain ⟨t2, p2, q2⟩ := he.ex
  refine ⟨_, pe_remX hc tk p p2 hbase hfew hline hs hplain, fun ρ σ m H A Q S L P => ?_⟩
  rw [hK]
  refine q.then S L P fun x v m1 H1 A1 e1 g1 L1 r1 P1 => ?_
  obtain ⟨hl, P1b⟩ := post_if P1
  clear P1
  have hty : tyV cf.K "list" v H1 := isL_ok g1.sim r1 hl
  refine ⟨hty, ?_⟩
  refine q2.then g1.sim L1 P1b fun y w m2 H2 A2 e2 g2 L2 r2 P2 => ?_
  clear e1 e2 hl hty P1b
  split at P2
  · rename_i n k
    split at P2
    · rename_i xs ex
      split at P2
      · rename_i ns en
        obtain ⟨hk, P2⟩ := post_if P2
        obtain ⟨a, rfl, hm, vs, h1, r⟩ := g2.sim.obj (RelA.mono g2.pre g2.fz r1) ex
        have ev := asI_all r en
        subst ev
        exact ⟨a, ns, k, rfl, r2.to_int, h1, fun _ => put_list g2.sim hm h1 trivial (RelAs.ints _) .non P2, fun z => (z hk).elim⟩
      · exact P2.elim
    · exact P2.elim
  · exact P2.elim
end
/-! the kernel reckons them -/
example : PySem.W.dataLt (.tuple [.int 1, .int 2]) (.tuple [.int 1, .int 3]) = true := by decide +kernel
example : PyData.eqv (.tuple [.int 1, .int 2]) (.tuple [.int 1, .int 2]) = true := by decide +kernel
example : PySem.W.alike (.tuple [.int 1, .int 2]) (.tuple [.int 1, .int 2]) = true := by decide +kernel
end Dn

set_option maxRecDepth 100000
set_option maxHeartbeats 2000000
/-! Dn, part K: dicts locked and walked; get, update, del, op=; sums of values. -/
namespace Dn
open PySem PySem.Spec L2 PyProof.Rows

/-! ### the pairs of a locked dict whose keys are tuples -/
theorem frzTv {X : Cx} {pins : List (Addr × Obj)} {σ : L2.St} {H : Hp} {s : Shared} {d : Addr} {o : Obj} {kvs : List (List Key × V)} (I : Inv X pins σ H s) (h : H d = some (.frz o (.dT kvs))) :
    (d == sysModules) = false ∧ s.heap.get? d = some o ∧ o.ExactDict ∧ ∃ (es : Array DictEntry) (ep : Nat), o.data = .dict es ep ∧ es.size = kvs.length ∧
      ∀ (i : Nat) (k : List Key) (v : V), kvs[i]? = some (k, v) → ∃ (en : DictEntry) (q : Addr), es[i]? = some en ∧ en.key = .ref q ∧ H q = some (.tup (k.map kV)) ∧ L2.RelV v en.val := by
  obtain ⟨hd, z, hs, xs, pr, o', es, ep, ho, hx, hdt, he, _⟩ := I.hok d _ h
  rw [hd] at ho
  cases ho
  refine ⟨hs, hd, hx, es, ep, hdt, ?_, fun i k v e => ?_⟩
  · have l1 : es.size = xs.length := size_of_entries he
    have l2 : kvs.length = xs.length := Paired.length pr
    omega
  · obtain ⟨b, hb, e1, e2, e3⟩ := paired_get pr e
    have q := entry_at he i
    rw [hb] at q
    exact ⟨_, b.2.1, q, rfl, e2, e3⟩
/-- the pairs, each a new tuple -/
def ItiT (d : Addr) (o : Obj) (kvs : List (List Key × V)) : It :=
  ⟨fun i H => H d = some (.frz o (.dT kvs)) ∧ i < kvs.length, fun i H x H' => ∃ T q k v, kvs[i]? = some (k, v) ∧ x = .ref T ∧ H T = none ∧ H q = some (.tup (k.map kV)) ∧ H' = upd H T (.tup [.ref q, v]), fun i H => H d = some (.frz o (.dT kvs)) ∧ kvs.length ≤ i⟩
theorem turn_itemsT {P : Program} {w : World} {K : PySem.W.Frag} {d : Addr} {o : Obj} {es : Array DictEntry} {ep : Nat} {kvs : List (List Key × V)} {elts : List Expr} {kk : Nat} {tpos : Pos} (it : Addr) (hod : o.data = .dict es ep) :
    Turn P w K (.Tuple elts kk tpos) (ItiT d o kvs) [it] it (fun i h => ∃ ok ov, IsItemIter h it d i kvs.length ep ok ov) where
  mem := by simp
  obj := fun i h st b hb => by
    have e : b = it := by simpa using hb
    subst e
    obtain ⟨ok, ov, e⟩ := st
    exact ⟨_, e, fun v z => nomatch z⟩
  keep := fun i h h' st k => let ⟨ok, ov, e⟩ := st; ⟨ok, ov, k it (by simp) _ e⟩
  item := by
    intro X hP hw hK hc i pins s σ H E I hf st hg
    subst hP hw hK
    obtain ⟨hd, hi⟩ := hg
    obtain ⟨hs, hgd, hx, es', ep', hdt, hsz, ent⟩ := frzTv I hd
    obtain ⟨rfl, rfl⟩ := dict_ep hod hdt
    obtain ⟨⟨k, v⟩, hkv⟩ : ∃ p, kvs[i]? = some p := ⟨kvs[i], List.getElem?_eq_getElem hi⟩
    obtain ⟨en, q, hen, hkey, hq, rv⟩ := ent i k v hkv
    obtain ⟨ok, ov, he⟩ := st
    rw [← hsz] at he
    have hlt : it < s.heap.objs.size := Heap.lt_size he
    have hi2 : i < es'.size := by rw [hsz]; exact hi
    have hen2 : es'[i] = en := by
      rw [Array.getElem?_eq_getElem hi2] at hen
      exact Option.some.inj hen
    refine DT.nextI he ⟨o, hgd, hx, hdt⟩ hi2 fun h' ho hT hz hk => ?_
    rw [hen2] at ho hT
    refine ⟨_, rfl, wpAny_letOwnedTupleGo_items (s := { s with heap := h' }) ho fun h'' he' sb => ?_⟩
    have hT2 : h''.get? s.heap.objs.size = some { cls := .type "tuple", data := .seq #[en.key, en.val] } := (sb.2 _ (Nat.ne_of_gt hlt)).trans hT
    have new : ObjOk X.prog X.w (upd H s.heap.objs.size (.tup [.ref q, v])) h'' s.heap.objs.size (.tup [.ref q, v]) :=
      ⟨by show 2 ≤ sizeLine; decide, [en.key, en.val], .cons hkey (.cons rv .nil), ⟨_, hT2, rfl, _, rfl⟩⟩
    have I1 : Inv X pins σ (upd H s.heap.objs.size (.tup [.ref q, v])) { s with heap := h'' } :=
      I.turnedNew (t' := s.toks) (ch := [it]) (fun b ob hb e => (sb.2 b (by simpa using hb)).trans (hk b ob (by simpa using hb) e)) hf (Nat.le_refl _) new
    refine ⟨.ref s.heap.objs.size, _, I1, rfl, ⟨_, q, k, v, hkv, rfl, I.hok.fresh (Nat.le_refl _), hq, rfl⟩, ⟨en.key, en.val, ?_⟩, fun b hb => ?_⟩
    · rw [← hsz]; exact he'
    · have e : b = it := by simpa using hb
      rw [e, upd_ne (Nat.ne_of_lt hlt)]
      exact (hf it (by simp)).1
  done := by
    intro X hP hw hK hc i pins s σ H E I hf st hg
    subst hP hw hK
    obtain ⟨hd, hi⟩ := hg
    obtain ⟨f0, f1, f2, f3, f4, f5⟩ := hf it (by simp)
    obtain ⟨hs, hgd, hx, es', ep', hdt, hsz, ent⟩ := frzTv I hd
    obtain ⟨rfl, rfl⟩ := dict_ep hod hdt
    obtain ⟨ok, ov, he⟩ := st
    rw [← hsz] at he
    exact DT.endI (I.ok.hd hc) he ⟨o, hgd, hx, hdt⟩ (by omega) fun h' eb => ⟨rfl, I.turned (t' := s.toks) (fun b ob hb e => eb b ob hb e) f0 f1 f3 f4 f5⟩
  self := fun A i s Q E st h => let ⟨_, _, e⟩ := st; PySem.W.kcp_self e h
def iItemsT (td : TE) : TI := fun σ H R => td σ H fun x H1 => ∃ d o kvs, x = .ref d ∧ H1 d = some (.frz o (.dT kvs)) ∧ R (ItiT d o kvs) H1
theorem pi_itemsT {X : Cx} {e : Expr} {td : TE} {apos cpos : Pos} {elts : List Expr} {kk : Nat} {tpos : Pos} (he : PE X e td) (hbase : attributeBase e "items" X.env (eval e X.env) = eval e X.env := by rfl) (hline : (apos.endLine == cpos.line) = true := by rfl) :
    PI X (.Tuple elts kk tpos) (.Call (.Attribute e "items" apos) [] [] cpos) (iItemsT td) := by
  refine ⟨fun pins s σ H R I h => ?_⟩
  refine wpAny_Call_method (T := "dict") (id := "dict.items") hbase rfl hline PySem.F.plainAttrs_dict PySem.F.slot_dict_items PySem.F.type_dict_items (thn (he.run pins s σ H _ I h) fun u s1 ⟨x, H1, I1, rx, d, o, kvs, ex, hd, q⟩ => ?_)
  subst ex
  obtain rfl : u = Value.ref d := rx
  obtain ⟨hs, hgd, hx, es, ep, hdt, hsz, ent⟩ := frzTv I1 hd
  have raw : DT.Raw s1.heap d es ep := ⟨o, hgd, hx, hdt⟩
  refine ⟨raw.typeIs, fun b q => ?_, ?_⟩
  · cases q
    exact ⟨o, hgd, hx.2.1⟩
  have I2 : Inv X pins σ H1 { s1 with heap := s1.heap.push { cls := .type "dict_items", data := .fields #[.ref d] } } := I1.kept (t' := s1.toks) fun b ob q => Heap.get?_push_of_some _ q
  have fin : wpAny (model X.prog X.w) X.A (pyIter (.ref s1.heap.objs.size)) (PIE X pins σ (.Tuple elts kk tpos) R) X.xe { s1 with heap := s1.heap.push { cls := .type "dict_items", data := .fields #[.ref d] } } := by
    refine DT.iterI (d := d) ⟨_, Heap.get?_push_size _ rfl, rfl, rfl⟩ (raw.push _) (pi_one (tk := s1.toks) I2 _ (turn_itemsT _ hdt) ⟨.none, .none, ?_⟩ q)
    rw [← hsz]
    exact Heap.get?_push_size _ rfl
  show wpAny _ _ (callWith cpos (.builtin "dict.items") [.ref d] [] []) _ X.xe s1
  exact method_meetsIn PySem.F.slot_dict_items PySem.F.entry_dict_items rfl (PySem.evalArgs_none ⟨rfl, raw.typeIs, PySem.F.args_dict_items_1 _, _, DT.meetsItems (es := es) (ep := ep) hs, raw, fin⟩)

/-! ### locks -/
/-- tuples and what is frozen of lists stay -/
structure FzW (H H' : Hp) : Prop where
  tup : ∀ a xs, H a = some (.tup xs) → H' a = some (.tup xs)
  frz : ∀ a o xs, H a = some (.frz o (.lst xs)) → H' a = some (.frz o (.lst xs))
theorem FrzL.monoW {K : PySem.W.Frag} {H H' : Hp} {a : Addr} {xs : List V} (f : FzW H H') (h : FrzL K H a xs) : FrzL K H' a xs := by
  rcases h with ⟨o, h⟩ | h
  · exact .inl ⟨o, f.frz _ _ _ h⟩
  · exact .inr h
mutual
theorem RelA.monoW {K : PySem.W.Frag} {m : List Addr} {H H' : Hp} (f : FzW H H') : ∀ {x : AV} {v : V}, RelA K m H x v → RelA K m H' x v
  | _, _, .non => .non
  | _, _, .bl b => .bl b
  | _, _, .int i => .int i
  | _, _, .str x => .str x
  | _, _, .ty x => .ty x
  | _, _, .scr h => .scr (h.monoW f)
  | _, _, .obj h => .obj h
  | _, _, .tup h r => .tup (f.tup _ _ h) (RelAs.monoW f r)
theorem RelAs.monoW {K : PySem.W.Frag} {m : List Addr} {H H' : Hp} (f : FzW H H') : ∀ {xs : List AV} {vs : List V}, RelAs K m H xs vs → RelAs K m H' xs vs
  | _, _, .nil => .nil
  | _, _, .cons h t => .cons (RelA.monoW f h) (RelAs.monoW f t)
end
section
variable {cf : Cfg} {X : Cx} {W : WX}
theorem RelKV.monoW {κ : Type} {K : PySem.W.Frag} {m : List Addr} {H H' : Hp} (f : FzW H H') {xs : List (κ × AV)} {vs : List (κ × V)} (r : RelKV K m H xs vs) : RelKV K m H' xs vs := Paired.mapP r fun _ _ h => ⟨h.1, h.2.monoW f⟩
theorem RelOA.monoW {K : PySem.W.Frag} {m : List Addr} {H H' : Hp} (f : FzW H H') : ∀ {x : Option AV} {v : Option V}, RelOA K m H x v → RelOA K m H' x v
  | some _, some _, h => RelA.monoW f h
  | none, none, _ => trivial
  | some _, none, h => h.elim
  | none, some _, h => h.elim
theorem RelOs.monoW {K : PySem.W.Frag} {m : List Addr} {H H' : Hp} (f : FzW H H') {xs : List (Option AV)} {vs : List (Option V)} (r : RelOs K m H xs vs) : RelOs K m H' xs vs := Paired.mapP r fun _ _ h => h.monoW f
theorem ObjS.stayW {m : List Addr} {H H' : Hp} {a : Addr} {o : AO} (h : ObjS cf m H a o) (f : FzW H H') (ha : ∀ u, H a = some u → H' a = some u) (hd : ∀ c u, H c = some u → (u = .own a ∨ ∃ fs, u = .xd fs) → H' c = some u) : ObjS cf m H' a o := by
  cases o with
  | lst xs => obtain ⟨vs, e, r⟩ := h; exact ⟨vs, ha _ e, r.monoW f⟩
  | dK xs => obtain ⟨vs, e, r⟩ := h; exact ⟨vs, ha _ e, r.monoW f⟩
  | dT xs => obtain ⟨vs, e, r⟩ := h; exact ⟨vs, ha _ e, r.monoW f⟩
  | ins c fs => obtain ⟨dx, vs, e, l, r⟩ := h; exact ⟨dx, vs, ha _ e, l, r.monoW f⟩
  | slt c fs =>
    obtain ⟨dx, vs, ne, h, r⟩ := h
    refine ⟨dx, vs, ne, ?_, r.monoW f⟩
    rcases h with ⟨e, e1, e2⟩ | ⟨e, e2⟩
    · exact .inl ⟨ha _ e, e1, hd _ _ e2 (.inl rfl)⟩
    · exact .inr ⟨ha _ e, hd _ _ e2 (.inr ⟨_, rfl⟩)⟩
  | lk kvs => obtain ⟨o, vs, e, r⟩ := h; exact ⟨o, vs, ha _ e, r.monoW f⟩
  | exn c fs =>
    rcases h with ⟨e0, e⟩ | ⟨dd, vs, ne, e, e2, l, r⟩
    · exact .inl ⟨e0, ha _ e⟩
    · exact .inr ⟨dd, vs, ne, ha _ e, hd _ _ e2 (.inr ⟨_, rfl⟩), l, r.monoW f⟩
  | unk => obtain ⟨u, e, h⟩ := h; exact ⟨u, ha _ e, h⟩
def isLk (B : AH) (n : Nat) : Bool := match B[n]? with
  | some (.lk _) => true
  | _ => false
/-- unlocked again -/
theorem go_unlock {m m2 : List Addr} {H H2 : Hp} {A B : AH} {n : Nat} {a : Addr} {od : Obj} {kvs : List (List Key × AV)} {vs : List (List Key × V)} (S : Sim cf m H A) (hm : m[n]? = some a) (h1 : H a = some (.dT vs)) (r : RelKV cf.K m H kvs vs)
    (g2 : Go cf m (upd H a (.frz od (.dT vs))) m2 H2 B) (hl : isLk B n = true) : H2 a = some (.frz od (.dT vs)) ∧ FzW H2 (upd H2 a (.dT vs)) ∧ Go cf m H m2 (upd H2 a (.dT vs)) (B.set n (.dT kvs)) := by
  have e2 : H2 a = some (.frz od (.dT vs)) := g2.fz.frz a od _ upd_same
  have fw : FzW H2 (upd H2 a (.dT vs)) := by
    refine ⟨fun b xs e => ?_, fun b o xs e => ?_⟩
    · rw [upd_ne (ne_of e e2 (fun z => by cases z))]
      exact e
    · rw [upd_ne (ne_of e e2 (fun z => by cases z))]
      exact e
  have fz0 : Fz H (upd H2 a (.dT vs)) := by
    refine ⟨fun b xs e => ?_, fun b o u e => ?_⟩
    · have hb : b ≠ a := ne_of e h1 (fun z => by cases z)
      rw [upd_ne hb]
      exact g2.fz.tup b xs (by rw [upd_ne hb]; exact e)
    · have hb : b ≠ a := ne_of e h1 (fun z => by cases z)
      rw [upd_ne hb]
      exact g2.fz.frz b o u (by rw [upd_ne hb]; exact e)
  have hm2 : m2[n]? = some a := g2.pre _ _ hm
  refine ⟨e2, fw, g2.pre, fz0, by rw [List.length_set, g2.sim.len], g2.sim.nd, fun k b q hk hA => ?_, fun p hp => ?_⟩
  rotate_left
  · obtain ⟨ps, t1, t2, t3⟩ := g2.sim.tab p hp
    refine ⟨ps, by rw [upd_ne (ne_of t1 e2 (fun z => by cases z))]; exact t1, t2, fun pos cv hc => ?_⟩
    obtain ⟨c, c1, c2⟩ := t3 pos cv hc
    exact ⟨c, c1, by rw [upd_ne (ne_of c2 e2 (fun z => by unfold LamX.CodeO at z; cases z))]; exact c2⟩
  by_cases e : k = n
  · subst e
    rw [hm2] at hk
    cases hk
    have hlt : k < B.length := by
      rw [← g2.sim.len]
      exact (List.getElem?_eq_some_iff.mp hm2).1
    rw [List.getElem?_set_self hlt] at hA
    cases hA
    exact ⟨vs, upd_same, r.mono g2.pre fz0⟩
  · rw [List.getElem?_set_ne (Ne.symm e)] at hA
    have hb : b ≠ a := fun z => by
      subst z
      exact e (nd_ix g2.sim.nd hk hm2)
    refine (g2.sim.at_ k b q hk hA).stayW fw (fun u e => by rw [upd_ne hb]; exact e) fun c w e hw => ?_
    rw [upd_ne (fun z => ?_)]
    · exact e
    · subst z
      rw [e2] at e
      cases e
      rcases hw with z | ⟨_, z⟩ <;> cases z
def unlk (n : Nat) (kvs : List (List Key × AV)) : SRes → SRes
  | .nx ρ B => if isLk B n = true then .nx ρ (B.set n (.dT kvs)) else .er
  | .rt v B => if isLk B n = true then .rt v (B.set n (.dT kvs)) else .er
  | .bk ρ B => if isLk B n = true then .bk ρ (B.set n (.dT kvs)) else .er
  | .ct ρ B => if isLk B n = true then .ct ρ (B.set n (.dT kvs)) else .er
  | _ => .er
/-- a statement that reads the dict that f0 tells, and does not change it -/
def fLockS (f0 : FE) (f : FS) : FS := fun ρ A => match f0 ρ A with
  | .ok (.obj n) _ => match A[n]? with
    | some (.dT kvs) => unlk n kvs (f ρ (A.set n (.lk kvs)))
    | _ => .er
  | _ => .er
theorem Loc.monoW {K : PySem.W.Frag} {m : List Addr} {H H' : Hp} {ρ : Rho} {σ : L2.St} (f : FzW H H') (l : Loc K m H ρ σ) : Loc K m H' ρ σ := ⟨l.len, fun i x e => let ⟨v, h1, h2⟩ := l.at_ i x e; ⟨v, h1, h2.monoW f⟩⟩
theorem ok_lockS {t : TS} {f0 : FE} {f : FS} (h : SOk cf W t f) : SOk cf W (tLock t) (fLockS f0 f) := fun ρ σ m H A D S L P => by
  unfold fLockS at P
  split at P
  · rename_i n _ e0
    split at P
    · rename_i kvs e
      obtain ⟨a, hm⟩ := S.addr e
      obtain ⟨vs, h1, r⟩ := S.at_ n a _ hm e
      refine ⟨a, .dT vs, h1, by trivial, fun od => ?_⟩
      have gL : Go cf m H m (upd H a (.frz od (.dT vs))) (A.set n (.lk kvs)) := go_put S hm h1 trivial ⟨od, vs, upd_same, r.mono (Pre.refl m) (fz_main h1 trivial)⟩
      refine h ρ σ m _ _ _ gL.sim (L.mono gL.pre gL.fz) ?_
      unfold unlk at P
      cases ef : f ρ (A.set n (.lk kvs)) with
      | nx ρ' B =>
        rw [ef] at P
        obtain ⟨hl, P⟩ := sif P
        intro m2 H2 σ2 g2 l2
        obtain ⟨k1, k2, k3⟩ := go_unlock S hm h1 r g2 hl
        exact ⟨k1, P m2 _ σ2 k3 (l2.monoW k2)⟩
      | rt v B =>
        rw [ef] at P
        obtain ⟨hl, P⟩ := sif P
        intro m2 H2 u g2 l2
        obtain ⟨k1, k2, k3⟩ := go_unlock S hm h1 r g2 hl
        exact ⟨k1, P m2 _ u k3 (l2.monoW k2)⟩
      | bk ρ' B =>
        rw [ef] at P
        obtain ⟨hl, P⟩ := sif P
        intro m2 H2 σ2 g2 l2
        obtain ⟨k1, k2, k3⟩ := go_unlock S hm h1 r g2 hl
        exact ⟨k1, P m2 _ σ2 k3 (l2.monoW k2)⟩
      | ct ρ' B =>
        rw [ef] at P
        obtain ⟨hl, P⟩ := sif P
        intro m2 H2 σ2 g2 l2
        obtain ⟨k1, k2, k3⟩ := go_unlock S hm h1 r g2 hl
        exact ⟨k1, P m2 _ σ2 k3 (l2.monoW k2)⟩
      | exc x ρ' B => rw [ef] at P; exact P.elim
      | er => rw [ef] at P; exact P.elim
    · exact P.elim
  · exact P.elim
theorem cs_lock {st : Stmt} (f0 : FE) {f : FS} (h : CS cf X W st f) : CS cf X W st (fLockS f0 f) := let ⟨_, p, o⟩ := h.ex; ⟨_, ps_lock p, ok_lockS o⟩
/-- for k, v in d.items(), d locked -/
def fItemsT (f : FE) : FI := fun ρ A => (f ρ A).bind fun x A => match x with
  | .obj n => match A[n]? with
    | some (.lk kvs) => .ok (.fix (kvs.map fun kv => .tup [.tup (kv.1.map kA), kv.2])) A
    | _ => .er
  | _ => .er
theorem relKV_get {κ : Type} {K : PySem.W.Frag} {m : List Addr} {H : Hp} : ∀ {kvs : List (κ × AV)} {vs : List (κ × V)} {i : Nat} {k : κ} {v : V}, RelKV K m H kvs vs → vs[i]? = some (k, v) → ∃ x, kvs[i]? = some (k, x) ∧ RelA K m H x v
  | _, _, _, _, _, .nil, e => by simp at e
  | (k1, x) :: _, _, 0, _, _, .cons r _, e => by
    simp at e
    subst e
    obtain ⟨e, r⟩ := r
    cases (show k1 = _ from e)
    exact ⟨x, rfl, r⟩
  | _ :: _, _, i + 1, k, v, .cons _ t, e => by
    obtain ⟨u, h1, h2⟩ := relKV_get (i := i) (k := k) (v := v) t (by simpa using e)
    exact ⟨u, by simpa using h1, h2⟩
theorem ci_itemsT {e : Expr} {apos cpos : Pos} {elts : List Expr} {kk : Nat} {tpos : Pos} {f : FE} (h : CE cf X W e f) (hbase : attributeBase e "items" X.env (eval e X.env) = eval e X.env := by rfl) (hline : (apos.endLine == cpos.line) = true := by rfl) :
    CI cf X W (.Tuple elts kk tpos) (.Call (.Attribute e "items" apos) [] [] cpos) (fItemsT f) := by
  obtain ⟨t, p, o⟩ := h.ex
  refine ⟨_, pi_itemsT p hbase hline, fun ρ σ m H A R S L P => ?_⟩
  refine o.then S L P fun x v m1 H1 A1 e g1 L1 r1 P1 => ?_
  clear e
  split at P1
  · rename_i n
    split at P1
    · rename_i kvs e
      obtain ⟨a, rfl, hm, od, vs, h1, r⟩ := g1.sim.obj r1 e
      refine ⟨a, od, vs, rfl, h1, P1 m1 H1 _ (Go.refl g1.sim) fun m2 H2 A2 g2 => ?_⟩
      have h2 : H2 a = some (.frz od (.dT vs)) := g2.fz.frz _ _ _ h1
      have hlen : (kvs.map fun kv => AV.tup [.tup (kv.1.map kA), kv.2]).length = vs.length := by rw [List.length_map, paired_len r]
      refine ⟨fun i hi => ⟨h2, by rw [← hlen]; exact hi⟩, ⟨h2, by rw [hlen]; exact Nat.le_refl _⟩, fun i x H3 y hi => ?_⟩
      obtain ⟨T, q, k, v, hkv, rfl, hT, hq, rfl⟩ := y
      obtain ⟨z, hz, rz⟩ := relKV_get r hkv
      refine ⟨.tup [.tup (k.map kA), z], by rw [List.getElem?_map, hz]; rfl, go_side g2.sim hT, .tup upd_same (.cons (.tup ?_ (kAs_rel k)) (.cons ((rz.mono g2.pre g2.fz).mono (Pre.refl m2) (fz_new hT)) .nil))⟩
      rw [upd_ne (ne_of_none hq hT)]
      exact hq
    · exact P1.elim
  · exact P1.elim
end
end Dn

set_option maxRecDepth 100000
set_option maxHeartbeats 2000000
/-! Dn, part L: get, update, values, del, op=, a, b = .., dict comprehensions, is True. -/
namespace Dn
open PySem PySem.Spec L2 PyProof.Rows

section
variable {cf : Cfg} {X : Cx} {W : WX}
/-! ### a, b = e1, e2 -/
theorem cs_par2 {i j : Nat} {x y : Str} {a b : Expr} {f : FA} {px py pt pos : Pos} {kt k2 pt2} (hc : X.calm = true) (hN : X.N.Nodup) (ha : CA cf X W [a, b] f) (hij : i ≠ j := by decide) (hi : X.N[i]? = some x := by rfl) (hj : X.N[j]? = some y := by rfl)
    (hx : X.env.scope.names.lookup x = some .local := by rfl) (hy : X.env.scope.names.lookup y = some .local := by rfl)
    (hw : swappedStores [.Tuple [.Name x px, .Name y py] kt pt] (.Tuple [a, b] k2 pt2) X.env = pure (some [x, y]) := by rfl)
    (hs : swapsWithSole [.Tuple [.Name x px, .Name y py] kt pt] (.Tuple [a, b] k2 pt2) pos.line X.env = pure false := by rfl) :
    CS cf X W (.Assign [.Tuple [.Name x px, .Name y py] kt pt] (.Tuple [a, b] k2 pt2) pos) (fAsgG (fTup f) (gTp 2 (gsCons (gNm i) (gsCons (gNm j) gsNil)))) := by
  obtain ⟨t, p, o⟩ := ha.ex
  refine ⟨_, ps_par hc hN hi hj hij hx hy p hw hs, fun ρ σ m H A D S L P => ?_⟩
  have P' : SPost cf W m H D ((f ρ A).s ρ fun xs A => match xs with
      | [x, y] => .nx ((ρ.set i (some x)).set j (some y)) A
      | _ => .er) := by
    revert P
    unfold fAsgG fTup
    cases f ρ A with
    | ok xs B =>
      simp only [Res.bind_ok, Res.s_ok]
      split
      · simp only [Res.s_ok, gTp]
        match xs with
        | [] => exact fun P => P
        | [x] => exact fun P => P
        | [x, y] => exact fun P => P
        | _ :: _ :: _ :: _ =>
          intro P
          rw [if_neg (by simp)] at P
          exact P.elim
      · exact fun P => P.elim
    | exc e B => exact fun P => P
    | er => exact fun P => P
  refine o.thenS S L P' fun xs vs m1 H1 A1 _ g1 L1 r P1 => ?_
  split at P1
  · rename_i x y
    obtain ⟨v, w, rfl, r1, r2⟩ := RelAs.two r
    exact ⟨v, w, rfl, P1 m1 H1 _ (Go.refl g1.sim) ((L1.set i r1).set j r2)⟩
  · exact P1.elim
theorem RelAs.three {K : PySem.W.Frag} {m : List Addr} {H : Hp} {x y z : AV} {vs : List V} (r : RelAs K m H [x, y, z] vs) : ∃ u v w, vs = [u, v, w] ∧ RelA K m H x u ∧ RelA K m H y v ∧ RelA K m H z w := by
  cases r with
  | cons a b =>
    obtain ⟨v, w, rfl, q1, q2⟩ := b.two
    exact ⟨_, v, w, rfl, a, q1, q2⟩
theorem cs_par3 {i j l : Nat} {x y z : Str} {a b c : Expr} {f : FA} {px py pz pt pos : Pos} {kt k2 pt2} (hc : X.calm = true) (hN : X.N.Nodup) (ha : CA cf X W [a, b, c] f) (hij : i ≠ j := by decide) (hil : i ≠ l := by decide) (hjl : j ≠ l := by decide) (hi : X.N[i]? = some x := by rfl) (hj : X.N[j]? = some y := by rfl) (hl : X.N[l]? = some z := by rfl)
    (hx : X.env.scope.names.lookup x = some .local := by rfl) (hy : X.env.scope.names.lookup y = some .local := by rfl) (hz : X.env.scope.names.lookup z = some .local := by rfl)
    (hw : swappedStores [.Tuple [.Name x px, .Name y py, .Name z pz] kt pt] (.Tuple [a, b, c] k2 pt2) X.env = pure (some [x, y, z]) := by rfl)
    (hs : swapsWithSole [.Tuple [.Name x px, .Name y py, .Name z pz] kt pt] (.Tuple [a, b, c] k2 pt2) pos.line X.env = pure false := by rfl) :
    CS cf X W (.Assign [.Tuple [.Name x px, .Name y py, .Name z pz] kt pt] (.Tuple [a, b, c] k2 pt2) pos) (fAsgG (fTup f) (gTp 3 (gsCons (gNm i) (gsCons (gNm j) (gsCons (gNm l) gsNil))))) := by
  obtain ⟨t, p, o⟩ := ha.ex
  refine ⟨_, ps_par3 hc hN hi hj hl hij hil hjl hx hy hz p hw hs, fun ρ σ m H A D S L P => ?_⟩
  have P' : SPost cf W m H D ((f ρ A).s ρ fun xs A => match xs with
      | [x, y, z] => .nx (((ρ.set i (some x)).set j (some y)).set l (some z)) A
      | _ => .er) := by
    revert P
    unfold fAsgG fTup
    cases f ρ A with
    | ok xs B =>
      simp only [Res.bind_ok, Res.s_ok]
      split
      · simp only [Res.s_ok, gTp]
        match xs with
        | [] => exact fun P => P
        | [x] => exact fun P => P
        | [x, y] => exact fun P => P
        | [x, y, z] => exact fun P => P
        | _ :: _ :: _ :: _ :: _ =>
          intro P
          rw [if_neg (by simp)] at P
          exact P.elim
      · exact fun P => P.elim
    | exc e B => exact fun P => P
    | er => exact fun P => P
  refine o.thenS S L P' fun xs vs m1 H1 A1 _ g1 L1 r P1 => ?_
  split at P1
  · rename_i x y z
    obtain ⟨u, v, w, rfl, r1, r2, r3⟩ := RelAs.three r
    exact ⟨u, v, w, rfl, P1 m1 H1 _ (Go.refl g1.sim) (((L1.set i r1).set j r2).set l r3)⟩
  · exact P1.elim

/-! ### name op= e -/
def fAug (i : Nat) (g : F2) (f : FE) : FS := fun ρ A => match ρ[i]? with
  | some (some x) => (f ρ A).s ρ fun y A => (g x y A).s ρ fun z A => .nx (ρ.set i (some z)) A
  | _ => .er
theorem r2_thenS {r : R2} {g : F2} (hr : R2Ok cf r g) {x y : AV} {v w : V} {m : List Addr} {H : Hp} {A : AH} {ρ : Rho} {σ : L2.St} {D : Ends} {k : AV → AH → SRes} {R : VK} (S : Sim cf m H A) (L : Loc cf.K m H ρ σ) (rx : RelA cf.K m H x v) (ry : RelA cf.K m H y w)
    (P : SPost cf W m H D ((g x y A).s ρ k)) (h : ∀ z u m1 H1 A1, Go cf m H m1 H1 A1 → RelA cf.K m1 H1 z u → SPost cf W m1 H1 D (k z A1) → R u H1) : r v w H R := by
  refine hr W m H A σ R x y v w S rx ry ?_
  cases e : g x y A with
  | ok z A1 =>
    rw [e] at P
    exact fun m1 H1 u g1 r1 => h z u m1 H1 A1 g1 r1 (SPost.mono g1 P)
  | exc z A1 =>
    rw [e] at P
    exact fun m1 H1 cls d g1 r1 => P m1 H1 σ cls d g1 (L.mono g1.pre g1.fz) r1
  | er =>
    rw [e] at P
    exact P.elim
theorem cs_aug {x : Str} {e : Expr} {op : Operator} {r : R2} {g : F2} {f : FE} {pos pos' : Pos} (i : Nat) (hN : X.N.Nodup) (ho : OpR X (inplaceOp op) r) (hr : R2Ok cf r g) (he : CE cf X W e f) (hi : X.N[i]? = some x := by rfl) (hx : L2.Loc X.env.scope x := by first | exact .inl rfl | exact .inr rfl)
    (hf : X.fn x = true ∨ X.env.scope.names.lookup x = some .local := by first | exact .inl rfl | exact .inr rfl | assumption) : CS cf X W (.AugAssign (.Name x pos') op e pos) (fAug i g f) := by
  obtain ⟨t, p, o⟩ := he.ex
  refine ⟨_, ps_aug hN hi hx p (ti := r) ho hf, fun ρ σ m H A D S L P => ?_⟩
  unfold fAug at P
  split at P
  · rename_i x0 e0
    obtain ⟨v, hv, rv⟩ := L.at_ i x0 e0
    refine ⟨v, hv, ?_⟩
    refine o.thenS S L P fun y w m1 H1 A1 _ g1 L1 ry P1 => ?_
    exact r2_thenS hr g1.sim L1 (rv.mono g1.pre g1.fz) ry P1 fun z u m2 H2 A2 g2 rz P2 => P2 m2 H2 _ (Go.refl g2.sim) ((L1.mono g2.pre g2.fz).set i rz)
  · exact P.elim
theorem ok_iadd : R2Ok cf (rI0 fun i j => .int (i + j)) (gI0 fun i j => .int (i + j)) := ok_I0 fun _ _ _ _ _ => .int _
theorem ok_imul : R2Ok cf (rI CMul fun i j => .int (i * j)) (gI cMul fun i j => .int (i * j)) := ok_I cMul_ok fun _ _ _ _ _ => .int _
/-! ### d[k] op= e -/
def fDAug (g : F2) (fd fk fv : FE) : FS := fun ρ A => (fd ρ A).s ρ fun x A => (fk ρ A).s ρ fun y A => match dGet A x y with
  | some (some v) => (fv ρ A).s ρ fun z A => (g v z A).s ρ fun u A => match dPut A x y u with
    | some A' => .nx ρ A'
    | none => .er
  | _ => .er
theorem cs_daug {o i e : Expr} {op : Operator} {r : R2} {g : F2} {fd fk fv : FE} {pos tpos : Pos} (hu : X.A.units + 1 < cLine) (hop : InOp X op r) (hr : R2Ok cf r g) (ho : CE cf X W o fd) (hi : CE cf X W i fk) (he : CE cf X W e fv)
    (ha : ∀ ov iv new, augStore i ov iv new = (do holding [new, ov, iv] (setItem ov iv new); release [new, ov, iv] []; pure .next) := by intros; rfl) : CS cf X W (.AugAssign (.Subscript o i tpos) op e pos) (fDAug g fd fk fv) := by
  obtain ⟨to, po, oo⟩ := ho.ex
  obtain ⟨ti, pi, oi⟩ := hi.ex
  obtain ⟨te, pe, oe⟩ := he.ex
  refine ⟨_, ps_daug hu po pi pe hop ha, fun ρ σ m H A D S L P => ?_⟩
  refine oo.thenS S L P fun x v m1 H1 A1 _ g1 L1 rx P1 => ?_
  refine oi.thenS g1.sim L1 P1 fun y w m2 H2 A2 _ g2 L2 ry P2 => ?_
  split at P2
  · rename_i x0 e0
    obtain ⟨a, o', rfl, hg, _, h0, h1⟩ := dGet_ok g2.sim (rx.mono g2.pre g2.fz) ry e0
    obtain ⟨u0, rfl, ru0⟩ := h1 x0 rfl
    refine ⟨a, u0, rfl, hg, ?_⟩
    refine oe.thenS g2.sim L2 P2 fun z u m3 H3 A3 _ g3 L3 rz P3 => ?_
    refine r2_thenS hr g3.sim L3 (ru0.mono g3.pre g3.fz) rz P3 fun q uq m4 H4 A4 g4 rq P4 => ?_
    split at P4
    · rename_i A' e4
      obtain ⟨a', H', e5, hp, g5⟩ := dPut_ok g4.sim (rx.mono ((g2.trans g3).trans g4).pre ((g2.trans g3).trans g4).fz) (ry.mono (g3.trans g4).pre (g3.trans g4).fz) rq e4
      cases e5
      exact ⟨H', hp, P4 m4 H' σ g5 (L3.mono (g4.trans g5).pre (g4.trans g5).fz)⟩
    · exact P4.elim
  · exact P2.elim
theorem ok_inAdd : R2Ok cf rAdd (gI0 fun i j => .int (i + j)) := ok_I0 (cf := cf) (g' := fun i j => .int (i + j)) fun _ _ _ _ _ => .int _
theorem ok_inSub : R2Ok cf rSub (gI0 fun i j => .int (i - j)) := ok_I0 (cf := cf) (g' := fun i j => .int (i - j)) fun _ _ _ _ _ => .int _
/-! ### del d[k] -/
def fDel (fd fk : FE) : FS := fun ρ A => (fd ρ A).s ρ fun x A => (fk ρ A).s ρ fun y A => match x with
  | .obj n => match A[n]?, keyOf y with
    | some (.dK kvs), some k => if (valA kvs k).isSome = true then .nx ρ (A.set n (.dK (kvs.filter fun p => !decide (p.1 = k)))) else .er
    | _, _ => .er
  | _ => .er
theorem dropA_ok {m : List Addr} {H : Hp} {k : Key} : ∀ {kvs : List (Key × AV)} {vs : List (Key × V)}, RelKV cf.K m H kvs vs → RelKV cf.K m H (kvs.filter fun p => !decide (p.1 = k)) (dropK vs k)
  | _, _, .nil => .nil
  | (k1, x) :: kvs, (k2, v) :: vs, .cons r rs => by
    have ih := dropA_ok (k := k) rs
    obtain ⟨e, r⟩ := r
    cases (show k1 = k2 from e)
    by_cases h : k1 = k
    · have z1 : dropK ((k1, v) :: vs) k = dropK vs k := List.filter_cons_of_neg (by simp [h])
      rw [z1, List.filter_cons_of_neg (by simp [h])]
      exact ih
    · have z1 : dropK ((k1, v) :: vs) k = (k1, v) :: dropK vs k := List.filter_cons_of_pos (by simp [h])
      rw [z1, List.filter_cons_of_pos (by simp [h])]
      exact .cons ⟨rfl, r⟩ ih
theorem cs_del {o i : Expr} {fd fk : FE} {pos tpos : Pos} (ho : CE cf X W o fd) (hi : CE cf X W i fk) : CS cf X W (.Delete [.Subscript o i tpos] pos) (fDel fd fk) := by
  obtain ⟨to, po, oo⟩ := ho.ex
  obtain ⟨ti, pi, oi⟩ := hi.ex
  refine ⟨_, ps_ddel po pi, fun ρ σ m H A D S L P => ?_⟩
  refine oo.thenS S L P fun x v m1 H1 A1 _ g1 L1 rx P1 => ?_
  refine oi.thenS g1.sim L1 P1 fun y w m2 H2 A2 _ g2 L2 ry P2 => ?_
  split at P2
  · rename_i n
    split at P2
    · rename_i kvs k e ek
      obtain ⟨hk, P2⟩ := sif P2
      obtain ⟨a, rfl, hm, vs, h1, r⟩ := g2.sim.obj (rx.mono g2.pre g2.fz) e
      have hv : (valV vs k).isSome = true := by rw [isSome_of (valA_ok k r).1 (valA_ok k r).2]; exact hk
      have g3 := go_put g2.sim hm h1 trivial (o := .dK (kvs.filter fun p => !decide (p.1 = k))) (ho := .dK (dropK vs k)) ⟨_, upd_same, (dropA_ok r).mono (Pre.refl m2) (fz_main h1 trivial)⟩
      exact ⟨a, vs, k, rfl, h1, keyOf_ok ry ek, hv, P2 m2 _ σ g3 (L2.mono g3.pre g3.fz)⟩
    · exact P2.elim
  · exact P2.elim
/-! ### d.get(k, z) -/
def fGet2 (fd fk fz : FE) : FE := fun ρ A => (fd ρ A).bind fun x A => if isDk A x = true then (fk ρ A).bind fun y A => (fz ρ A).bind fun z A => match dGet A x y with
  | some o => .ok (o.getD z) A
  | none => .er
  else .er
theorem isD_ok {m : List Addr} {H : Hp} {A : AH} {x : AV} {v : V} (S : Sim cf m H A) (r : RelA cf.K m H x v) (h : isDk A x = true) : ∃ a, v = .ref a ∧ IsD H a := by
  unfold isDk at h
  split at h
  · split at h
    · rename_i e
      obtain ⟨a, rfl, _, vs, h1, _⟩ := S.obj r e
      exact ⟨a, rfl, .inl ⟨vs, .inl h1⟩⟩
    · rename_i e
      obtain ⟨a, rfl, _, vs, h1, _⟩ := S.obj r e
      exact ⟨a, rfl, .inr ⟨vs, .inl h1⟩⟩
    · cases h
  · cases h
theorem c_get2 {o e f : Expr} {apos cpos : Pos} {fd fk fz : FE} (hu : X.A.units + 1 < cLine) (ho : CE cf X W o fd) (he : CE cf X W e fk) (hf : CE cf X W f fz) (m : M2 X o "get" apos e f cpos := by exact ⟨rfl, rfl, rfl, rfl⟩) : CE cf X W (.Call (.Attribute o "get" apos) [e, f] [] cpos) (fGet2 fd fk fz) := by
  obtain ⟨to, po, oo⟩ := ho.ex
  obtain ⟨te, pe, oe⟩ := he.ex
  obtain ⟨tf, pf, of⟩ := hf.ex
  refine ⟨_, pe_dget2 hu po pe pf m, fun ρ σ m H A Q S L P => ?_⟩
  refine oo.then S L P fun x v m1 H1 A1 _ g1 L1 rx P1 => ?_
  obtain ⟨hd, P1⟩ := post_if P1
  obtain ⟨a, rfl, hD⟩ := isD_ok g1.sim rx hd
  refine ⟨a, rfl, hD, ?_⟩
  refine oe.then g1.sim L1 P1 fun y w m2 H2 A2 _ g2 L2 ry P2 => ?_
  refine of.then g2.sim L2 P2 fun z u m3 H3 A3 _ g3 L3 rz P3 => ?_
  split at P3
  · rename_i ov e0
    obtain ⟨a', o', e5, hg, _, h0, h1⟩ := dGet_ok g3.sim (rx.mono (g2.trans g3).pre (g2.trans g3).fz) (ry.mono g3.pre g3.fz) e0
    cases e5
    refine ⟨o', hg, ?_⟩
    cases ov with
    | none =>
      rw [h0 rfl]
      exact P3 m3 H3 _ (Go.refl g3.sim) rz
    | some q =>
      obtain ⟨uq, rfl, rq⟩ := h1 q rfl
      exact P3 m3 H3 _ (Go.refl g3.sim) rq
  · exact P3.elim
/-! ### d.update(e) -/
def rUpdK : V → List V → Hp → VK → Prop := fun x xs H Q => ∃ (a b : Addr) (kvs more : List (Key × V)), x = .ref a ∧ xs = [.ref b] ∧ a ≠ b ∧ H a = some (.dK kvs) ∧ H b = some (.dK more) ∧ kvs.length + more.length ≤ sizeLine ∧ Q .non (upd H a (.dK (mergeK kvs more)))
theorem mt_updK : MtR X "dict.update" rUpdK := by
  intro pins s σ H x xs v us Q I rx rxs h
  obtain ⟨a, b, kvs, more, rfl, rfl, hne, ha, hb, hl, q⟩ := h
  cases rx
  rw [Vals.ref1 rxs]
  obtain ⟨z, hd, vs, rel, dd⟩ := dk_of I.hok ha
  obtain ⟨z2, hd2, vs2, rel2, dd2⟩ := dk_of I.hok hb
  have l1 : kvs.length = vs.length := Paired.length rel
  have l2 : more.length = vs2.length := Paired.length rel2
  refine call_meetsIn PySem.F.slot_dict_update dd.typeIs PySem.F.entry_dict_update (PySem.F.args_dict_update_2 _ _) (meets_dict_update (mixKind X.prog X.w) a b hne hd2) ⟨vs, vs2, dd, dd2, by omega, fun h' dd' _ hs => ?_⟩
  have he : ∃ q, h'.get? a = some q := let ⟨q, _, _, hq, _⟩ := dd'; ⟨q, hq⟩
  refine ⟨.non, upd H a (.dK (mergeK kvs more)), d_write (t' := s.toks) I (by rw [ha]; exact True.intro) hs he (dk_new (Nat.le_trans (length_mergeK more kvs) hl) hd (KV.merge rel2 rel) dd'), rfl, q⟩
def gUpd : FM := fun x ys A => match x, ys with
  | .obj n, [.obj k] => match A[n]?, A[k]? with
    | some (.dK kvs), some (.dK more) => if n ≠ k ∧ kvs.length + more.length < big then .ok .non (A.set n (.dK (mergeA kvs more))) else .er
    | _, _ => .er
  | _, _ => .er
theorem ok_upd : MtOk cf rUpdK gUpd := fun W m H A σ Q x v ys vs S rx ry P => by
  unfold gUpd at P
  split at P
  · rename_i n k
    split at P
    · rename_i kvs more e e2
      obtain ⟨⟨hne, hl⟩, P⟩ := post_if P
      obtain ⟨a, rfl, hm, ws, h1, r⟩ := S.obj rx e
      obtain ⟨u, rfl, ru⟩ := ry.one
      obtain ⟨b, rfl, hm2, ws2, h2, r2⟩ := S.obj ru e2
      have hab : a ≠ b := fun z => by
        subst z
        exact hne (nd_ix S.nd hm hm2)
      have l1 := paired_len r
      have l2 := paired_len r2
      refine ⟨a, b, ws, ws2, rfl, rfl, hab, h1, h2, by have := big_le hl; omega, P m _ _ (go_put S hm h1 trivial ⟨_, upd_same, ?_⟩) .non⟩
      exact (mergeA_ok r2 r).mono (Pre.refl m) (fz_main h1 trivial)
    · exact P.elim
  · exact P.elim
/-! ### is True, is None -/
def gIsA : F2 := fun x y A => match x, y with
  | _, .non => .ok (.bl x.isN) A
  | .bl a, .bl b => .ok (.bl (a == b)) A
  | _, _ => .er
def gNotA : F2 := fun x y A => match x, y with
  | _, .non => .ok (.bl (!x.isN)) A
  | .bl a, .bl b => .ok (.bl (!(a == b))) A
  | _, _ => .er
theorem op_isA : OpR X (compareOp .Is) (fun x y H Q => (y = .non ∧ Q (.bl (decide (x = .non))) H) ∨ rIsB x y H Q) := op_isN.or op_isBl
theorem op_notA : OpR X (compareOp .IsNot) (fun x y H Q => (y = .non ∧ Q (.bl (!decide (x = .non))) H) ∨ rNotB x y H Q) := op_notN.or op_notBl
theorem ok_isA : R2Ok cf (fun x y H Q => (y = .non ∧ Q (.bl (decide (x = .non))) H) ∨ rIsB x y H Q) gIsA := fun W m H A σ Q x y v w S rx ry P => by
  unfold gIsA at P
  split at P
  · left
    refine ⟨ry.to_non, ?_⟩
    rw [isN_dec rx]
    exact P m H _ (Go.refl S) (.bl _)
  · rename_i a b
    right
    refine ⟨a, b, rx.to_bl, ry.to_bl, P m H _ (Go.refl S) ?_⟩
    rw [show decide (a = b) = (a == b) from rfl]
    exact .bl _
  · exact P.elim
theorem ok_notA : R2Ok cf (fun x y H Q => (y = .non ∧ Q (.bl (!decide (x = .non))) H) ∨ rNotB x y H Q) gNotA := fun W m H A σ Q x y v w S rx ry P => by
  unfold gNotA at P
  split at P
  · left
    refine ⟨ry.to_non, ?_⟩
    rw [isN_dec rx]
    exact P m H _ (Go.refl S) (.bl _)
  · rename_i a b
    right
    refine ⟨a, b, rx.to_bl, ry.to_bl, P m H _ (Go.refl S) ?_⟩
    rw [show decide (a = b) = (a == b) from rfl]
    exact .bl _
  · exact P.elim
end
end Dn

set_option maxRecDepth 100000
set_option maxHeartbeats 2000000
/-! Dn, part M: dict comprehensions, sums of a dict's values. -/
namespace Dn
open PySem PySem.Spec L2 PyProof.Rows

section
variable {cf : Cfg} {X : Cx} {W : WX}
/-- k: v goes to the dict at the place k -/
def pushD (fk fv : FE) (k : Nat) (cont : AH → Res AV) (ρ : Rho) (A : AH) : Res AV :=
  match fk ρ A with
  | .ok x A2 => match fv ρ A2 with
    | .ok y A3 => match keyOf x with
      | some kx => match A3[k]? with
        | some (.dK kvs) => if kvs.length < big then cont (A3.set k (.dK (putA kvs kx y))) else .er
        | _ => .er
      | none => .er
    | _ => .er
  | _ => .er
def dcF (g : FG) (ft : FT) (fk fv : FE) (k : Nat) (ρ : Rho) : List AV → AH → Res AV
  | [], A => .ok (.obj k) A
  | x :: xs, A => turnC g ft x ρ A (pushD fk fv k fun A => dcF g ft fk fv k ρ xs A) fun A => dcF g ft fk fv k ρ xs A
def dcL (g : FG) (ft : FT) (fk fv : FE) (k : Nat) (ρ : Rho) (n : Nat) (f : Nat → AV → AV) : Nat → Nat → AH → Res AV
  | 0, _, _ => .er
  | c + 1, i, A => match A[n]? with
    | some (.lst xs) => match xs[i]? with
      | some x => turnC g ft (f i x) ρ A (pushD fk fv k fun A => dcL g ft fk fv k ρ n f c (i + 1) A) fun A => dcL g ft fk fv k ρ n f c (i + 1) A
      | none => .ok (.obj k) A
    | _ => .er
def fDComp (fi : FI) (g : FG) (ft : FT) (fk fv : FE) (own : List Nat) : FE := fun ρ A => (fi ρ A).bind fun s A => match s with
  | .fix xs => dcF g ft fk fv A.length (wipeR ρ own) xs (A ++ [.dK []])
  | .live n f => dcL g ft fk fv A.length (wipeR ρ own) n f fuel 0 (A ++ [.dK []])
theorem turnD_ok {t : TG} {tt : TT} {te tv : TE} {g : FG} {ft : FT} {fe fv : FE} {ts own : List Nat} (hg : GOk cf W0 t g ts) (ht : TOk cf W0 tt ft) (he : EOk cf W0 te fe) (hv : EOk cf W0 tv fv) (hown : ∀ i ∈ ts, i ∈ own) {x : AV} {v : V} {ρ : Rho} {σ σ0 : L2.St} {m : List Addr} {H : Hp} {A : AH} {Q : VK} {N : Hp → Prop} {k : Nat} {D : Addr}
    {cont : AH → Res AV} (S : Sim cf m H A) (L : Loc cf.K m H ρ (wipe σ own)) (hk : m[k]? = some D) (r : RelA cf.K m H x v) (P : Post cf W (rA cf) m H σ0 Q (turnC g ft x ρ A (pushD fe fv k cont) cont))
    (hN : ∀ m' H' A', Go cf m H m' H' A' → Post cf W (rA cf) m' H' σ0 Q (cont A') → N H') :
    t v (wipe σ own) H fun σ2 H2 => wipe σ2 own = wipe σ own ∧ tt σ2 H2 fun b H3 => if b = true then te σ2 H3 fun y H4 => tv σ2 H4 fun z H5 => ∃ kvs kx, y = kV kx ∧ H5 D = some (.dK kvs) ∧ kvs.length < sizeLine ∧ N (upd H5 D (.dK (putK kvs kx z))) else N H3 := by
  refine hg ρ _ m H A x v _ S L r ?_
  unfold turnC at P
  cases e : g x ρ A with
  | nx ρ1 A1 =>
    rw [e] at P
    simp only at P
    intro m1 H1 σ1 g1 l1 hw
    have idem : wipe (wipe σ own) own = wipe σ own := by
      apply List.ext_getElem?
      intro j
      rw [wipe_get, wipe_get]
      by_cases hj : j ∈ own
      · rw [if_pos hj, if_pos hj]
        cases σ[j]? <;> rfl
      · rw [if_neg hj, if_neg hj]
    refine ⟨(hw own hown).trans idem, ?_⟩
    have P1 := Post.mono g1 P
    refine ht ρ1 σ1 m1 H1 A1 _ g1.sim l1 ?_
    cases e2 : ft ρ1 A1 with
    | ok b A2 =>
      rw [e2] at P1
      intro m2 H2 b' g2 rb
      cases (show b = b' from rb)
      have P2 := Post.mono g2 P1
      cases b with
      | false => exact hN m2 H2 A2 (g1.trans g2) P2
      | true =>
        simp only [if_true] at P2 ⊢
        unfold pushD at P2
        have l2 := l1.mono g2.pre g2.fz
        refine he ρ1 σ1 m2 H2 A2 _ g2.sim l2 ?_
        cases e3 : fe ρ1 A2 with
        | ok y A3 =>
          rw [e3] at P2
          intro m3 H3 u g3 ru
          simp only at P2
          refine hv ρ1 σ1 m3 H3 A3 _ g3.sim (l2.mono g3.pre g3.fz) ?_
          cases e4 : fv ρ1 A3 with
          | ok z A4 =>
            rw [e4] at P2
            intro m4 H4 uz g4 rz
            simp only at P2
            split at P2
            · rename_i kx ek
              split at P2
              · rename_i kvs ea
                obtain ⟨hl, P2⟩ := post_if P2
                have hk4 : m4[k]? = some D := (((g1.trans g2).trans g3).trans g4).pre _ _ hk
                obtain ⟨vs, h1, r1⟩ := g4.sim.at_ k D _ hk4 ea
                have g5 : Go cf m4 H4 m4 (upd H4 D (.dK (putK vs kx uz))) (A4.set k (.dK (putA kvs kx z))) := go_put g4.sim hk4 h1 trivial ⟨_, upd_same, (putA_ok r1 rz).mono (Pre.refl m4) (fz_main h1 trivial)⟩
                exact ⟨vs, kx, keyOf_ok ru ek, h1, by rw [← paired_len r1]; exact big_lt hl, hN m4 _ _ ((((g1.trans g2).trans g3).trans g4).trans g5) (Post.mono ((g3.trans g4).trans g5) P2)⟩
              · exact P2.elim
            · exact P2.elim
          | exc x2 A4 => rw [e4] at P2; exact P2.elim
          | er => rw [e4] at P2; exact P2.elim
        | exc x2 A3 => rw [e3] at P2; exact P2.elim
        | er => rw [e3] at P2; exact P2.elim
    | exc x2 A2 => rw [e2] at P1; exact P1.elim
    | er => rw [e2] at P1; exact P1.elim
  | rt _ _ => rw [e] at P; exact P.elim
  | bk _ _ => rw [e] at P; exact P.elim
  | ct _ _ => rw [e] at P; exact P.elim
  | exc _ _ _ => rw [e] at P; exact P.elim
  | er => rw [e] at P; exact P.elim
theorem ok_dcomp {wi : TI} {t : TG} {tt : TT} {te tv : TE} {fi : FI} {g : FG} {ft : FT} {fe fv : FE} {ts own : List Nat} (hi : IOk cf W wi fi) (hg : GOk cf W0 t g ts) (ht : TOk cf W0 tt ft) (he : EOk cf W0 te fe) (hv : EOk cf W0 tv fv) (hown : ∀ i ∈ ts, i ∈ own) : EOk cf W (tDc wi t tt te tv own) (fDComp fi g ft fe fv own) := fun ρ σ m H A Q S L P => by
  refine hi ρ σ m H A _ S L ?_
  unfold fDComp at P
  cases e : fi ρ A with
  | er => rw [e] at P; exact P.elim
  | exc x A1 => rw [e] at P; exact P
  | ok s A1 =>
    rw [e] at P
    intro m1 H1 J g1 sr
    have P1 := Post.mono g1 P
    have L1 := (L.mono g1.pre g1.fz).wipe own
    intro D hD
    have gN : Go cf m1 H1 (m1 ++ [D]) (upd H1 D (.dK [])) (A1 ++ [.dK []]) := go_new g1.sim hD ⟨[], upd_same, .nil⟩
    have hk : (m1 ++ [D])[A1.length]? = some D := by
      rw [← g1.sim.len, List.getElem?_append_right (Nat.le_refl _)]
      simp
    have sr1 := SrcR.mono gN sr
    have L2' := L1.mono gN.pre gN.fz
    have P2 := Post.mono gN P1
    cases s with
    | fix xs =>
      refine ⟨fun i n H' => n = xs.length - i ∧ i ≤ xs.length ∧ ∃ m' A', Go cf (m1 ++ [D]) (upd H1 D (.dK [])) m' H' A' ∧ Post cf W (rA cf) m' H' σ Q (dcF g ft fe fv A1.length (wipeR ρ own) (xs.drop i) A'), ⟨_, rfl, Nat.zero_le _, _, _, Go.refl gN.sim, P2⟩, ?_⟩
      rintro i n H2 ⟨rfl, hi, m2, A2, g2, P3⟩
      obtain ⟨go, stop, yld⟩ := sr1 m2 H2 A2 g2
      by_cases hlt : i < xs.length
      · refine .inr ⟨go i hlt, fun H' => i + 1 ≤ xs.length ∧ ∃ m' A', Go cf (m1 ++ [D]) (upd H1 D (.dK [])) m' H' A' ∧ Post cf W (rA cf) m' H' σ Q (dcF g ft fe fv A1.length (wipeR ρ own) (xs.drop (i + 1)) A'), fun H' h => ⟨xs.length - (i + 1), by omega, rfl, h⟩, fun x H3 y => ?_⟩
        obtain ⟨y, hy, g3, r3⟩ := yld i x H3 y hlt
        obtain ⟨_, hyy⟩ := List.getElem?_eq_some_iff.mp hy
        rw [List.drop_eq_getElem_cons hlt, hyy] at P3
        exact turnD_ok hg ht he hv hown g3.sim (L2'.mono (g2.trans g3).pre (g2.trans g3).fz) ((g2.trans g3).pre _ _ hk) r3 (Post.mono g3 P3) fun m' H' A' g4 P4 => ⟨hlt, m', A', (g2.trans g3).trans g4, P4⟩
      · have e : i = xs.length := by omega
        subst e
        rw [List.drop_length] at P3
        exact .inl ⟨stop, P3 m2 H2 _ (Go.refl g2.sim) (.obj (g2.pre _ _ hk))⟩
    | live n f =>
      refine ⟨fun i c H' => ∃ m' A', Go cf (m1 ++ [D]) (upd H1 D (.dK [])) m' H' A' ∧ Post cf W (rA cf) m' H' σ Q (dcL g ft fe fv A1.length (wipeR ρ own) n f c i A'), ⟨fuel, _, _, Go.refl gN.sim, P2⟩, ?_⟩
      rintro i c H2 ⟨m2, A2, g2, P3⟩
      cases c with
      | zero => exact P3.elim
      | succ c =>
        unfold dcL at P3
        split at P3
        · rename_i xs ex
          obtain ⟨go, stop, yld⟩ := sr1 m2 H2 A2 xs g2 ex
          split at P3
          · rename_i x0 hx0
            obtain ⟨hlt, _⟩ := List.getElem?_eq_some_iff.mp hx0
            refine .inr ⟨go i hlt, fun H' => ∃ m' A', Go cf (m1 ++ [D]) (upd H1 D (.dK [])) m' H' A' ∧ Post cf W (rA cf) m' H' σ Q (dcL g ft fe fv A1.length (wipeR ρ own) n f c (i + 1) A'), fun H' h => ⟨c, Nat.lt_succ_self c, h⟩, fun x H3 y => ?_⟩
            obtain ⟨y, hy, g3, r3⟩ := yld i x H3 y
            rw [hx0] at hy
            cases hy
            exact turnD_ok hg ht he hv hown g3.sim (L2'.mono (g2.trans g3).pre (g2.trans g3).fz) ((g2.trans g3).pre _ _ hk) r3 (Post.mono g3 P3) fun m' H' A' g4 P4 => ⟨m', A', (g2.trans g3).trans g4, P4⟩
          · rename_i hx0
            exact .inl ⟨stop i (List.getElem?_eq_none_iff.mp hx0), P3 m2 H2 _ (Go.refl g2.sim) (.obj (g2.pre _ _ hk))⟩
        · exact P3.elim
theorem c_dcomp {kx vx tg iter : Expr} {ifs : List Expr} {scope : Scope} {pos : Pos} {fi : FI} {g : FG} {ft : FT} {fk fv : FE} {ts : List Nat} (own : List (Str × Nat)) (hc : X.calm = true) (hN : X.N.Nodup) (hi : CI cf X W tg iter fi) (ok : BlkOk X.N X.env.scope scope own)
    (hg : ∀ (s : Shared) (H : Hp) (C : Addr) (cl : List (Str × Addr)) (fp : List Addr), CG cf (X.blk s H scope (compEnvC scope cl C X.env) fp) W0 tg g ts) (ht : ∀ (s : Shared) (H : Hp) (C : Addr) (cl : List (Str × Addr)) (fp : List Addr), CTs cf (X.blk s H scope (compEnvC scope cl C X.env) fp) W0 ifs ft)
    (hk : ∀ (s : Shared) (H : Hp) (C : Addr) (cl : List (Str × Addr)) (fp : List Addr), CE cf (X.blk s H scope (compEnvC scope cl C X.env) fp) W0 kx fk) (hv : ∀ (s : Shared) (H : Hp) (C : Addr) (cl : List (Str × Addr)) (fp : List Addr), CE cf (X.blk s H scope (compEnvC scope cl C X.env) fp) W0 vx fv)
    (hown : ∀ i ∈ ts, i ∈ own.map (·.2) := by decide) (hs : ∀ x, foldedSetIterable iter X.env x = pure x := by intro _; rfl) :
    CE cf X W (.DictComp kx vx [⟨tg, iter, ifs, 0⟩] scope pos) (fDComp fi g ft fk fv (own.map (·.2))) := by
  obtain ⟨t, p, o⟩ := hi.ex
  exact ⟨_, pe_dc hc hN p ok (fun s H C cl fp => (hg s H C cl fp).pg) (fun s H C cl fp => (ht s H C cl fp).pe) (fun s H C cl fp => (hk s H C cl fp).pe) (fun s H C cl fp => (hv s H C cl fp).pe) hs, ok_dcomp o ok_G ok_F ok_F ok_F hown⟩

/-! ### d.values(), what is summed -/
/-- the entries of a dict, whatever its keys -/
def Ent (H : Hp) (a : Addr) (vs : List V) : Prop := (∃ kvs : List (Key × V), H a = some (.dK kvs) ∧ vs = kvs.map (·.2)) ∨ ∃ kvs : List (List Key × V), H a = some (.dT kvs) ∧ vs = kvs.map (·.2)
theorem ent_raw {pins : List (Addr × Obj)} {σ : L2.St} {H : Hp} {s : Shared} {a : Addr} {vs : List V} (I : Inv X pins σ H s) (h : Ent H a vs) :
    (a == sysModules) = false ∧ ∃ o es ep, s.heap.get? a = some o ∧ o.ExactDict ∧ o.data = .dict es ep ∧ es.size = vs.length ∧ ∀ (i : Nat) (e : DictEntry), es[i]? = some e → ∃ v, vs[i]? = some v ∧ L2.RelV v e.val := by
  rcases h with ⟨kvs, h, rfl⟩ | ⟨kvs, h, rfl⟩
  · obtain ⟨z, hd, ws, rel, o, es, ep, ho, hx, hdt, _, hp, _⟩ := dk_of I.hok h
    have l1 : kvs.length = ws.length := Paired.length rel
    have l2 : es.toList.length = ws.length := hp.length
    refine ⟨hd, o, es, ep, ho, hx, hdt, by rw [List.length_map, ← Array.length_toList, l2, l1], fun i e he => ?_⟩
    have key : ∀ {es : List DictEntry} {ws : List (Key × Value)} {kvs : List (Key × V)}, Pairs (mixKind X.prog X.w) es ws → KV kvs ws → ∀ (i : Nat) (e : DictEntry), es[i]? = some e → ∃ v, (kvs.map (·.2))[i]? = some v ∧ L2.RelV v e.val := by
      intro es ws kvs hp
      induction hp generalizing kvs with
      | nil => exact fun _ i e he => by simp at he
      | @cons e0 kv es ws h1 h2 _ ih =>
        intro hr i e he
        cases hr with
        | cons r rs =>
          rename_i p ps
          cases i with
          | zero =>
            simp at he
            subst he
            exact ⟨p.2, rfl, by rw [h2]; exact r.2⟩
          | succ i =>
            obtain ⟨v, e1, e2⟩ := ih rs i e (by simpa using he)
            exact ⟨v, by simpa using e1, e2⟩
    exact key hp rel i e (by rw [← he, Array.getElem?_toList])
  · obtain ⟨z, hd, xs, rel, o, es, ep, ho, hx, hdt, he, _⟩ := dt_of I.hok h
    have l2 : kvs.length = xs.length := Paired.length rel
    have l1 : es.size = xs.length := size_of_entries he
    refine ⟨hd, o, es, ep, ho, hx, hdt, by rw [List.length_map]; omega, fun i e hi => ?_⟩
    have q := entry_at he i
    rw [hi] at q
    cases hx2 : xs[i]? with
    | none => rw [hx2] at q; cases q
    | some b =>
      rw [hx2] at q
      cases q
      have hik : i < kvs.length := by
        rw [l2]
        exact (List.getElem?_eq_some_iff.mp hx2).1
      obtain ⟨b', hb', e1, e2, e3⟩ := paired_get rel (List.getElem?_eq_getElem hik)
      rw [hx2] at hb'
      cases hb'
      exact ⟨kvs[i].2, by rw [List.getElem?_map, List.getElem?_eq_getElem hik]; rfl, e3⟩
def rValsA : V → List V → Hp → VK → Prop := fun x xs H Q => ∃ a vs, x = .ref a ∧ xs = [] ∧ Ent H a vs ∧ ∀ p, H p = none → Q (.ref p) (upd H p (viewO "dict_values" p a))
theorem mt_vals : MtR X "dict.values" rValsA := by
  intro pins s σ H x xs v us Q I rx rxs h
  obtain ⟨a, vs, rfl, rfl, ha, q⟩ := h
  cases rx
  cases rxs
  obtain ⟨hd, o, es, ep, ho, hx, hdt, hsz, ent⟩ := ent_raw I ha
  have raw : DT.Raw s.heap a es ep := ⟨o, ho, hx, hdt⟩
  have fin : EP X pins σ Q (.ref s.heap.objs.size) { s with heap := s.heap.push { cls := .type "dict_values", data := .fields #[.ref a] } } :=
    ⟨.ref s.heap.objs.size, upd H s.heap.objs.size (viewO "dict_values" s.heap.objs.size a), I.laid (t' := s.toks) (fun b u e => Heap.get?_push_of_some _ e) (Nat.le_refl _) (viewO_ok (Heap.get?_push_size _ rfl)), rfl, q _ (I.hok.fresh (Nat.le_refl _))⟩
  have meets : MeetsIn X.prog X.w (Builtin.«dict.values» ⟨[.ref a], []⟩) (fun _ R s => DT.Raw s.heap a es ep ∧
      R (.ok (.ret (.ref s.heap.objs.size))) { s with heap := s.heap.push { cls := .type "dict_values", data := .fields #[.ref a] } }) :=
    .of_wp fun A R s ⟨hm, h⟩ => by
      show wpAny _ _ (Builtin.Dict.noArgs "values" ⟨[.ref a], []⟩ >>= _) _ _ s
      unfold Builtin.Dict.noArgs
      refine wpAny_bind (wpAny_bind (wpAny_notOrdered_dict hm.typeIs ?_))
      show wpAny _ _ (pure a) _ _ s
      refine wpAny_pure ?_
      show wpAny _ _ (Builtin.Dict.showsAll a >>= _) _ _ s
      unfold Builtin.Dict.showsAll
      rw [if_neg (by rw [hd]; exact Bool.false_ne_true)]
      refine wpAny_bind (wpAny_pure ?_)
      exact wpAny_bind (wpAny_newObj_type (wpAny_pure ⟨_, rfl, h⟩))
  exact call_meetsIn PySem.F.slot_dict_values raw.typeIs PySem.F.entry_dict_values (PySem.F.args_dict_values_1 _) meets ⟨raw, fin⟩
def rSumV : List V → Hp → VK → Prop := fun xs H Q => ∃ (p a : Addr) (ns : List Int), xs = [V.ref p] ∧ H p = some (viewO "dict_values" p a) ∧ Ent H a (ns.map V.int) ∧ Q (.int ns.sum) H
theorem cr_sumV (hc : X.calm = true) : CallR X (.builtin "sum") rSumV := by
  intro pins s σ H xs us Q I rx h
  obtain ⟨p, a, ns, rfl, hp, ha, q⟩ := h
  rw [Vals.ref1 rx]
  obtain ⟨hd, o, es, ep, ho, hx, hdt, hsz, ent⟩ := ent_raw I ha
  have hv : s.heap.get? p = some (DSub.viewOb "dict_values" a) := (show ObjOk X.prog X.w H s.heap p (viewO "dict_values" p a) from I.hok p _ hp).1
  rw [List.length_map] at hsz
  have hP : ∀ (i : Nat) (e : DictEntry), es[i]? = some e → ∃ t, e.val = .int (ns.getD i 0) t := fun i e he => by
    obtain ⟨v, hv, rv⟩ := ent i e he
    rw [List.getElem?_map, Option.map_eq_some_iff] at hv
    obtain ⟨n, hn, rfl⟩ := hv
    have e3 : ns.getD i 0 = n := by rw [List.getD_eq_getElem?_getD, hn]; rfl
    rw [e3]
    exact rv
  refine call_sum_walkG ?_
  refine DSub.iter_vals hv ho hdt ?_
  have hal : a < s.heap.objs.size := Heap.lt_size ho
  refine ⟨s.heap.objs.size, [s.heap.objs.size, a], [s.heap.objs.size], es.size, fun i v => ∃ t, v = .int (ns.getD i 0) t, _, fun i => ns.getD i 0, rfl, DSub.walksVal (a := a) (show X.A.in1.handled = none from I.ok.hd hc) (Nat.ne_of_lt hal) hdt hP, ⟨Heap.get?_push_size _ rfl, Heap.get?_push_of_some _ ho⟩, fun b hb => ?_, fun i v z => z, fun h' tk t' hk => ?_⟩
  · show b < (s.heap.push _).objs.size
    rw [size_push']
    rcases List.mem_cons.mp hb with z | z
    · rw [z]
      exact Nat.lt_succ_self _
    · rw [List.mem_singleton.mp z]
      exact Nat.lt_succ_of_lt hal
  · have hk2 : ∀ b o, s.heap.get? b = some o → h'.get? b = some o := fun b o e => hk b o (fun z => by rw [List.mem_singleton.mp z] at e; exact absurd (Heap.lt_size e) (Nat.lt_irrefl _)) (Heap.get?_push_of_some _ e)
    have e : preSum (fun i => ns.getD i 0) es.size = ns.sum := by
      rw [hsz]
      have key : ∀ (l : List Int), preSum (fun i => l.getD i 0) l.length = l.sum := fun l => by
        induction l with
        | nil => rfl
        | cons x l ih =>
          rw [List.length_cons, PySem.W.kdu_shift]
          show x + preSum (fun i => l.getD i 0) l.length = _
          rw [ih, List.sum_cons]
      exact key ns
    rw [e]
    exact ⟨.int _, H, I.kept (t' := tk) hk2, ⟨t', rfl⟩, q⟩
/-- the values of a dict -/
def valsAt (A : AH) : AV → Option (List AV)
  | .obj n => match A[n]? with
    | some (.dK kvs) => some (kvs.map (·.2))
    | some (.dT kvs) => some (kvs.map (·.2))
    | _ => none
  | _ => none
theorem valsAt_ok {m : List Addr} {H : Hp} {A : AH} {x : AV} {v : V} {xs : List AV} (S : Sim cf m H A) (r : RelA cf.K m H x v) (h : valsAt A x = some xs) : ∃ a vs, v = .ref a ∧ Ent H a vs ∧ RelAs cf.K m H xs vs := by
  unfold valsAt at h
  split at h
  · split at h
    · rename_i e
      cases h
      obtain ⟨a, rfl, _, vs, h1, r⟩ := S.obj r e
      exact ⟨a, _, rfl, .inl ⟨vs, h1, rfl⟩, vals_rel r⟩
    · rename_i e
      cases h
      obtain ⟨a, rfl, _, vs, h1, r⟩ := S.obj r e
      exact ⟨a, _, rfl, .inr ⟨vs, h1, rfl⟩, vals_rel r⟩
    · cases h
  · cases h
/-- sum(d.values()) -/
def fSumV (fd : FE) : FE := fun ρ A => (fd ρ A).bind fun x A => match valsAt A x with
  | some xs => match mapO asI xs with
    | some ns => .ok (.int ns.sum) A
    | none => .er
  | none => .er
theorem c_sumV {o : Expr} {apos cpos p pos : Pos} {fd : FE} (hc : X.calm = true) (hm : X.mg "sum" = none) (ho : CE cf X W o fd) (hbase : attributeBase o "values" X.env (eval o X.env) = eval o X.env := by rfl) (hline : (apos.endLine == cpos.line) = true := by rfl)
    (hg : Gl X "sum" := by rfl) (he : starEach [.Call (.Attribute o "values" apos) [] [] cpos] X.env = (false, eval (.Call (.Attribute o "values" apos) [] [] cpos) X.env) :: starEach [] X.env := by rfl) (hpl : (backTo pos (starEach [] X.env)).any (·.1) = false := by rfl) :
    CE cf X W (.Call (.Name "sum" p) [.Call (.Attribute o "values" apos) [] [] cpos] [] pos) (fSumV fd) := by
  obtain ⟨t, pp, q⟩ := ho.ex
  refine ⟨_, pe_callB (cr_sumV hc) hg hm PyProof.Rows.boot_sum (pa_cons (pe_bm0 PySem.F.plainAttrs_dict PySem.F.slot_dict_values PySem.F.type_dict_values mt_vals pp hbase hline) pa_nil he) (by decide) (by decide) he hpl, fun ρ σ m H A Q S L P => ?_⟩
  refine q.then S L P fun x v m1 H1 A1 _ g1 L1 r1 P1 => ?_
  split at P1
  · rename_i xs e
    split at P1
    · rename_i ns e2
      obtain ⟨a, vs, rfl, hE, r⟩ := valsAt_ok g1.sim r1 e
      have ev := asI_all r e2
      subst ev
      have hT : tyV X.K "dict" (.ref a) H1 := by
        rcases hE with ⟨kvs, h, _⟩ | ⟨kvs, h, _⟩
        · exact .inr (.inr (.inl ⟨rfl, .inl ⟨kvs, h⟩⟩))
        · exact .inr (.inr (.inl ⟨rfl, .inr ⟨kvs, h⟩⟩))
      refine ⟨hT, a, _, rfl, rfl, hE, fun p hp => ?_⟩
      have g2 : Go cf m1 H1 m1 (upd H1 p (viewO "dict_values" p a)) A1 := go_side g1.sim hp
      have hpa : a ≠ p := fun z => by
        subst z
        rcases hE with ⟨kvs, h, _⟩ | ⟨kvs, h, _⟩ <;> (rw [hp] at h; cases h)
      refine ⟨p, a, ns, rfl, upd_same, ?_, P1 m1 _ _ g2 (.int _)⟩
      rcases hE with ⟨kvs, h, e3⟩ | ⟨kvs, h, e3⟩
      · exact .inl ⟨kvs, by rw [upd_ne hpa]; exact h, e3⟩
      · exact .inr ⟨kvs, by rw [upd_ne hpa]; exact h, e3⟩
    · exact P1.elim
  · exact P1.elim
end
end Dn

set_option maxRecDepth 100000
set_option maxHeartbeats 2000000
/-! Dn, part N: == and != by an own __eq__; isinstance against own classes. -/
namespace Dn
open PySem PySem.Spec L2 PyProof.Rows

section
open PySem.W
variable {prog : Program} {w : World} {A : Around} {E : Value → Shared → Prop} {s : Shared} {K : Frag} {x C L f : Addr} {h₀ : Heap} {m : Str → Option Value} {ox : Obj} {od : Option Obj} {b tb : Value}
theorem objNe_K {Q : Fin → Shared → Prop} (hu : A.units < cLine) (X : K.In s.heap) (I : InstAt s.heap x ox C od) (hs : findIn K (.ref C) "__eq__" = some (some (.ref f))) (hf : isFn K (.ref f) = true)
    (hcall : wpAny (model prog w) A (call (.ref f) [.ref x, b]) (fun v s' => ∃ k, v = .bool k ∧ Q (.done (.ret (.bool (!k)))) s') E s) :
    wpAny (model prog w) A (Builtin.«object.__ne__» ⟨[.ref x, b], []⟩) Q E s := by
  obtain ⟨hp, g, d, t, os⟩ := s
  unfold Builtin.«object.__ne__»
  repeat (first
    | with_reducible refine wpAny_cRoomFor hu ?_
    | (refine wpAny_bind (m := callSpecialIfBound? (.ref x) (Str.ofString "__eq__") [b])
        (PySem.W.ifBound_K X I hs hf (wpAny_mono hcall (fun r s' hr => by
          obtain ⟨k, rfl, hq⟩ := hr
          repeat (first | exact hq | exact wpAny_pure hq | exact wpAny_truthy_bool hq | (refine wpAny_bind (m := truthy (.bool _)) (wpAny_truthy_bool ?_)) | wp_step)) fun _ _ e => e)))
    | wp_step)
theorem ne_K {Q : Value → Shared → Prop} (hu : A.units + 1 < cLine) (F : Fr h₀ L s.heap m) (X₀ : K.In h₀) (I : InstAt s.heap x ox C od) (hb : Looks (model prog w) s.heap (typeOf b) tb) (hn : notFirst K C tb = true)
    (hne : findIn K (.ref C) "__ne__" = some (some (.builtin "object.__ne__"))) (hs : findIn K (.ref C) "__eq__" = some (some (.ref f))) (hf : isFn K (.ref f) = true) (ho : subIn K (.ref C) (.type "object") = some true)
    (h : wpAny (model prog w) A.in1 (call (.ref f) [.ref x, b]) (fun v s' => ∃ k, v = .bool k ∧ Q (.bool (!k)) s') E s) : wpAny (model prog w) A (richCompare .NotEq (.ref x) b) Q E s := by
  have X := X₀.keeps F.keep
  have S := PySem.F.slot_enumerate_ne
  have one : wpAny (model prog w) A (tryCompare (.ref x) (cmpInfo .NotEq).2.1 b) (fun r s' => ∃ v, r = some v ∧ Q v s') E s := by
    unfold tryCompare
    refine wpAny_bind ?_
    simp only [callSpecialIfBound?, bindSpecialIfBound?]
    refine wpAny_holding (wpAny_bind (wpAny_bind (wpAny_bind (I.type.here ((looks_findIn X hne).here ?_)))))
    refine wpAny_bind (wpAny_askSetting (wpAny_ite ?_))
    have fin : wpAny (model prog w) A (call (.builtin "object.__ne__") ([.ref x] ++ [b]) >>= fun v => pure (some v)) (fun r s' => wpAny (model prog w) A (match r with
      | some .notImplemented | none => pure none
      | some v => pure (some v)) (fun r s' => ∃ v, r = some v ∧ Q v s') E s') E s := by
      refine wpAny_bind (wpAny_call (codeAny_call_builtin S.plain PySem.F.cmpEntry_ne (check_slot PySem.F.cmpKind_ne PySem.F.cmpSplit_ne (I.type.andThen (looks_subIn X ho)) (PySem.F.cmpArgs_ne _ _)
        (objNe_K (A := A.in1) (by show A.units + 1 < cLine; exact hu) X I hs hf (wpAny_mono h (fun v s' hv => ?_) fun _ _ e => e)))))
      obtain ⟨k, rfl, hq⟩ := hv
      first
        | exact ⟨k, rfl, wpAny_pure (wpAny_pure ⟨_, rfl, hq⟩)⟩
        | exact ⟨k, rfl, wpAny_pure ⟨_, rfl, hq⟩⟩
        | exact ⟨k, rfl, ⟨_, rfl, hq⟩⟩
    split
    · refine wpAny_bind ?_
      rw [S.bind]
      exact wpAny_pure (wpAny_pure fin)
    · refine wpAny_tryCatch (wpAny_bind ?_)
      rw [S.bind]
      exact wpAny_pure (wpAny_pure fin)
  unfold richCompare
  simp only [oneThing_ref]
  refine wpAny_holding (wpAny_bind (wpAny_cRoomFor (Nat.lt_of_succ_lt hu) ?_))
  refine wpAny_bind (I.type.here (wpAny_bind (hb.here ?_)))
  split
  · rename_i q
    have e : subIn K tb (.ref C) = some false := by
      rcases Bool.or_eq_true_iff.mp hn with e | e
      · rw [beq_iff_eq.mp e] at q; simp at q
      · exact beq_iff_eq.mp e
    refine wpAny_bind ((looks_subIn X e).here ?_)
    simp only [Bool.false_eq_true, if_false]
    refine wpAny_bind (wpAny_mono one (fun r s' z => ?_) fun _ _ e => e)
    obtain ⟨v, rfl, hq⟩ := z
    exact wpAny_pure hq
  · refine wpAny_bind (wpAny_pure ?_)
    simp only [Bool.false_eq_true, if_false]
    refine wpAny_bind (wpAny_mono one (fun r s' z => ?_) fun _ _ e => e)
    obtain ⟨v, rfl, hq⟩ := z
    exact wpAny_pure hq
end

section
variable {cf : Cfg} {X : Cx} {W : WX}
/-- an instance of the class at C, with a dict or with slots -/
def InsAt (H : Hp) (a C : Addr) : Prop := (∃ dx vs, SlX.Slt H a C dx vs) ∨ ∃ dx fs, H a = some (.ins C dx fs)
theorem insAt_look {pins : List (Addr × Obj)} {σ : L2.St} {H : Hp} {s : Shared} {a C : Addr} (I : Inv X pins σ H s) (h : InsAt H a C) : ∃ ox od, PySem.W.InstAt s.heap a ox C od := by
  rcases h with ⟨dx, vs, h⟩ | ⟨dx, fs, h⟩
  · obtain ⟨sl, od, _, J, _⟩ := SlX.slt_inst I h
    exact ⟨_, _, J⟩
  · obtain ⟨mA, J, _⟩ := ins_get I.hok h
    obtain ⟨od, J, _⟩ := J.look
    exact ⟨_, _, J⟩
/-- x == y, x != y by the own def of the class at C, y an instance of it too -/
def rOwnE (C : Addr) (sp : Sp) (E : XK) : R2 := fun x y H Q => ∃ a b, x = .ref a ∧ y = .ref b ∧ InsAt H a C ∧ InsAt H b C ∧ sp [x, y] H Q E
def rOwnN (C : Addr) (sp : Sp) (E : XK) : R2 := fun x y H Q => ∃ a b, x = .ref a ∧ y = .ref b ∧ InsAt H a C ∧ InsAt H b C ∧ sp [x, y] H (fun z H' => ∃ k, z = .bl k ∧ Q (.bl (!k)) H') E
theorem op_ownE {CX : CXT} {C g : Addr} {n : Nat} {sp : Sp} {E : XK} (hs : PySem.W.findIn X.K (.ref C) "__eq__" = some (some (.ref g))) (hf : PySem.W.isFn X.K (.ref g) = true) (F : FnR X.prog X.w X.K X.mg X.base CX n g sp)
    (hr : Room n X.A) (hx : Passes CX X E) : OpR X (compareOp .Eq) (rOwnE C sp E) := by
  intro pins s σ H x y v u Q I rx ry h
  obtain ⟨a, b, rfl, rfl, ha, hb, q⟩ := h
  cases (show v = Value.ref a from rx)
  cases (show u = Value.ref b from ry)
  obtain ⟨ox, od, J⟩ := insAt_look I ha
  obtain ⟨ox', od', J'⟩ := insAt_look I hb
  obtain ⟨m, hF⟩ := I.fr
  refine PySem.W.cmp_K (op := .Eq) (tb := .ref C) hr.units0 hF I.ok.mod.kin J J'.type (by simp [PySem.W.notFirst]) hs hf ?_
  refine wpAny_mono (wpAny_call (run_fnR (us := [.ref a, .ref b]) (vs := [.ref a, .ref b]) F hr hx I (.cons rfl (.cons rfl .nil)) q)) (fun w s' z => ?_) fun _ _ x => x
  obtain ⟨z', H', I', rz, qz⟩ := z
  exact SlX.cmpback rz ⟨z', H', I', rz, qz⟩
theorem op_ownN {CX : CXT} {C g : Addr} {n : Nat} {sp : Sp} {E : XK} (hne : PySem.W.findIn X.K (.ref C) "__ne__" = some (some (.builtin "object.__ne__"))) (hs : PySem.W.findIn X.K (.ref C) "__eq__" = some (some (.ref g))) (hf : PySem.W.isFn X.K (.ref g) = true) (ho : PySem.W.subIn X.K (.ref C) (.type "object") = some true) (F : FnR X.prog X.w X.K X.mg X.base CX n g sp)
    (hr : Room (n + 1) X.A) (hx : Passes CX X E) : OpR X (compareOp .NotEq) (rOwnN C sp E) := by
  intro pins s σ H x y v u Q I rx ry h
  obtain ⟨a, b, rfl, rfl, ha, hb, q⟩ := h
  cases (show v = Value.ref a from rx)
  cases (show u = Value.ref b from ry)
  obtain ⟨ox, od, J⟩ := insAt_look I ha
  obtain ⟨ox', od', J'⟩ := insAt_look I hb
  obtain ⟨m, hF⟩ := I.fr
  refine ne_K (tb := .ref C) (hu_of hr) hF I.ok.mod.kin J J'.type (by simp [PySem.W.notFirst]) hne hs hf ho ?_
  refine wpAny_mono (wpAny_call (SlX.run_at (us := [.ref a, .ref b]) (ws := [.ref a, .ref b]) F (show Room n X.A.in1 from Room.in1 hr) I.env0.in1 hx I (.cons rfl (.cons rfl .nil)) q)) (fun w s' z => ?_) fun _ _ x => x
  obtain ⟨z', H', I', rz, k, ez, qz⟩ := z
  subst ez
  exact ⟨k, rz, .bl (!k), H', I', rfl, qz⟩
/-- the class of an object -/
theorem insAt_ok {m : List Addr} {H : Hp} {A : AH} {x : AV} {v : V} {c : Nat} (S : Sim cf m H A) (r : RelA cf.K m H x v) (h : clsA A x = some c) : ∃ a, v = .ref a ∧ InsAt H a (cf.cls c) := by
  unfold clsA at h
  split at h
  · split at h
    · rename_i e
      cases h
      obtain ⟨a, rfl, _, dx, vs, h1, _⟩ := S.obj r e
      exact ⟨a, rfl, .inr ⟨dx, _, h1⟩⟩
    · rename_i e
      cases h
      obtain ⟨a, rfl, _, dx, vs, ne, h1, _⟩ := S.obj r e
      exact ⟨a, rfl, .inl ⟨dx, vs, slt_of (m := m) h1⟩⟩
    · cases h
  · cases h
/-- R2Ok, for readings that may call -/
def R2OkE (cf : Cfg) (E : XK) (r : R2) (g : F2) : Prop := ∀ (m : List Addr) (H : Hp) (A : AH) (σ : L2.St) (Q : VK) (x y : AV) (v w : V), Sim cf m H A → RelA cf.K m H x v → RelA cf.K m H y w → Post cf (WD E) (rA cf) m H σ Q (g x y A) → r v w H Q
theorem c_cmpE {E : XK} {a b : Expr} {op : CmpOp} {pos : Pos} {r : R2} {g : F2} {fa fb : FE} (ho : OpR X (compareOp op) r) (hr : R2OkE cf E r g) (ha : CE cf X (WD E) a fa) (hb : CE cf X (WD E) b fb) (hm : behindInMarks op b = false := by first | exact nomark _ | rfl) : CE cf X (WD E) (.Compare a [op] [b] pos) (f2 g fa fb) := by
  obtain ⟨ta, pa, oa⟩ := ha.ex
  obtain ⟨tb, pb, ob⟩ := hb.ex
  refine ⟨_, pe_cmpR ho pa pb hm, fun ρ σ m H A Q S L P => ?_⟩
  refine oa.then S L P fun x v m1 H1 A1 _ g1 L1 r1 P1 => ?_
  refine ob.then g1.sim L1 P1 fun y w m2 H2 A2 _ g2 L2 r2 P2 => ?_
  exact hr m2 H2 A2 σ Q x y v w g2.sim (RelA.mono g2.pre g2.fz r1) r2 P2
theorem ct_cmpE {E : XK} {a b : Expr} {op : CmpOp} {pos : Pos} {r : R2} {g : F2} {fa fb : FE} (ho : OpR X (compareOp op) r) (hr : R2OkE cf E r g) (ha : CE cf X (WD E) a fa) (hb : CE cf X (WD E) b fb) (hm : behindInMarks op b = false := by first | exact nomark _ | rfl) : CT cf X (WD E) (.Compare a [op] [b] pos) (fB (f2 g fa fb)) := by
  obtain ⟨ta, pa, oa⟩ := ha.ex
  obtain ⟨tb, pb, ob⟩ := hb.ex
  refine ⟨_, pt_cmpR ho pa pb hm, ok_test fun ρ σ m H A Q S L P => ?_⟩
  refine oa.then S L P fun x v m1 H1 A1 _ g1 L1 r1 P1 => ?_
  refine ob.then g1.sim L1 P1 fun y w m2 H2 A2 _ g2 L2 r2 P2 => ?_
  exact hr m2 H2 A2 σ Q x y v w g2.sim (RelA.mono g2.pre g2.fz r1) r2 P2
/-- == of two of the class c, else of data -/
def gEqO (c : Nat) (G : FD) : F2 := fun x y A => match clsA A x, clsA A y with
  | some c1, some c2 => if c1 = c ∧ c2 = c then G [x, y] A else .er
  | _, _ => gEq x y A
def gNeO (c : Nat) (G : FD) : F2 := fun x y A => match clsA A x, clsA A y with
  | some c1, some c2 => if c1 = c ∧ c2 = c then (G [x, y] A).bind fun z A => match z with
      | .bl k => .ok (.bl (!k)) A
      | _ => .er
    else .er
  | _, _ => gNe x y A
abbrev rEqO (K : PySem.W.Frag) (C : Addr) (sp : Sp) (E : XK) : R2 := fun x y H Q => rEqD K x y H Q ∨ rOwnE C sp E x y H Q
abbrev rNeO (K : PySem.W.Frag) (C : Addr) (sp : Sp) (E : XK) : R2 := fun x y H Q => rNeD K x y H Q ∨ rOwnN C sp E x y H Q
theorem ok_eqO {E : XK} (c : Nat) (G : FD) : R2OkE cf E (rEqO cf.K (cf.cls c) (spOf cf 2 G) E) (gEqO c G) := fun m H A σ Q x y v w S rx ry P => by
  unfold gEqO at P
  split at P
  · rename_i c1 c2 e1 e2
    obtain ⟨⟨h1, h2⟩, P2⟩ := post_if P
    clear P
    subst h1 h2
    obtain ⟨a, rfl, ia⟩ := insAt_ok S rx e1
    obtain ⟨b, rfl, ib⟩ := insAt_ok S ry e2
    exact .inr ⟨a, b, rfl, rfl, ia, ib, m, A, [x, y], S, .cons rx (.cons ry .nil), rfl, post_wd P2⟩
  · exact .inl (ok_eq (WD E) m H A σ Q x y v w S rx ry P)
theorem ok_neO {E : XK} (c : Nat) (G : FD) : R2OkE cf E (rNeO cf.K (cf.cls c) (spOf cf 2 G) E) (gNeO c G) := fun m H A σ Q x y v w S rx ry P => by
  unfold gNeO at P
  split at P
  · rename_i c1 c2 e1 e2
    obtain ⟨⟨h1, h2⟩, P2⟩ := post_if P
    clear P
    subst h1 h2
    obtain ⟨a, rfl, ia⟩ := insAt_ok S rx e1
    obtain ⟨b, rfl, ib⟩ := insAt_ok S ry e2
    refine .inr ⟨a, b, rfl, rfl, ia, ib, m, A, [x, y], S, .cons rx (.cons ry .nil), rfl, ?_⟩
    cases eg : G [x, y] A with
    | ok z B =>
      rw [eg] at P2
      intro m1 H1 u g1 ru
      have P3 := Post.mono g1 P2
      simp only [Res.bind_ok] at P3
      cases z with
      | bl k => exact ⟨k, ru.to_bl, P3 m1 H1 _ (Go.refl g1.sim) (.bl _)⟩
      | _ => exact P3.elim
    | exc ex B =>
      rw [eg] at P2
      exact P2
    | er =>
      rw [eg] at P2
      exact P2.elim
  · exact .inl (ok_ne (WD E) m H A σ Q x y v w S rx ry P)
/-- what == and != ask of a class -/
structure OwnEq (cf : Cfg) (c : Nat) : Prop where
  ne : PySem.W.findIn cf.K (.ref (cf.cls c)) "__ne__" = some (some (.builtin "object.__ne__"))
  ob : PySem.W.subIn cf.K (.ref (cf.cls c)) (.type "object") = some true
theorem op_eqO {E : XK} {qual : Str} {st : Stmt} {k j c : Nat} {p q : Str} {G : FD} (D : Mf X.prog X.w cf X.mg X.base c "__eq__" qual st [p, q] k G) (hb : BindsT "__eq__" qual st [p, q]) (hK : X.K = cf.K) (hr : Room j X.A) (hj : k ≤ j) (tk : Takes X (WD E)) :
    OpR X (compareOp .Eq) (rEqO cf.K (cf.cls c) (spOf cf 2 G) E) := by
  obtain ⟨g, fd, F, hm, O⟩ := D.ex
  have hbn := F.binds hb
  rw [← hK] at O hbn hm
  have h := (op_eqD (X := X) hr.units).or (op_ownE hm.at_ hm.fn (fnR_of O hbn) (hr.mono hj) (passW (W := WD E) tk))
  rw [hK] at h
  exact h
theorem op_neO {E : XK} {qual : Str} {st : Stmt} {k j c : Nat} {p q : Str} {G : FD} (D : Mf X.prog X.w cf X.mg X.base c "__eq__" qual st [p, q] k G) (B : OwnEq cf c) (hb : BindsT "__eq__" qual st [p, q]) (hK : X.K = cf.K) (hr : Room j X.A) (hj : k + 1 ≤ j) (tk : Takes X (WD E)) :
    OpR X (compareOp .NotEq) (rNeO cf.K (cf.cls c) (spOf cf 2 G) E) := by
  obtain ⟨g, fd, F, hm, O⟩ := D.ex
  have hbn := F.binds hb
  have hn := B.ne
  have ho := B.ob
  rw [← hK] at O hbn hm hn ho
  have h := (op_neD (X := X) hr.units).or (op_ownN hn hm.at_ hm.fn ho (fnR_of O hbn) (hr.mono hj) (passW (W := WD E) tk))
  rw [hK] at h
  exact h

/-! ### isinstance(x, C) of own classes -/
/-- by the class of x: the answer -/
abbrev RelC := List (Nat × Bool)
def relAt (t : RelC) (c : Nat) : Option Bool := (t.find? fun p => p.1 == c).map (·.2)
theorem relAt_mem {t : RelC} {c : Nat} {b : Bool} (h : relAt t c = some b) : (c, b) ∈ t := by
  unfold relAt at h
  rw [Option.map_eq_some_iff] at h
  obtain ⟨p, h1, rfl⟩ := h
  have h2 := List.find?_some h1
  have h3 := List.mem_of_find?_eq_some h1
  obtain ⟨a, b⟩ := p
  have e : a = c := by simpa using h2
  subst e
  exact h3
/-- what isinstance asks of x's class c, the answer b -/
structure IsiS (cf : Cfg) (u : Value) (c : Nat) (b : Bool) : Prop where
  ic : SlX.SIsi cf.K (cf.cls c)
  cl : SlX.SCls cf.K (cf.cls c)
  kt : PySem.W.kitOne cf.K (.ref (cf.cls c)) u = some b
structure IsiI (cf : Cfg) (u : Value) (c : Nat) (b : Bool) : Prop where
  ic : SlX.SIsi cf.K (cf.cls c)
  cl : Cls cf.K (cf.cls c)
  kt : PySem.W.kitOne cf.K (.ref (cf.cls c)) u = some b
/-- isinstance(x, C), by x's class; false for a value of a built-in type -/
def fIsiC (ri rs : RelC) (fe : FE) : FE := fun ρ A => (fe ρ A).bind fun x A => match x with
  | .obj n => match A[n]? with
    | some (.ins c _) => match relAt ri c with
      | some b => .ok (.bl b) A
      | none => .er
    | some (.slt c _) => match relAt rs c with
      | some b => .ok (.bl b) A
      | none => .er
    | _ => if tyS A x ≠ "?" then .ok (.bl false) A else .er
  | _ => if tyS A x ≠ "?" then .ok (.bl false) A else .er
theorem c_isiC {e : Expr} {xC : Str} {C : Addr} {p p2 pos : Pos} {fe : FE} (ri rs : RelC) (hK : X.K = cf.K) (hI : X.mg "isinstance" = none) (hm : X.mg xC = some (.ref C)) (hb : ∀ t ∈ tyNames, PySem.W.kitOne cf.K (.type t) (.ref C) = some false)
    (hi : ∀ q ∈ ri, IsiI cf (.ref C) q.1 q.2) (hs : ∀ q ∈ rs, IsiS cf (.ref C) q.1 q.2) (he : CE cf X W e fe) (hgI : Gl X "isinstance" := by rfl) (hg : Gl X xC := by rfl) (hd : (xC == ("__debug__" : Str)) = false := by decide)
    (hst : starEach [e, .Name xC p2] X.env = (false, eval e X.env) :: starEach [.Name xC p2] X.env := by rfl) (hs2 : starEach [.Name xC p2] X.env = (false, eval (.Name xC p2) X.env) :: starEach [] X.env := by rfl) (hpl : (backTo pos (starEach [.Name xC p2] X.env)).any (·.1) = false := by rfl) :
    CE cf X W (.Call (.Name "isinstance" p) [e, .Name xC p2] [] pos) (fIsiC ri rs fe) := by
  obtain ⟨t, q, o⟩ := he.ex
  have pC : PE X (.Name xC p2) (tC (.ref C)) := pe_glob (v := .ref C) hg hm rfl hd
  refine ⟨_, pe_callB ((SlX.call_isiSl (.ref C)).or call_isi) hgI hI boot_isinstance (pa_cons q (pa_cons pC pa_nil hs2) hst) (by decide) (by decide) hst hpl, fun ρ σ m H A Q S L P => ?_⟩
  refine o.then S L P fun x v m1 H1 A1 _ g1 L1 r P1 => ?_
  rw [hK]
  have base : tyS A1 x ≠ "?" → Q (.bl false) H1 → rIsi cf.K [v, .ref C] H1 Q := fun h1 hq => ⟨v, .ref C, _, _, _, rfl, .own C, tyX_ok g1.sim r h1, hb _ (tyS_in h1), hq⟩
  split at P1
  · rename_i n
    split at P1
    · rename_i c fs e1
      split at P1
      · rename_i b eb
        obtain ⟨F1, F2, F3⟩ := hi _ (relAt_mem eb)
        obtain ⟨a, rfl, _, dx, vs, h1, _⟩ := g1.sim.obj r e1
        exact .inr ⟨.ref a, .ref C, _, _, b, rfl, .own C, .base (.ins h1 F2 F1.ca F1.cn F1.ct F1.cm), F3, P1 m1 H1 _ (Go.refl g1.sim) (.bl _)⟩
      · exact P1.elim
    · rename_i c fs e1
      split at P1
      · rename_i b eb
        obtain ⟨F1, F2, F3⟩ := hs _ (relAt_mem eb)
        obtain ⟨a, rfl, _, dx, vs, ne, h1, _⟩ := g1.sim.obj r e1
        exact .inl ⟨a, _, dx, vs, .ref C, b, rfl, rfl, fun w hw => hw, slt_of (m := m1) h1, F2, F1, F3, P1 m1 H1 _ (Go.refl g1.sim) (.bl _)⟩
      · exact P1.elim
    · obtain ⟨h1, P1⟩ := post_if P1
      exact .inr (base h1 (P1 m1 H1 _ (Go.refl g1.sim) (.bl _)))
  · obtain ⟨h1, P1⟩ := post_if P1
    exact .inr (base h1 (P1 m1 H1 _ (Go.refl g1.sim) (.bl _)))
end
end Dn

set_option maxRecDepth 100000
set_option maxHeartbeats 2000000
/-! Dn, part Na: == by an own __eq__ on the other side of a built-in thing; on the left of anything. -/
namespace Dn
open PySem PySem.Spec L2 PyProof.Rows
section
open PySem.W PySem.SeqAt
variable {prog : Program} {w : World} {A : Around} {E : Value → Shared → Prop} {s : Shared} {K : Frag} {x C L f : Addr} {h₀ : Heap} {m : Str → Option Value} {ox : Obj} {od : Option Obj} {a : Value}
/-- a == x, a of a built-in type whose == declines, x of the class C -/
theorem cmpR_K {T id : String} {Q : Value → Shared → Prop} (hu : A.units < cLine) (F : Fr h₀ L s.heap m) (X₀ : K.In h₀) (I : InstAt s.heap x ox C od) (ha : s.TypeIs a T) (hn : subIn K (.ref C) (.type T) = some false)
    (h1 : Slot T (cmpInfo .Eq).2.1 id) (hc1 : ∀ Q' : Value → Shared → Prop, Q' .notImplemented s → wpAny (model prog w) A (call (.builtin id) [a, .ref x]) Q' E s)
    (hs : findIn K (.ref C) "__eq__" = some (some (.ref f))) (hf : isFn K (.ref f) = true)
    (h : wpAny (model prog w) A (call (.ref f) [.ref x, a]) (PySem.W.CmpBack Q) E s) : wpAny (model prog w) A (richCompare .Eq a (.ref x)) Q E s := by
  have X := X₀.keeps F.keep
  have one : wpAny (model prog w) A (tryCompare (.ref x) (cmpInfo .Eq).2.2 a) (fun r s' => ∃ v, r = some v ∧ Q v s') E s := by
    unfold tryCompare
    refine wpAny_bind (ifBound_K X I (show findIn K (.ref C) (cmpInfo .Eq).2.2 = _ from hs) hf (wpAny_mono h (fun v s' hv => ?_) fun _ _ e => e))
    cases v <;> first | exact hv.elim | exact wpAny_pure ⟨_, rfl, hv⟩
  rcases hi : cmpInfo CmpOp.Eq with ⟨sym, g, r⟩
  rw [hi] at h1 one
  unfold richCompare
  simp only [hi, ha.oneThing_none]
  refine wpAny_holding (wpAny_bind (wpAny_cRoomFor hu ?_))
  refine wpAny_bind (wpAny_typeOf ha (wpAny_bind (I.type.here ?_)))
  rw [if_pos (show (Value.type T != Value.ref C) = true from by simp)]
  refine wpAny_bind ((looks_subIn X hn).here ?_)
  simp only [Bool.false_eq_true, if_false, Bool.not_false, if_true]
  refine wpAny_bind (m := tryCompare a _ (.ref x)) (wpAny_tryCompare_declines ha h1 (hc1 _ ⟨rfl, ?_⟩))
  refine wpAny_bind (wpAny_mono one (fun r s' z => ?_) fun _ _ e => e)
  obtain ⟨v, rfl, hq⟩ := z
  exact wpAny_pure hq
/-- the built-in ones decline -/
theorem declN {l : Addr} {Q : Value → Shared → Prop} (hq : Q .notImplemented s) : wpAny (model prog w) A (call (.builtin "NoneType.__eq__") [.none, .ref l]) Q E s :=
  call_gives PySem.F.slot_NoneType_eq rfl PySem.F.entry_NoneType_eq (PySem.F.args_NoneType_eq_2 _ _) (NoneType___eq___none_ref_0 l) hq
theorem declI {i : Int} {t : Tok} {dx : Addr} {Q : Value → Shared → Prop} (hx : s.heap.get? x = some (PySem.W.instObj C dx)) (hq : Q .notImplemented s) : wpAny (model prog w) A (call (.builtin "int.__eq__") [.int i t, .ref x]) Q E s := by
  obtain ⟨hp, g, d, tk, os⟩ := s
  refine wpAny_call_entry PySem.F.slot_int_eq (typeIs_int _ _ _) PySem.F.entry_int_eq ?_ (PySem.F.args_int_eq_2 _ _)
  wp_walk using wpAny_load hx
  exact ⟨_, rfl, hq⟩
theorem declS {i : Str} {t : Tok} {dx : Addr} {Q : Value → Shared → Prop} (hx : s.heap.get? x = some (PySem.W.instObj C dx)) (hq : Q .notImplemented s) : wpAny (model prog w) A (call (.builtin "str.__eq__") [.str i t, .ref x]) Q E s := by
  obtain ⟨hp, g, d, tk, os⟩ := s
  refine wpAny_call_entry PySem.F.slot_str_eq (typeIs_str _ _ _) PySem.F.entry_str_eq ?_ (PySem.F.args_str_eq_2 _ _)
  wp_walk using wpAny_load hx
  exact ⟨_, rfl, hq⟩
theorem declL {l : Addr} {o : Obj} {Q : Value → Shared → Prop} (hl : s.heap.get? l = some o) (hc : o.cls = .type "list") (hin : Looks (model prog w) s.heap (isInstance (.ref x) (.type "list")) false) (hq : Q .notImplemented s) :
    wpAny (model prog w) A (call (.builtin "list.__eq__") [.ref l, .ref x]) Q E s := by
  obtain ⟨hp, g, d, tk, os⟩ := s
  refine wpAny_call_entry PySem.F.slot_list_eq ⟨_, hl, hc⟩ PySem.F.entry_list_eq ?_ (PySem.F.args_list_eq_2 _ _)
  unfold Builtin.«list.__eq__»
  repeat (first | (with_reducible refine Looks.at hin ?_) | (with_reducible refine wpAny_load hl ?_) | wp_step)
  all_goals first | exact ⟨_, rfl, hq⟩ | skip
theorem declT {l : Addr} {o : Obj} {Q : Value → Shared → Prop} (hl : s.heap.get? l = some o) (hc : o.cls = .type "tuple") (hin : Looks (model prog w) s.heap (isInstance (.ref x) (.type "tuple")) false) (hq : Q .notImplemented s) :
    wpAny (model prog w) A (call (.builtin "tuple.__eq__") [.ref l, .ref x]) Q E s := by
  obtain ⟨hp, g, d, tk, os⟩ := s
  refine wpAny_call_entry PySem.F.slot_tuple_eq ⟨_, hl, hc⟩ PySem.F.entry_tuple_eq ?_ (PySem.F.args_tuple_eq_2 _ _)
  unfold Builtin.«tuple.__eq__»
  repeat (first | (with_reducible refine Looks.at hin ?_) | (with_reducible refine wpAny_load hl ?_) | wp_step)
  all_goals first | exact ⟨_, rfl, hq⟩ | skip
end

section
variable {cf : Cfg} {X : Cx} {W : WX}
def isTyV : Value → Bool
  | .type _ => true
  | _ => false
theorem bi_all : ∀ T ∈ tyNames, ((fastBuiltinMro T).map (·.all isTyV)) = some true := by decide +kernel
theorem bi_notSub (K : PySem.W.Frag) (C : Addr) : ∀ T ∈ tyNames, PySem.W.subIn K (.type T) (.ref C) = some false := fun T hT => by
  have h := bi_all T hT
  obtain ⟨l, h1, h2⟩ := Option.map_eq_some_iff.mp h
  show (fastBuiltinMro T).map (·.contains (.ref C)) = some false
  rw [h1, Option.map_some]
  refine congrArg some (Bool.eq_false_iff.mpr fun z => ?_)
  have e := List.all_eq_true.mp h2 _ (List.contains_iff_mem.mp z)
  cases e
/-- what stands on the other side -/
def OthT (K : PySem.W.Frag) (H : Hp) (C : Addr) (y : V) : Prop := (∃ T, T ∈ tyNames ∧ TyX K H y (.type T)) ∨ ∃ b C2, y = .ref b ∧ InsAt H b C2 ∧ (C2 = C ∨ PySem.W.subIn K (.ref C2) (.ref C) = some false)
theorem oth_look {pins : List (Addr × Obj)} {σ : L2.St} {H : Hp} {s : Shared} {C : Addr} {y : V} {u : Value} (I : Inv X pins σ H s) (r : RelV y u) (h : OthT X.K H C y) : ∃ tb, PySem.W.Looks (model X.prog X.w) s.heap (typeOf u) tb ∧ PySem.W.notFirst X.K C tb = true := by
  rcases h with ⟨T, hT, ty⟩ | ⟨b, C2, rfl, hb, hc⟩
  · obtain ⟨P, Z, hP, _⟩ := kit_of I r ty
    exact ⟨.type T, Z.ty _ _ I.kIn hP, by unfold PySem.W.notFirst; rw [bi_notSub X.K C T hT]; simp⟩
  · cases (show u = Value.ref b from r)
    obtain ⟨ox, od, J⟩ := insAt_look I hb
    refine ⟨.ref C2, J.type, ?_⟩
    unfold PySem.W.notFirst
    rcases hc with rfl | hc
    · simp
    · rw [hc]
      simp
def rOwnLE (K : PySem.W.Frag) (C : Addr) (sp : Sp) (E : XK) : R2 := fun x y H Q => ∃ a, x = .ref a ∧ InsAt H a C ∧ OthT K H C y ∧ sp [x, y] H Q E
def rOwnLN (K : PySem.W.Frag) (C : Addr) (sp : Sp) (E : XK) : R2 := fun x y H Q => ∃ a, x = .ref a ∧ InsAt H a C ∧ OthT K H C y ∧ sp [x, y] H (fun z H' => ∃ k, z = .bl k ∧ Q (.bl (!k)) H') E
theorem op_ownLE {CX : CXT} {C g : Addr} {n : Nat} {sp : Sp} {E : XK} (hs : PySem.W.findIn X.K (.ref C) "__eq__" = some (some (.ref g))) (hf : PySem.W.isFn X.K (.ref g) = true) (F : FnR X.prog X.w X.K X.mg X.base CX n g sp)
    (hr : Room n X.A) (hx : Passes CX X E) : OpR X (compareOp .Eq) (rOwnLE X.K C sp E) := by
  intro pins s σ H x y v u Q I rx ry h
  obtain ⟨a, rfl, ha, hb, q⟩ := h
  cases (show v = Value.ref a from rx)
  obtain ⟨ox, od, J⟩ := insAt_look I ha
  obtain ⟨tb, J', hn⟩ := oth_look I ry hb
  obtain ⟨m, hF⟩ := I.fr
  refine PySem.W.cmp_K (op := .Eq) (tb := tb) hr.units0 hF I.ok.mod.kin J J' hn hs hf ?_
  refine wpAny_mono (wpAny_call (run_fnR (us := [.ref a, u]) (vs := [.ref a, y]) F hr hx I (.cons rfl (.cons ry .nil)) q)) (fun w s' z => ?_) fun _ _ x => x
  obtain ⟨z', H', I', rz, qz⟩ := z
  exact SlX.cmpback rz ⟨z', H', I', rz, qz⟩
theorem op_ownLN {CX : CXT} {C g : Addr} {n : Nat} {sp : Sp} {E : XK} (hne : PySem.W.findIn X.K (.ref C) "__ne__" = some (some (.builtin "object.__ne__"))) (hs : PySem.W.findIn X.K (.ref C) "__eq__" = some (some (.ref g))) (hf : PySem.W.isFn X.K (.ref g) = true) (ho : PySem.W.subIn X.K (.ref C) (.type "object") = some true) (F : FnR X.prog X.w X.K X.mg X.base CX n g sp)
    (hr : Room (n + 1) X.A) (hx : Passes CX X E) : OpR X (compareOp .NotEq) (rOwnLN X.K C sp E) := by
  intro pins s σ H x y v u Q I rx ry h
  obtain ⟨a, rfl, ha, hb, q⟩ := h
  cases (show v = Value.ref a from rx)
  obtain ⟨ox, od, J⟩ := insAt_look I ha
  obtain ⟨tb, J', hn⟩ := oth_look I ry hb
  obtain ⟨m, hF⟩ := I.fr
  refine ne_K (tb := tb) (hu_of hr) hF I.ok.mod.kin J J' hn hne hs hf ho ?_
  refine wpAny_mono (wpAny_call (SlX.run_at (us := [.ref a, u]) (ws := [.ref a, y]) F (show Room n X.A.in1 from Room.in1 hr) I.env0.in1 hx I (.cons rfl (.cons ry .nil)) q)) (fun w s' z => ?_) fun _ _ x => x
  obtain ⟨z', H', I', rz, k, ez, qz⟩ := z
  subst ez
  exact ⟨k, rz, .bl (!k), H', I', rfl, qz⟩
/-- something built in whose == declines -/
def DecT (H : Hp) (x : V) : Prop := x = .non ∨ (∃ i, x = .int i) ∨ (∃ i, x = .str i) ∨ (∃ a vs, x = .ref a ∧ H a = some (.lst vs)) ∨ ∃ a vs, x = .ref a ∧ H a = some (.tup vs)
def NoB (K : PySem.W.Frag) (C : Addr) : Prop := ∀ T ∈ ["NoneType", "int", "str", "list", "tuple"], PySem.W.subIn K (.ref C) (.type T) = some false
def rOwnRE (C : Addr) (sp : Sp) (E : XK) : R2 := fun x y H Q => ∃ b dx fs, y = .ref b ∧ H b = some (.ins C dx fs) ∧ DecT H x ∧ sp [y, x] H Q E
theorem op_ownRE {CX : CXT} {C g : Addr} {n : Nat} {sp : Sp} {E : XK} (hs : PySem.W.findIn X.K (.ref C) "__eq__" = some (some (.ref g))) (hf : PySem.W.isFn X.K (.ref g) = true) (hB : NoB X.K C) (F : FnR X.prog X.w X.K X.mg X.base CX n g sp)
    (hr : Room n X.A) (hx : Passes CX X E) : OpR X (compareOp .Eq) (rOwnRE C sp E) := by
  intro pins s σ H x y v u Q I rx ry h
  obtain ⟨b, dx, fs, rfl, hb, hd, q⟩ := h
  cases (show u = Value.ref b from ry)
  obtain ⟨mA, J0, _⟩ := ins_get I.hok hb
  obtain ⟨od, J, _⟩ := J0.look
  obtain ⟨m, hF⟩ := I.fr
  have hob : s.heap.get? b = some (PySem.W.instObj C dx) := by
    obtain ⟨_, _, _, ho, _⟩ := (show ObjOk X.prog X.w H s.heap b (.ins C dx fs) from I.hok b _ hb)
    exact ho
  have K1 := I.kIn
  have back : wpAny (model X.prog X.w) X.A (call (.ref g) [.ref b, v]) (PySem.W.CmpBack fun z s' => ∃ z' H', Inv X pins σ H' s' ∧ RelV z' z ∧ Q z' H') X.xe s := by
    refine wpAny_mono (wpAny_call (run_fnR (us := [.ref b, v]) (vs := [.ref b, x]) F hr hx I (.cons rfl (.cons rx .nil)) q)) (fun w s' z => ?_) fun _ _ x => x
    obtain ⟨z', H', I', rz, qz⟩ := z
    exact SlX.cmpback rz ⟨z', H', I', rz, qz⟩
  have hin : ∀ T ∈ ["NoneType", "int", "str", "list", "tuple"], PySem.W.Looks (model X.prog X.w) s.heap (isInstance (.ref b) (.type T)) false := fun T hT => J.type.andThen (PySem.W.looks_subIn K1 (hB T hT))
  rcases hd with rfl | ⟨i, rfl⟩ | ⟨i, rfl⟩ | ⟨a, vs, rfl, ha⟩ | ⟨a, vs, rfl, ha⟩
  · cases (show v = Value.none from rx)
    exact cmpR_K hr.units0 hF I.ok.mod.kin J rfl (hB "NoneType" (by decide)) PySem.F.slot_NoneType_eq (fun Q' hq => declN hq) hs hf back
  · obtain ⟨t, e⟩ := (show ∃ t, v = Value.int i t from rx)
    cases e
    exact cmpR_K hr.units0 hF I.ok.mod.kin J (typeIs_int _ _ _) (hB "int" (by decide)) PySem.F.slot_int_eq (fun Q' hq => declI hob hq) hs hf back
  · obtain ⟨t, e⟩ := (show ∃ t, v = Value.str i t from rx)
    cases e
    exact cmpR_K hr.units0 hF I.ok.mod.kin J (typeIs_str _ _ _) (hB "str" (by decide)) PySem.F.slot_str_eq (fun Q' hq => declS hob hq) hs hf back
  · cases (show v = Value.ref a from rx)
    obtain ⟨_, _, n, _, h1⟩ := (show ObjOk X.prog X.w H s.heap a (.lst vs) from I.hok a _ ha)
    exact cmpR_K hr.units0 hF I.ok.mod.kin J ⟨_, h1, rfl⟩ (hB "list" (by decide)) PySem.F.slot_list_eq (fun Q' hq => declL h1 rfl (hin _ (by decide)) hq) hs hf back
  · cases (show v = Value.ref a from rx)
    obtain ⟨_, _, _, o, h1, h2, _⟩ := (show ObjOk X.prog X.w H s.heap a (.tup vs) from I.hok a _ ha)
    exact cmpR_K hr.units0 hF I.ok.mod.kin J ⟨_, h1, h2⟩ (hB "tuple" (by decide)) PySem.F.slot_tuple_eq (fun Q' hq => declT h1 h2 (hin _ (by decide)) hq) hs hf back
end

section
variable {cf : Cfg} {X : Cx} {W : WX}
def othA (A : AH) (c : Nat) (cs : List Nat) (y : AV) : Bool := match clsA A y with
  | some c2 => c2 == c || cs.contains c2
  | none => tyS A y != "?"
def decA (A : AH) : AV → Bool
  | .non => true
  | .int _ => true
  | .str _ => true
  | .tup _ => true
  | .obj n => match A[n]? with
    | some (.lst _) => true
    | _ => false
  | _ => false
def insA (A : AH) (c : Nat) : AV → Bool
  | .obj n => match A[n]? with
    | some (.ins c2 _) => c2 == c
    | _ => false
  | _ => false
/-- x == y by the own def of c's, x of c -/
def gOwnL (c : Nat) (cs : List Nat) (G : FD) (g : F2) : F2 := fun x y A => if clsA A x = some c then (if othA A c cs y = true then G [x, y] A else .er) else g x y A
def gOwnN (c : Nat) (cs : List Nat) (G : FD) (g : F2) : F2 := fun x y A => if clsA A x = some c then (if othA A c cs y = true then (G [x, y] A).bind fun z A => match z with
    | .bl k => .ok (.bl (!k)) A
    | _ => .er
  else .er) else g x y A
/-- x == y by the own def of c's, y of c, x built in -/
def gOwnR (c : Nat) (G : FD) (g : F2) : F2 := fun x y A => if insA A c y = true ∧ decA A x = true then G [y, x] A else g x y A
/-- the classes cs are not below c -/
def OthF (cf : Cfg) (c : Nat) (cs : List Nat) : Prop := ∀ c2 ∈ cs, PySem.W.subIn cf.K (.ref (cf.cls c2)) (.ref (cf.cls c)) = some false
theorem oth_ok {m : List Addr} {H : Hp} {A : AH} {y : AV} {v : V} {c : Nat} {cs : List Nat} (S : Sim cf m H A) (r : RelA cf.K m H y v) (F : OthF cf c cs) (h : othA A c cs y = true) : OthT cf.K H (cf.cls c) v := by
  unfold othA at h
  split at h
  · rename_i c2 e
    obtain ⟨b, rfl, hb⟩ := insAt_ok S r e
    refine .inr ⟨b, _, rfl, hb, ?_⟩
    rcases Bool.or_eq_true_iff.mp h with h | h
    · exact .inl (by rw [beq_iff_eq.mp h])
    · exact .inr (F c2 (List.contains_iff_mem.mp h))
  · have h : tyS A y ≠ "?" := by simpa using h
    exact .inl ⟨_, tyS_in h, tyX_ok S r h⟩
theorem dec_ok {m : List Addr} {H : Hp} {A : AH} {y : AV} {v : V} (S : Sim cf m H A) (r : RelA cf.K m H y v) (h : decA A y = true) : DecT H v := by
  unfold decA at h
  split at h
  · exact .inl r.to_non
  · exact .inr (.inl ⟨_, r.to_int⟩)
  · exact .inr (.inr (.inl ⟨_, r.to_str⟩))
  · obtain ⟨a, vs, e, h1, _⟩ := r.to_tup
    exact .inr (.inr (.inr (.inr ⟨a, vs, e, h1⟩)))
  · split at h
    · rename_i xs e
      obtain ⟨a, e1, _, vs, h1, _⟩ := S.obj r e
      exact .inr (.inr (.inr (.inl ⟨a, vs, e1, h1⟩)))
    · cases h
  · cases h
theorem ins_okA {m : List Addr} {H : Hp} {A : AH} {y : AV} {v : V} {c : Nat} (S : Sim cf m H A) (r : RelA cf.K m H y v) (h : insA A c y = true) : ∃ b dx fs, v = .ref b ∧ H b = some (.ins (cf.cls c) dx fs) := by
  unfold insA at h
  split at h
  · split at h
    · rename_i c2 fs e
      have h := beq_iff_eq.mp h
      subst h
      obtain ⟨a, rfl, _, dx, vs, h1, _⟩ := S.obj r e
      exact ⟨a, dx, _, rfl, h1⟩
    · cases h
  · cases h
theorem ok_own0 {E : XK} {r : R2} {g : F2} (h : R2Ok cf r g) : R2OkE cf E r g := fun m H A σ Q x y v w S rx ry P => h (WD E) m H A σ Q x y v w S rx ry P
theorem ok_ownL {E : XK} {c : Nat} {cs : List Nat} {G : FD} {r : R2} {g : F2} (F : OthF cf c cs) (h : R2OkE cf E r g) : R2OkE cf E (fun x y H Q => rOwnLE cf.K (cf.cls c) (spOf cf 2 G) E x y H Q ∨ r x y H Q) (gOwnL c cs G g) := fun m H A σ Q x y v w S rx ry P => by
  unfold gOwnL at P
  split at P
  · rename_i e1
    obtain ⟨e2, P2⟩ := post_if P
    obtain ⟨a, rfl, ia⟩ := insAt_ok S rx e1
    exact .inl ⟨a, rfl, ia, oth_ok S ry F e2, m, A, [x, y], S, .cons rx (.cons ry .nil), rfl, post_wd P2⟩
  · exact .inr (h m H A σ Q x y v w S rx ry P)
theorem ok_ownN {E : XK} {c : Nat} {cs : List Nat} {G : FD} {r : R2} {g : F2} (F : OthF cf c cs) (h : R2OkE cf E r g) : R2OkE cf E (fun x y H Q => rOwnLN cf.K (cf.cls c) (spOf cf 2 G) E x y H Q ∨ r x y H Q) (gOwnN c cs G g) := fun m H A σ Q x y v w S rx ry P => by
  unfold gOwnN at P
  split at P
  · rename_i e1
    obtain ⟨e2, P2⟩ := post_if P
    obtain ⟨a, rfl, ia⟩ := insAt_ok S rx e1
    refine .inl ⟨a, rfl, ia, oth_ok S ry F e2, m, A, [x, y], S, .cons rx (.cons ry .nil), rfl, ?_⟩
    clear P
    cases eg : G [x, y] A with
    | ok z B =>
      rw [eg] at P2
      intro m1 H1 u g1 ru
      have P3 := Post.mono g1 P2
      simp only [Res.bind_ok] at P3
      cases z with
      | bl k => exact ⟨k, ru.to_bl, P3 m1 H1 _ (Go.refl g1.sim) (.bl _)⟩
      | _ => exact P3.elim
    | exc ex B =>
      rw [eg] at P2
      exact P2
    | er =>
      rw [eg] at P2
      exact P2.elim
  · exact .inr (h m H A σ Q x y v w S rx ry P)
theorem ok_ownR {E : XK} {c : Nat} {G : FD} {r : R2} {g : F2} (h : R2OkE cf E r g) : R2OkE cf E (fun x y H Q => rOwnRE (cf.cls c) (spOf cf 2 G) E x y H Q ∨ r x y H Q) (gOwnR c G g) := fun m H A σ Q x y v w S rx ry P => by
  unfold gOwnR at P
  split at P
  · rename_i e
    obtain ⟨b, dx, fs, rfl, hb⟩ := ins_okA S ry e.1
    exact .inl ⟨b, dx, fs, rfl, hb, dec_ok S rx e.2, m, A, [y, x], S, .cons ry (.cons rx .nil), rfl, post_wd P⟩
  · exact .inr (h m H A σ Q x y v w S rx ry P)
theorem op_L {E : XK} {qual : Str} {st : Stmt} {k j c : Nat} {p q : Str} {G : FD} {r : R2} (D : Mf X.prog X.w cf X.mg X.base c "__eq__" qual st [p, q] k G) (hb : BindsT "__eq__" qual st [p, q]) (hK : X.K = cf.K) (hr : Room j X.A) (hj : k ≤ j) (tk : Takes X (WD E))
    (h0 : OpR X (compareOp .Eq) r) : OpR X (compareOp .Eq) (fun x y H Q => rOwnLE cf.K (cf.cls c) (spOf cf 2 G) E x y H Q ∨ r x y H Q) := by
  obtain ⟨g, fd, F, hm, O⟩ := D.ex
  have hbn := F.binds hb
  rw [← hK] at O hbn hm
  have h := (op_ownLE hm.at_ hm.fn (fnR_of O hbn) (hr.mono hj) (passW (W := WD E) tk)).or h0
  rw [hK] at h
  exact h
theorem op_N {E : XK} {qual : Str} {st : Stmt} {k j c : Nat} {p q : Str} {G : FD} {r : R2} (D : Mf X.prog X.w cf X.mg X.base c "__eq__" qual st [p, q] k G) (B : OwnEq cf c) (hb : BindsT "__eq__" qual st [p, q]) (hK : X.K = cf.K) (hr : Room j X.A) (hj : k + 1 ≤ j) (tk : Takes X (WD E))
    (h0 : OpR X (compareOp .NotEq) r) : OpR X (compareOp .NotEq) (fun x y H Q => rOwnLN cf.K (cf.cls c) (spOf cf 2 G) E x y H Q ∨ r x y H Q) := by
  obtain ⟨g, fd, F, hm, O⟩ := D.ex
  have hbn := F.binds hb
  have hn := B.ne
  have ho := B.ob
  rw [← hK] at O hbn hm hn ho
  have h := (op_ownLN hn hm.at_ hm.fn ho (fnR_of O hbn) (hr.mono hj) (passW (W := WD E) tk)).or h0
  rw [hK] at h
  exact h
theorem op_R {E : XK} {qual : Str} {st : Stmt} {k j c : Nat} {p q : Str} {G : FD} {r : R2} (D : Mf X.prog X.w cf X.mg X.base c "__eq__" qual st [p, q] k G) (B : NoB cf.K (cf.cls c)) (hb : BindsT "__eq__" qual st [p, q]) (hK : X.K = cf.K) (hr : Room j X.A) (hj : k ≤ j) (tk : Takes X (WD E))
    (h0 : OpR X (compareOp .Eq) r) : OpR X (compareOp .Eq) (fun x y H Q => rOwnRE (cf.cls c) (spOf cf 2 G) E x y H Q ∨ r x y H Q) := by
  obtain ⟨g, fd, F, hm, O⟩ := D.ex
  have hbn := F.binds hb
  rw [← hK] at O hbn hm B
  exact (op_ownRE hm.at_ hm.fn B (fnR_of O hbn) (hr.mono hj) (passW (W := WD E) tk)).or h0
end
end Dn

set_option maxRecDepth 100000
set_option maxHeartbeats 2000000
/-! Dn, part O: chains as tests, stores to items as targets, list(range(..)), module constants; the law's end. -/
namespace Dn
open PySem PySem.Spec L2 PyProof.Rows

section
variable {cf : Cfg} {X : Cx} {W : WX}
theorem ct_chain {a b c : Expr} {op op' : CmpOp} {pos : Pos} {r r' : R2} {g g' : F2} {fa fb fc : FE} (ho : OpR X (compareOp op) r) (hr : R2Ok cf r g) (ho' : OpR X (compareOp op') r') (hr' : R2Ok cf r' g') (ha : CE cf X W a fa) (hb : CE cf X W b fb) (hc : CE cf X W c fc)
    (hm : lastMarks [op, op'] [b, c] = false := by rfl) : CT cf X W (.Compare a [op, op'] [b, c] pos) (fB (fChain g g' fa fb fc)) := by
  obtain ⟨ta, pa, oa⟩ := ha.ex
  obtain ⟨tb, pb, ob⟩ := hb.ex
  obtain ⟨tc, pc, oc⟩ := hc.ex
  exact ⟨_, pt_chain ho ho' pa pb pc hm, ok_test (ok_chain hr hr' oa ob oc)⟩
/-- o[i] as a target: a dict's, else a list's -/
def gSb (fo fi : FE) : FG := fun z ρ A => (fo ρ A).s ρ fun x A => (fi ρ A).s ρ fun y A => match dPut A x y z with
  | some A' => .nx ρ A'
  | none => match setL A x y z with
    | some A' => .nx ρ A'
    | none => .er
theorem set_both (hu : X.A.units + 1 < cLine) : PSet X (fun o i v H Q => rSetD o i v H Q ∨ rSetL o i v H Q) := by
  intro pins s σ H o i v ov iv u Q I ro ri rv h
  exact h.elim (set_dict hu pins s σ H o i v ov iv u Q I ro ri rv) (set_list pins s σ H o i v ov iv u Q I ro ri rv)
theorem setL_ok {m : List Addr} {H : Hp} {A A' : AH} {x y z : AV} {v w u : V} (S : Sim cf m H A) (rx : RelA cf.K m H x v) (ry : RelA cf.K m H y w) (rz : RelA cf.K m H z u) (h : setL A x y z = some A') :
    ∃ a vs k j, v = .ref a ∧ w = .int k ∧ H a = some (.lst vs) ∧ ixN vs.length k = some j ∧ Go cf m H m (upd H a (.lst (vs.set j u))) A' := by
  unfold setL at h
  split at h
  · rename_i n i
    split at h
    · rename_i xs e6
      rw [Option.map_eq_some_iff] at h
      obtain ⟨j, hj, rfl⟩ := h
      obtain ⟨a, rfl, hm, vs, h1, r⟩ := S.obj rx e6
      exact ⟨a, vs, i, j, rfl, ry.to_int, h1, by rw [← r.length]; exact hj, go_put S hm h1 trivial ⟨_, upd_same, (RelAs.set rz j r).mono (Pre.refl m) (fz_main h1 trivial)⟩⟩
    · cases h
  · cases h
theorem cg_sub {o i : Expr} {pos : Pos} {fo fi : FE} (hu : X.A.units + 1 < cLine) (ho : CE cf X W o fo) (hi : CE cf X W i fi)
    (ha : ∀ v, assign (.Subscript o i pos) X.env v = (do
      let ov ← holding [v] (eval o X.env)
      let iv ← holding [v, ov] (eval i X.env)
      standAt pos
      holding [v, ov, iv] (setItem ov iv v)
      release [v, ov, iv] []) := by intro _; rfl) : CG cf X W (.Subscript o i pos) (gSb fo fi) [] := by
  obtain ⟨to, po, oo⟩ := ho.ex
  obtain ⟨ti, pi, oi⟩ := hi.ex
  refine ⟨_, pg_sub po pi (set_both hu) ha, fun ρ σ m H A z u Q S L rz P => ?_⟩
  refine oo.thenS S L P fun x v m1 H1 A1 _ g1 L1 rx P1 => ?_
  refine oi.thenS g1.sim L1 P1 fun y w m2 H2 A2 _ g2 L2 ry P2 => ?_
  have rx2 := rx.mono g2.pre g2.fz
  have rz2 := rz.mono (g1.trans g2).pre (g1.trans g2).fz
  split at P2
  · rename_i A' e
    obtain ⟨a, H', rfl, hp, g3⟩ := dPut_ok g2.sim rx2 ry rz2 e
    exact .inl ⟨a, H', rfl, hp, P2 m2 H' σ g3 (L2.mono g3.pre g3.fz) fun _ _ => rfl⟩
  · split at P2
    · rename_i A' e
      obtain ⟨a, vs, k, j, rfl, rfl, h1, hj, g3⟩ := setL_ok g2.sim rx2 ry rz2 e
      exact .inr ⟨a, vs, k, j, rfl, rfl, h1, hj, P2 m2 _ σ g3 (L2.mono g3.pre g3.fz) fun _ _ => rfl⟩
    · exact P2.elim
/-- list(range(n)) -/
def fLRg (f : FE) : FE := fun ρ A => (f ρ A).bind fun x A => match x with
  | .int j => if 0 ≤ j ∧ j < 1000000 then .ok (.obj A.length) (A ++ [.lst (rngL 0 j.toNat)]) else .er
  | _ => .er
theorem rngL_rel {K : PySem.W.Frag} {m : List Addr} {H : Hp} : ∀ (ns : List Nat), RelAs K m H (ns.map fun (i : Nat) => AV.int ((0 : Int) + (i : Nat))) (ns.map fun (i : Nat) => V.int (0 + (i : Nat)))
  | [] => .nil
  | n :: ns => .cons (.int _) (rngL_rel ns)
theorem c_listRg {a : Expr} {p p2 pos pos2 : Pos} {f : FE} (hc : X.calm = true) (hm : X.mg "list" = none) (hm2 : X.mg "range" = none) (ha : CE cf X W a f) (hg : Gl X "list" := by rfl) (hg2 : Gl X "range" := by rfl)
    (na : starEach [a] X.env = (false, eval a X.env) :: starEach [] X.env := by rfl) (na2 : starEach [.Call (.Name "range" p) [a] [] pos] X.env = (false, eval (.Call (.Name "range" p) [a] [] pos) X.env) :: starEach [] X.env := by rfl) :
    CE cf X W (.Call (.Name "list" p2) [.Call (.Name "range" p) [a] [] pos] [] pos2) (fLRg f) := by
  obtain ⟨t, q, o⟩ := ha.ex
  refine ⟨_, pe_listRg hc hg hm (prg_1 hg2 hm2 q na) na2, fun ρ σ m H A Q S L P => ?_⟩
  refine o.then S L P fun x v m1 H1 A1 e g1 L1 r P1 => ?_
  clear e
  split at P1
  · rename_i j
    obtain ⟨⟨h0, h1⟩, P1⟩ := post_if P1
    refine ⟨j, r.to_int, RgOk.of_le (Int.le_refl 0) (by omega) (by omega) h0, fun q hq => ?_⟩
    have e : rgV 0 j = (List.range j.toNat).map fun (i : Nat) => V.int (0 + (i : Nat)) := by unfold rgV; simp
    rw [e]
    exact new_list g1.sim (rngL_rel _) P1 hq
  · exact P1.elim
/-- a module's constant -/
theorem c_gi {x : Str} {i : Int} {pos : Pos} (hm : ∃ t, X.mg x = some (.int i t)) (hg : Gl X x := by rfl) (hd : (x == ("__debug__" : Str)) = false := by decide) : CE cf X W (.Name x pos) (fC (.int i)) := by
  obtain ⟨t, hm⟩ := hm
  exact c_gint hg hm hd
theorem c_gs {x : Str} {i : Str} {pos : Pos} (hm : ∃ t, X.mg x = some (.str i t)) (hg : Gl X x := by rfl) (hd : (x == ("__debug__" : Str)) = false := by decide) : CE cf X W (.Name x pos) (fC (.str i)) := by
  obtain ⟨t, hm⟩ := hm
  exact c_gstr hg hm hd
end

/-! ### a comprehension's scope, reckoned -/
def kindB : NameKind → NameKind → Bool := fun a b => decide (a = b)
def blkB (N : List Str) (sc : List (Str × NameKind)) (scope : Scope) (own : List (Str × Nat)) : Bool :=
  decide (scope.kind = .function) && scope.names.all (fun y => decide (scope.names.lookup y.1 = some y.2)) && own.all (fun p => decide (N[p.2]? = some p.1)) &&
  scope.names.all (fun y => !decide (y.2 = .free) || decide (sc.lookup y.1 = some .cell) || decide (sc.lookup y.1 = some .free)) &&
  scope.names.all (fun y => !(decide (y.2 = .local) || decide (y.2 = .cell)) || decide (y.1 ∈ own.map (·.1)) || decide (y.1 ∉ N))
theorem blk_of {N : List Str} {sc scope : Scope} {own : List (Str × Nat)} (h : blkB N sc.names scope own = true) : BlkOk N sc scope own := by
  unfold blkB at h
  simp only [Bool.and_eq_true, List.all_eq_true, decide_eq_true_eq, Bool.or_eq_true, Bool.not_eq_true', decide_eq_false_iff_not, Bool.or_eq_false_iff] at h
  obtain ⟨⟨⟨⟨h1, h2⟩, h3⟩, h4⟩, h5⟩ := h
  refine ⟨h1, h2, h3, fun y hy e => ?_, fun y hy e => ?_⟩
  · rcases h4 y hy with (q | q) | q
    · exact (q e).elim
    · exact .inl q
    · exact .inr q
  · rcases h5 y hy with (q | q) | q
    · rcases e with e | e
      · exact (q.1 e).elim
      · exact (q.2 e).elim
    · exact .inl q
    · exact .inr q

/-! ### the law's end -/
/-- what is asked of the law: at a script of at most 63 ints it is True -/
def spLaw (K : PySem.W.Frag) : Sp := fun vs H Q _ => ∃ (a : Addr) (ns : List Int), vs = [.ref a] ∧ FrzL K H a (ns.map V.int) ∧ ns.length ≤ 63 ∧ ∀ H', Q (.bl true) H'
def isTrueR : Res AV → Bool
  | .ok (.bl true) _ => true
  | _ => false
theorem isTrueR_ok {r : Res AV} (h : isTrueR r = true) : ∃ A, r = .ok (.bl true) A := by
  unfold isTrueR at h
  split at h
  · exact ⟨_, rfl⟩
  · cases h
/-- the promise of the law from what it computes -/
theorem law_of {P : Program} {w : World} {cf : Cfg} {mg : Str → Option Value} {base : Heap} {st : Stmt} {p : Str} {k : Nat} {G : FD} (D : Df P w cf mg base "law" st [p] k G) (hG : ∀ ns : List Int, ns.length ≤ 63 → isTrueR (G [.scr ns] []) = true) (hT : cf.lam = [] := by rfl) :
    ∃ fa fd, mg "law" = some (.ref fa) ∧ Fun cf.K "law" "law" st fa fd ∧ FnOk P w cf.K mg base (L2.CX P w) k fa fd [p] (spLaw cf.K) := by
  obtain ⟨fa, fd, F, hm, O⟩ := D.ex
  refine ⟨fa, fd, hm, F, O.imp fun vs H Q E h => ?_⟩
  obtain ⟨a, ns, rfl, hs, hl, q⟩ := h
  obtain ⟨A, e⟩ := isTrueR_ok (hG ns hl)
  refine ⟨[], [], [.scr ns], ⟨rfl, .nil, fun n a o h => by simp at h, by unfold Cfg.tab; rw [hT]; exact fun p hp => nomatch hp⟩, .cons (.scr hs) .nil, rfl, ?_⟩
  rw [e]
  intro m' H' v g r
  rw [RelA.to_bl r]
  exact q H'
end Dn
namespace Dn
open PySem PySem.Spec L2 PyProof.Rows
theorem raw_of {K : PySem.W.Frag} {cf : Cfg} {h : Heap} {mg : Str → Option Value} {x : Str} {st : Stmt} {f : Addr} {oc : Value} {od an : Option Addr} {osl : Array (Option Value)} {kV doc pm cdv ct : Value} (hK : cf.K = K) (X : K.In h) (G : h.Ns mainGlobals mg) (a : PySem.W.nsIn K mainGlobals x = some (some (.ref f)))
    (l : K.lookup f = some ⟨oc, od, .func (PySem.W.fnOf x x (defArgs st) (defBody st) (defScope st) .none kV doc pm an cdv ct), osl⟩) (c : PySem.W.codeIn K cdv x = true) (k : PySem.W.keepIn K (.ref f) = true) : Raw cf mg x st := by
  subst hK
  exact ⟨f, _, fun_mk l c k, PySem.W.mg_of X G a⟩
theorem rawm_of {K : PySem.W.Frag} {cf : Cfg} {C : Addr} {c : Nat} {m qual : Str} {st : Stmt} {f : Addr} {oc : Value} {od an : Option Addr} {osl : Array (Option Value)} {kV doc pm cdv ct : Value} (hK : cf.K = K) (hC : cf.cls c = C) (a : PySem.W.findIn K (.ref C) m = some (some (.ref f))) (i : PySem.W.isFn K (.ref f) = true)
    (l : K.lookup f = some ⟨oc, od, .func (PySem.W.fnOf m qual (defArgs st) (defBody st) (defScope st) .none kV doc pm an cdv ct), osl⟩) (cc : PySem.W.codeIn K cdv qual = true) (k : PySem.W.keepIn K (.ref f) = true) : RawM cf c m qual st := by
  subst hK hC
  exact ⟨f, _, fun_mk l cc k, a, i, k⟩
theorem mak_of {K : PySem.W.Frag} {cf : Cfg} {h : Heap} {mg : Str → Option Value} {x : Str} {C : Addr} {c : Nat} (hK : cf.K = K) (hC : cf.cls c = C) (X : K.In h) (G : h.Ns mainGlobals mg) (a : PySem.W.nsIn K mainGlobals x = some (some (.ref C))) (mk : PySem.W.makesIn K C = true) (kp : PySem.W.keepIn K (.ref C) = true) : Mak cf mg x c := by
  subst hK hC
  exact ⟨mk, kp, PySem.W.mg_of X G a⟩
theorem cls_of {K : PySem.W.Frag} {cf : Cfg} {C : Addr} {c : Nat} (hK : cf.K = K) (hC : cf.cls c = C) (pg : PySem.W.plainGet K C Str.empty = true) (hd : PySem.W.hasDictIn K C = true) (po : PySem.W.plainOver K C = true) (sa : PySem.W.findIn K (.ref C) "__setattr__" = some (some (.builtin "object.__setattr__"))) : Cls cf.K (cf.cls c) := by
  subst hK hC
  exact ⟨pg, hd, po, sa⟩
theorem scls_of {K : PySem.W.Frag} {cf : Cfg} {C : Addr} {c : Nat} (hK : cf.K = K) (hC : cf.cls c = C) (pg : PySem.W.plainGet K C Str.empty = true) (ic : PySem.W.isClsIn K C = true) (po : PySem.W.plainOver K C = true) (sa : PySem.W.findIn K (.ref C) "__setattr__" = some (some (.builtin "object.__setattr__"))) : SlX.SCls cf.K (cf.cls c) := by
  subst hK hC
  exact ⟨pg, ic, po, sa⟩
theorem sisi_of {K : PySem.W.Frag} {cf : Cfg} {C : Addr} {c : Nat} (hK : cf.K = K) (hC : cf.cls c = C) (ca : PySem.W.findIn K (.ref C) "__class__" = some (some (.builtin "object.__class__"))) (cn : PySem.W.specialIn K (.builtin "object.__class__") "__get__" = some (some (.builtin "getset_descriptor.__get__")))
    (ct : PySem.W.takesIn K (.builtin "object.__class__") = some true) (cm : PySem.W.mroIn K C (.type "object") = some true) : SlX.SIsi cf.K (cf.cls c) := by
  subst hK hC
  exact ⟨ca, cn, ct, cm⟩
theorem noat_of {K : PySem.W.Frag} {cf : Cfg} {C : Addr} {c : Nat} {f : Str} (hK : cf.K = K) (hC : cf.cls c = C) (h : PySem.W.findIn K (.ref C) f = some none) : NoAttr cf.K (cf.cls c) f := by
  subst hK hC
  exact h
theorem sltf_of {K : PySem.W.Frag} {cf : Cfg} {C p : Addr} {c i : Nat} {f : Str} (hK : cf.K = K) (hC : cf.cls c = C) (cl : SlX.SCls cf.K (cf.cls c)) (at_ : PySem.W.findIn K (.ref C) f = some (some (.ref p))) (get : PySem.W.specialIn K (.ref p) "__get__" = some (some (.builtin "member_descriptor.__get__")))
    (tk : PySem.W.takesIn K (.ref p) = some true) (ty : PySem.W.typeIn K (.ref p) = some (.type "member_descriptor")) (ix : PySem.W.slotIn K p C = some i) (lt : i < 1000) : SltF cf f c i := by
  subst hK hC
  exact ⟨cl, p, at_, get, tk, ty, ix, lt⟩
theorem owneq_of {K : PySem.W.Frag} {cf : Cfg} {C : Addr} {c : Nat} (hK : cf.K = K) (hC : cf.cls c = C) (ne : PySem.W.findIn K (.ref C) "__ne__" = some (some (.builtin "object.__ne__"))) (ob : PySem.W.subIn K (.ref C) (.type "object") = some true) : OwnEq cf c := by
  subst hK hC
  exact ⟨ne, ob⟩
theorem hsp_law {K : PySem.W.Frag} {H : Hp} {a : Addr} {ns : List Int} (hl : ns.length ≤ 63) (hO : Only H) (hS : SqL K H a (ns.map V.int)) : spLaw K [.ref a] H (fun v _ => v = .bl true) fun _ _ _ => False := by
  refine ⟨a, ns, rfl, ?_, hl, fun _ => rfl⟩
  rcases hS with (h | h) | h
  · rcases hO a with e | ⟨o, xs, e⟩
    · rw [h] at e
      cases e
    · rw [h] at e
      cases e
  · exact .inl h
  · exact .inr h
theorem hcx_law {P : Program} {w : World} {H : Hp} {s : Shared} {e : Value} {s' : Shared} (h : L2.CX P w [] H s (fun _ _ _ => False) e s') : False := by
  obtain ⟨_, _, _, _, _, _, _, _, _, _, _, _, z⟩ := h
  exact z.elim
end Dn

set_option maxRecDepth 100000
set_option maxHeartbeats 2000000
/-! Dn, part P: the draws that every law begins with: plain Lean. -/
namespace Dn
open PySem PySem.Spec L2 PyProof.Rows
/-! ### small steps -/
theorem gcH_self (A : AH) (v : AV) : gcH A v A = A := by
  unfold gcH
  rw [List.take_length]
  exact ite_self _

theorem gI_ok {C : Int → Int → Bool} {g : Int → Int → AV} {i j : Int} {A : AH} (h : C i j = true) : gI C g (.int i) (.int j) A = .ok (g i j) A := by simp only [gI, h, if_true]
theorem gMul_ok {i j : Int} {A : AH} (h : i.natAbs < 18446744073709551616 ∨ j.natAbs < 18446744073709551616) : gMul (.int i) (.int j) A = .ok (.int (i * j)) A := by
  unfold gMul
  refine gI_ok ?_
  unfold cMul
  rw [Bool.or_eq_true, decide_eq_true_eq, decide_eq_true_eq]
  exact h
theorem gMod_ok {i j : Int} {A : AH} (h : 0 < j) : gMod (.int i) (.int j) A = .ok (.int (i % j)) A := gI_ok (by simp [cPos, h])
theorem gDiv_ok {i j : Int} {A : AH} (h : 0 < j) (h2 : j < 1073741824) : gDiv (.int i) (.int j) A = .ok (.int (i / j)) A := gI_ok (by simp [cDiv, h, h2])
theorem gAdd_int {i j : Int} {A : AH} : gAdd (.int i) (.int j) A = .ok (.int (i + j)) A := rfl
theorem gSub_int {i j : Int} {A : AH} : gSub (.int i) (.int j) A = .ok (.int (i - j)) A := rfl
theorem gInt_int {i : Int} {A : AH} : gInt [.int i] A = .ok (.int i) A := rfl
abbrev F0_mixed : FS := (fSeq (fSet 2 (f2 gAdd (f2 gAdd (f2 gMod (fCb gInt (fCons (f2 gMul (f2 gMul (fVar 0) (f2 gAdd (fC (.int 1)) (f2 gMul (fC (.int 2)) (fVar 1)))) (fC (.int 48271))) fNil)) (fC (.int 2147483647))) (f2 gMul (f2 gMul (fC (.int 7919)) (fVar 1)) (fVar 1))) (f2 gMul (fC (.int 104729)) (fVar 1)))) (fRet (f2 gDiv (f2 gMod (fCb gInt (fCons (f2 gMul (fVar 2) (fC (.int 69621))) fNil)) (fC (.int 2147483629))) (fC (.int 7)))))
theorem mixed_ok (c n : Int) (hn : n.natAbs < 4611686018427387904) (A : AH) : ∃ v : Int, 0 ≤ v ∧ v < 2147483629 ∧ runDef 3 F0_mixed [.int c, .int n] A = .ok (.int v) A := by
  let x : Int := (c * (1 + 2 * n) * 48271 % 2147483647 + 7919 * n * n + 104729 * n) * 69621 % 2147483629
  refine ⟨x / 7, ?_, ?_, ?_⟩
  · have : 0 ≤ x := Int.emod_nonneg _ (by decide)
    omega
  · have : x < 2147483629 := Int.emod_lt_of_pos _ (by decide)
    have : 0 ≤ x := Int.emod_nonneg _ (by decide)
    omega
  · have e1 : ∀ B : AH, gMul (.int 2) (.int n) B = .ok (.int (2 * n)) B := fun B => gMul_ok (.inl (by decide))
    have e2 : ∀ B : AH, gMul (.int c) (.int (1 + 2 * n)) B = .ok (.int (c * (1 + 2 * n))) B := fun B => gMul_ok (.inr (by omega))
    have e3 : ∀ B : AH, gMul (.int (c * (1 + 2 * n))) (.int 48271) B = .ok (.int (c * (1 + 2 * n) * 48271)) B := fun B => gMul_ok (.inr (by decide))
    have e4 : ∀ B : AH, gMul (.int 7919) (.int n) B = .ok (.int (7919 * n)) B := fun B => gMul_ok (.inl (by decide))
    have e5 : ∀ B : AH, gMul (.int (7919 * n)) (.int n) B = .ok (.int (7919 * n * n)) B := fun B => gMul_ok (.inr (by omega))
    have e6 : ∀ B : AH, gMul (.int 104729) (.int n) B = .ok (.int (104729 * n)) B := fun B => gMul_ok (.inl (by decide))
    have e7 : ∀ (z : Int) (B : AH), gMul (.int z) (.int 69621) B = .ok (.int (z * 69621)) B := fun z B => gMul_ok (.inr (by decide))
    have e8 : ∀ (z : Int) (B : AH), gMod (.int z) (.int 2147483647) B = .ok (.int (z % 2147483647)) B := fun z B => gMod_ok (by decide)
    have e9 : ∀ (z : Int) (B : AH), gMod (.int z) (.int 2147483629) B = .ok (.int (z % 2147483629)) B := fun z B => gMod_ok (by decide)
    have e10 : ∀ (z : Int) (B : AH), gDiv (.int z) (.int 7) B = .ok (.int (z / 7)) B := fun z B => gDiv_ok (by decide) (by decide)
    simp only [runDef, F0_mixed, fSeq, fSet, fRet, f2, fCb, fCons, fNil, fVar, fC, List.map_cons, List.map_nil, List.length_cons, List.length_nil, List.replicate, List.cons_append, List.nil_append, List.getElem?_cons_zero, List.getElem?_cons_succ, List.set_cons_zero, List.set_cons_succ, Res.bind_ok, Res.s_ok, gAdd_int, gInt_int, e1, e2, e3, e4, e5, e6, e7, e8, e9, e10, x, gcH_self]

/-! ### the draw -/
abbrev F0_draw (Gm : FD) : FS := (fSeq (fSet 2 (f2 gIx (fVar 0) (fC (.str "spot")))) (fSeq (fSub (f2 gAdd (fVar 2) (fC (.int 1))) (fVar 0) (fC (.str "spot"))) (fSeq (fIfS (fB (f2 gNe (f2 gIx (fVar 0) (fC (.str "great"))) (fLst fNil))) (fSeq (fSet 3 (f2 gIx (fVar 0) (fC (.str "great")))) (fSeq (fSet 4 (f2 gMod (fCb gInt (fCons (fVar 2) fNil)) (fCb gLen (fCons (fVar 3) fNil)))) (fSeq (fSet 5 (f2 gIx (fVar 3) (fVar 4))) (fIfS (fB (f2 gGtA (fVar 5) (fC (.int 0)))) (fSeq (fSub (f2 gDiv (fVar 5) (fVar 1)) (fVar 3) (fVar 4)) (fRet (f2 gMod (fCb gInt (fCons (fVar 5) fNil)) (fVar 1)))) fNx)))) fNx) (fSeq (fSet 3 (f2 gIx (fVar 0) (fC (.str "cells")))) (fRet (f2 gMod (fCb gInt (fCons (fCall 2 Gm (fCons (fCall 2 Gm (fCons (f2 gAdd (f2 gIx (fVar 3) (f2 gMod (fCb gInt (fCons (fVar 2) fNil)) (fC (.int 64)))) (f2 gMul (fC (.int 31)) (f2 gDiv (fVar 2) (fC (.int 64))))) (fCons (fVar 2) fNil))) (fCons (f2 gAdd (fVar 2) (fC (.int 7))) fNil))) fNil)) (fVar 1)))))))
abbrev F0_folded : FS := (fSeq (fSet 1 (fComp (fRange1 (fCons (fC (.int 64)) fNil)) (gNm 2) fYes (f2 gAdd (fC (.int 17)) (fVar 2)) [2])) (fSeq (fFor (fEnum (fVar 0)) (gTp 2 (gsCons (gNm 2) (gsCons (gNm 3) gsNil))) (fSub (f2 gMod (fCb gInt (fCons (f2 gAdd (f2 gMul (f2 gIx (fVar 1) (f2 gMod (fCb gInt (fCons (fVar 2) fNil)) (fC (.int 64)))) (fC (.int 48271))) (fVar 3)) fNil)) (fC (.int 2147483647))) (fVar 1) (f2 gMod (fCb gInt (fCons (fVar 2) fNil)) (fC (.int 64))))) (fSeq (fFor (fRange2 (fCons (fC (.int 1)) (fCons (fC (.int 64)) fNil))) (gNm 2) (fSub (f2 gMod (fCb gInt (fCons (f2 gAdd (f2 gIx (fVar 1) (fVar 2)) (f2 gMul (f2 gIx (fVar 1) (f2 gSub (fVar 2) (fC (.int 1)))) (fC (.int 16807)))) fNil)) (fC (.int 2147483647))) (fVar 1) (fVar 2))) (fRet (fVar 1)))))
abbrev F0_begun (Gf : FD) : FS := (fSeq (fSet 1 (fDisp (fpCons (fC (.str "cells")) (fCall 1 Gf (fCons (fVar 0) fNil)) (fpCons (fC (.str "great")) (fLst fNil) (fpCons (fC (.str "spot")) (fC (.int 0)) fpNil))))) (fSeq (fSub (fComp (fList (fVar 0)) (gNm 2) fYes (fIf (fB (f2 gGeA (fVar 2) (f2 gPow (fC (.int 10)) (fC (.int 18))))) (fVar 2) (fC (.int 0))) [2]) (fVar 1) (fC (.str "great"))) (fRet (fVar 1))))
def kC : Key := .inr "cells"
def kG : Key := .inr "great"
def kS : Key := .inr "spot"
def mD (c g : Nat) (s : Int) : List (Key × AV) := [(kC, .obj c), (kG, .obj g), (kS, .int s)]
/-- the material of the draws: the dict at i, its cells at c, its great ones at g, s drawn so far -/
structure Dr (A : AH) (i c g : Nat) (s : Int) (cs gs : List Int) : Prop where
  hi : A[i]? = some (.dK (mD c g s))
  hc : A[c]? = some (.lst (cs.map AV.int))
  hg : A[g]? = some (.lst (gs.map AV.int))
  lc : cs.length = 64
  lg : gs.length < 64
  ic : i ≠ c
  ig : i ≠ g
  cg : c ≠ g
  cl : cloA A.length A = true
theorem val_spot (c g : Nat) (s : Int) : valA (mD c g s) kS = some (.int s) := by kernel_rfl
theorem val_great (c g : Nat) (s : Int) : valA (mD c g s) kG = some (.obj g) := by kernel_rfl
theorem val_cells (c g : Nat) (s : Int) : valA (mD c g s) kC = some (.obj c) := by kernel_rfl
theorem put_spot (c g : Nat) (s t : Int) : putA (mD c g s) kS (.int t) = mD c g t := by kernel_rfl
theorem put_great (c g g2 : Nat) (s : Int) : putA (mD c g s) kG (.obj g2) = mD c g2 s := by kernel_rfl
theorem ix_spot {A : AH} {i c g : Nat} {s : Int} (h : A[i]? = some (.dK (mD c g s))) : gIx (.obj i) (.str "spot") A = .ok (.int s) A := by
  have e : dGet A (.obj i) (.str "spot") = some (some (.int s)) := by
    simp only [dGet, h, keyOf, Option.map_some]
    exact congrArg some (val_spot c g s)
  simp only [gIx, e]
theorem ix_great {A : AH} {i c g : Nat} {s : Int} (h : A[i]? = some (.dK (mD c g s))) : gIx (.obj i) (.str "great") A = .ok (.obj g) A := by
  have e : dGet A (.obj i) (.str "great") = some (some (.obj g)) := by
    simp only [dGet, h, keyOf, Option.map_some]
    exact congrArg some (val_great c g s)
  simp only [gIx, e]
theorem ix_cells {A : AH} {i c g : Nat} {s : Int} (h : A[i]? = some (.dK (mD c g s))) : gIx (.obj i) (.str "cells") A = .ok (.obj c) A := by
  have e : dGet A (.obj i) (.str "cells") = some (some (.obj c)) := by
    simp only [dGet, h, keyOf, Option.map_some]
    exact congrArg some (val_cells c g s)
  simp only [gIx, e]
theorem dput_spot {A : AH} {i c g : Nat} {s t : Int} (h : A[i]? = some (.dK (mD c g s))) : dPut A (.obj i) (.str "spot") (.int t) = some (A.set i (.dK (mD c g t))) := by
  have hl : (mD c g s).length < big := by show 3 < big; decide
  simp only [dPut, h, hl, if_true, keyOf, Option.map_some]
  exact congrArg (fun z => some (A.set i (.dK z))) (put_spot c g s t)
/-- an item of a list of ints -/
theorem atI_nn {α : Type} {xs : List α} {k : Int} (h0 : 0 ≤ k) (h1 : k < xs.length) : L2.atI xs k = xs[k.toNat]? := by
  unfold L2.atI ixN
  rw [if_pos h0, if_pos (by omega)]
  rfl
theorem ix_list {A : AH} {n : Nat} {ns : List Int} {k : Int} {v : Int} (h : A[n]? = some (.lst (ns.map AV.int))) (h0 : 0 ≤ k) (h1 : k < ns.length) (hv : ns[k.toNat]? = some v) : gIx (.obj n) (.int k) A = .ok (.int v) A := by
  have e : dGet A (.obj n) (.int k) = none := by simp only [dGet, h]
  have e2 : seqAt A (.obj n) = some (ns.map AV.int) := by simp only [seqAt, h]
  have e3 : L2.atI (ns.map AV.int) k = some (.int v) := by
    rw [atI_nn h0 (by rw [List.length_map]; exact h1), List.getElem?_map, hv]
    rfl
  simp only [gIx, e, gIxS, e2, e3]
theorem toP_ints {A : AH} {k : Nat} : ∀ (ns : List Int), mapO (AV.toP A (k + 1)) (ns.map AV.int) = some (ns.map PyData.int)
  | [] => rfl
  | n :: ns => by
    rw [List.map_cons, mapO, toP_ints ns]
    rfl
theorem toP_lst {A : AH} {n k : Nat} {ns : List Int} (h : A[n]? = some (.lst (ns.map AV.int))) : AV.toP A (k + 2) (.obj n) = some (.list (ns.map PyData.int)) := by
  show (match A[n]? with
    | some (.lst xs) => (mapO (AV.toP A (k + 1)) xs).map PyData.list
    | _ => none) = _
  rw [h]
  show (mapO (AV.toP A (k + 1)) (ns.map AV.int)).map PyData.list = _
  rw [toP_ints]
  rfl
theorem eqv_nil (ns : List Int) : PyData.eqv (.list (ns.map PyData.int)) (.list []) = ns.isEmpty := by
  cases ns with
  | nil => rfl
  | cons n ns => simp [PyData.eqv, PyData.eqvAll]
theorem ne_nil {A : AH} {n m : Nat} {ns : List Int} (h : A[n]? = some (.lst (ns.map AV.int))) (h2 : A[m]? = some (.lst [])) : gNe (.obj n) (.obj m) A = .ok (.bl (!ns.isEmpty)) A := by
  have e : AV.toP A 16 (.obj m) = some (.list []) := toP_lst (k := 14) (ns := []) h2
  simp only [gNe, toP_lst (k := 14) h, e, eqv_nil]
/-- behind a draw -/
def aft (A : AH) (i c g : Nat) (s : Int) (gs : List Int) : AH := (A.set i (.dK (mD c g (s + 1)))).set g (.lst (gs.map AV.int))
theorem clo_ints (n : Nat) : ∀ ns : List Int, cloVs n (ns.map AV.int) = true
  | [] => rfl
  | k :: ns => by rw [List.map_cons, cloVs, clo_ints n ns]; rfl
theorem cloA_set {n : Nat} {o : AO} (ho : cloO n o = true) : ∀ {A : AH} (i : Nat), cloA n A = true → cloA n (A.set i o) = true
  | [], _, h => h
  | a :: A, 0, h => by
    rw [cloA, Bool.and_eq_true] at h
    rw [List.set_cons_zero, cloA, ho, h.2]; rfl
  | a :: A, i + 1, h => by
    rw [cloA, Bool.and_eq_true] at h
    rw [List.set_cons_succ, cloA, h.1, cloA_set ho i h.2]; rfl
theorem aft_len (A : AH) (i c g : Nat) (s : Int) (gs : List Int) : (aft A i c g s gs).length = A.length := by unfold aft; rw [List.length_set, List.length_set]
theorem set_same {A : AH} {n : Nat} {o : AO} (h : A[n]? = some o) : A.set n o = A := by
  apply List.ext_getElem?
  intro j
  by_cases e : n = j
  · subst e
    obtain ⟨hl, _⟩ := List.getElem?_eq_some_iff.mp h
    rw [List.getElem?_set_self hl, h]
  · rw [List.getElem?_set_ne e]
theorem gGt0 {n : Int} {A : AH} : gGtA (.int n) (.int 0) A = .ok (.bl (decide (0 < n))) A := rfl
theorem len_list {A : AH} {n : Nat} {ns : List Int} (h : A[n]? = some (.lst (ns.map AV.int))) : gLen [.obj n] A = .ok (.int (ns.length : Nat)) A := by
  have e2 : seqAt A (.obj n) = some (ns.map AV.int) := by simp only [seqAt, h]
  simp only [gLen, e2, List.length_map]
theorem setL_list {A : AH} {n : Nat} {ns : List Int} {k v : Int} (h : A[n]? = some (.lst (ns.map AV.int))) (h0 : 0 ≤ k) (h1 : k < ns.length) : setL A (.obj n) (.int k) (.int v) = some (A.set n (.lst ((ns.set k.toNat v).map AV.int))) := by
  have e : ixN (ns.map AV.int).length k = some k.toNat := by
    unfold ixN
    rw [if_pos h0, if_pos (by rw [List.length_map]; omega)]
  simp only [setL, h, e, Option.map_some, List.map_set]
theorem dput_list {A : AH} {n : Nat} {xs : List AV} {k v : AV} (h : A[n]? = some (.lst xs)) : dPut A (.obj n) k v = none := by simp only [dPut, h]
section
variable {A : AH} {i c g : Nat} {s : Int} {cs gs : List Int}
theorem Dr.lt (D : Dr A i c g s cs gs) : i < A.length ∧ c < A.length ∧ g < A.length := ⟨(List.getElem?_eq_some_iff.mp D.hi).1, (List.getElem?_eq_some_iff.mp D.hc).1, (List.getElem?_eq_some_iff.mp D.hg).1⟩
/-- the state behind a draw -/
theorem Dr.aft (D : Dr A i c g s cs gs) {gs' : List Int} (hl : gs'.length = gs.length) : Dr (Dn.aft A i c g s gs') i c g (s + 1) cs gs' := by
  obtain ⟨h1, h2, h3⟩ := D.lt
  refine ⟨?_, ?_, ?_, D.lc, by rw [hl]; exact D.lg, D.ic, D.ig, D.cg, ?_⟩
  · unfold Dn.aft
    rw [List.getElem?_set_ne (Ne.symm D.ig), List.getElem?_set_self h1]
  · unfold Dn.aft
    rw [List.getElem?_set_ne (Ne.symm D.cg), List.getElem?_set_ne D.ic, D.hc]
  · unfold Dn.aft
    rw [List.getElem?_set_self (by rw [List.length_set]; exact h3)]
  · rw [aft_len]
    unfold Dn.aft
    refine cloA_set (by rw [cloO]; exact clo_ints _ _) g (cloA_set ?_ i D.cl)
    rw [cloO, mD, cloK, cloK, cloK, cloK]
    show (cloV A.length (.obj c) && (cloV A.length (.obj g) && true)) = true
    rw [cloV, cloV, decide_eq_true h2, decide_eq_true h3]; rfl
theorem draw_ok {Gm : FD} (hm : ∀ (x n : Int), n.natAbs < 4611686018427387904 → ∀ B : AH, ∃ v : Int, 0 ≤ v ∧ v < 2147483629 ∧ Gm [.int x, .int n] B = .ok (.int v) B) (D : Dr A i c g s cs gs) {k : Int} (k0 : 0 < k) (k1 : k < 1073741824) (s0 : 0 ≤ s) (s1 : s < 1000000000000000000) :
    ∃ (v : Int) (gs' : List Int), 0 ≤ v ∧ v < k ∧ gs'.length = gs.length ∧ runDef 6 (F0_draw Gm) [.obj i, .int k] A = .ok (.int v) (Dn.aft A i c g s gs') := by
  obtain ⟨h1, h2, h3⟩ := D.lt
  -- the heap when the question is put
  let A1 : AH := A.set i (.dK (mD c g (s + 1)))
  let A2 : AH := A1 ++ [AO.lst []]
  have i1 : A1[i]? = some (.dK (mD c g (s + 1))) := List.getElem?_set_self h1
  have l1 : A1.length = A.length := List.length_set
  have i2 : A2[i]? = some (.dK (mD c g (s + 1))) := by rw [List.getElem?_append_left (by rw [l1]; exact h1)]; exact i1
  have c2 : A2[c]? = some (.lst (cs.map AV.int)) := by rw [List.getElem?_append_left (by rw [l1]; exact h2), List.getElem?_set_ne D.ic, D.hc]
  have g2 : A2[g]? = some (.lst (gs.map AV.int)) := by rw [List.getElem?_append_left (by rw [l1]; exact h3), List.getElem?_set_ne D.ig, D.hg]
  have n2 : A2[A1.length]? = some (AO.lst []) := by rw [List.getElem?_append_right (Nat.le_refl _)]; simp
  have eA : ∀ (gs' : List Int) (v : Int), gs'.length = gs.length → gcH A (.int v) (A2.set g (.lst (gs'.map AV.int))) = Dn.aft A i c g s gs' := by
    intro gs' v hl
    have e : (A2.set g (.lst (gs'.map AV.int))).take A.length = Dn.aft A i c g s gs' := by
      show ((A1 ++ [AO.lst []]).set g (.lst (gs'.map AV.int))).take A.length = _
      rw [List.set_append_left _ _ (by rw [l1]; exact h3), List.take_append_of_le_length (by rw [List.length_set, l1]; exact Nat.le_refl _), List.take_of_length_le (by rw [List.length_set, l1]; exact Nat.le_refl _)]
      rfl
    have cl := (D.aft hl).cl
    rw [aft_len] at cl
    unfold gcH
    rw [e, cl]
    rfl
  -- the last arm
  have last : ∀ (z3 z4 z5 : Option AV), ∃ v : Int, 0 ≤ v ∧ v < k ∧ (fSeq (fSet 3 (f2 gIx (fVar 0) (fC (.str "cells")))) (fRet (f2 gMod (fCb gInt (fCons (fCall 2 Gm (fCons (fCall 2 Gm (fCons (f2 gAdd (f2 gIx (fVar 3) (f2 gMod (fCb gInt (fCons (fVar 2) fNil)) (fC (.int 64)))) (f2 gMul (fC (.int 31)) (f2 gDiv (fVar 2) (fC (.int 64))))) (fCons (fVar 2) fNil))) (fCons (f2 gAdd (fVar 2) (fC (.int 7))) fNil))) fNil)) (fVar 1)))) [some (.obj i), some (.int k), some (.int s), z3, z4, z5] A2 = .rt (.int v) A2 := by
    intro z3 z4 z5
    have b0 : 0 ≤ s % 64 := Int.emod_nonneg _ (by decide)
    have b1 : s % 64 < 64 := Int.emod_lt_of_pos _ (by decide)
    have hb : (s % 64).toNat < cs.length := by rw [D.lc]; omega
    have e1 : gIx (.obj c) (.int (s % 64)) A2 = .ok (.int cs[(s % 64).toNat]) A2 := ix_list c2 b0 (by rw [D.lc]; exact b1) (List.getElem?_eq_getElem hb)
    have e2 : gMul (.int 31) (.int (s / 64)) A2 = .ok (.int (31 * (s / 64))) A2 := gMul_ok (.inl (by decide))
    have e3 : gDiv (.int s) (.int 64) A2 = .ok (.int (s / 64)) A2 := gDiv_ok (by decide) (by decide)
    have e4 : gMod (.int s) (.int 64) A2 = .ok (.int (s % 64)) A2 := gMod_ok (by decide)
    obtain ⟨v1, _, _, m1⟩ := hm (cs[(s % 64).toNat] + 31 * (s / 64)) s (by omega) A2
    obtain ⟨v2, _, _, m2⟩ := hm v1 (s + 7) (by omega) A2
    have e5 : gMod (.int v2) (.int k) A2 = .ok (.int (v2 % k)) A2 := gMod_ok k0
    refine ⟨v2 % k, Int.emod_nonneg _ (by omega), Int.emod_lt_of_pos _ k0, ?_⟩
    simp only [fSeq, fSet, fRet, f2, fCb, fCons, fNil, fVar, fC, fCall, List.length_cons, List.length_nil, List.getElem?_cons_zero, List.getElem?_cons_succ, List.set_cons_zero, List.set_cons_succ, Res.bind_ok, Res.s_ok, gAdd_int, gInt_int, ix_cells i2, e1, e2, e3, e4, e5, m1, m2, if_true]
  have same : ∀ v : Int, gcH A (.int v) A2 = Dn.aft A i c g s gs := fun v => by rw [← eA gs v rfl, set_same g2]
  have x0 : ∀ z3 z4 z5 : Option AV, gIx (.obj i) (.str "spot") A = .ok (.int s) A := fun _ _ _ => ix_spot D.hi
  have x1 : dPut A (.obj i) (.str "spot") (.int (s + 1)) = some A1 := dput_spot D.hi
  have x2 : gIx (.obj i) (.str "great") A1 = .ok (.obj g) A1 := ix_great i1
  have x3 : gIx (.obj i) (.str "great") A2 = .ok (.obj g) A2 := ix_great i2
  have x4 : gNe (.obj g) (.obj A1.length) A2 = .ok (.bl (!gs.isEmpty)) A2 := ne_nil g2 n2
  have head : ∀ (f h : FS), (fSeq (fSet 2 (f2 gIx (fVar 0) (fC (.str "spot")))) (fSeq (fSub (f2 gAdd (fVar 2) (fC (.int 1))) (fVar 0) (fC (.str "spot"))) (fSeq (fIfS (fB (f2 gNe (f2 gIx (fVar 0) (fC (.str "great"))) (fLst fNil))) f fNx) h))) [some (.obj i), some (.int k), none, none, none, none] A =
      if gs.isEmpty = true then h [some (.obj i), some (.int k), some (.int s), none, none, none] A2 else fSeq f h [some (.obj i), some (.int k), some (.int s), none, none, none] A2 := by
    intro f h
    have hb : ([] : List AV).length < big := by decide
    have x5 : gNe (.obj g) (.obj A1.length) (A1 ++ [AO.lst []]) = .ok (.bl (!gs.isEmpty)) (A1 ++ [AO.lst []]) := x4
    simp only [fSeq, fSet, fSub, fIfS, fB, f2, fCons, fNil, fVar, fC, fLst, List.getElem?_cons_zero, List.getElem?_cons_succ, List.set_cons_zero, List.set_cons_succ, Res.bind_ok, Res.s_ok, gAdd_int, ix_spot D.hi, x1, x2, hb, if_true, x5, asB]
    cases hg : gs.isEmpty with
    | true => rfl
    | false => rfl
  have run : runDef 6 (F0_draw Gm) [.obj i, .int k] A = (match F0_draw Gm [some (.obj i), some (.int k), none, none, none, none] A with
    | .rt v A' => .ok v (gcH A v A')
    | .nx _ A' => .ok .non (gcH A .non A')
    | .exc e _ A' => .exc e A'
    | _ => .er) := rfl
  rw [run]
  unfold F0_draw
  rw [head]
  cases hg : gs.isEmpty with
  | true =>
    obtain ⟨v, v0, v1, hv⟩ := last none none none
    refine ⟨v, gs, v0, v1, rfl, ?_⟩
    rw [if_pos rfl, hv]
    exact congrArg (Res.ok _) (same v)
  | false =>
    rw [if_neg (by decide)]
    have hne : 0 < gs.length := by
      cases gs with
      | nil => cases hg
      | cons _ _ => exact Nat.succ_pos _
    have hl : (0 : Int) < (gs.length : Nat) := by omega
    let q : Int := s % (gs.length : Nat)
    have q0 : 0 ≤ q := Int.emod_nonneg _ (by omega)
    have q1 : q < (gs.length : Nat) := Int.emod_lt_of_pos _ hl
    have hq : q.toNat < gs.length := by omega
    have y1 : gLen [.obj g] A2 = .ok (.int (gs.length : Nat)) A2 := len_list g2
    have y2 : gMod (.int s) (.int (gs.length : Nat)) A2 = .ok (.int q) A2 := gMod_ok hl
    have y3 : gIx (.obj g) (.int q) A2 = .ok (.int gs[q.toNat]) A2 := ix_list g2 q0 q1 (List.getElem?_eq_getElem hq)
    have y4 : dPut A2 (.obj g) (.int q) (.int (gs[q.toNat] / k)) = none := dput_list g2
    have y5 : setL A2 (.obj g) (.int q) (.int (gs[q.toNat] / k)) = some (A2.set g (.lst ((gs.set q.toNat (gs[q.toNat] / k)).map AV.int))) := setL_list g2 q0 q1
    have y6 : gDiv (.int gs[q.toNat]) (.int k) A2 = .ok (.int (gs[q.toNat] / k)) A2 := gDiv_ok k0 k1
    by_cases hp : 0 < gs[q.toNat]
    · refine ⟨gs[q.toNat] % k, gs.set q.toNat (gs[q.toNat] / k), Int.emod_nonneg _ (by omega), Int.emod_lt_of_pos _ k0, by rw [List.length_set], ?_⟩
      have y7 : ∀ B : AH, gMod (.int gs[q.toNat]) (.int k) B = .ok (.int (gs[q.toNat] % k)) B := fun B => gMod_ok k0
      simp only [fSeq, fSet, fSub, fIfS, fB, fRet, f2, fCb, fCons, fNil, fVar, fC, List.getElem?_cons_zero, List.getElem?_cons_succ, List.set_cons_zero, List.set_cons_succ, Res.bind_ok, Res.s_ok, gInt_int, x3, y1, y2, y3, y4, y5, y6, y7, gGt0, asB, hp, decide_true, if_true]
      exact congrArg (Res.ok _) (eA _ _ (by rw [List.length_set]))
    · obtain ⟨v, v0, v1, hv⟩ := last (some (.obj g)) (some (.int q)) (some (.int gs[q.toNat]))
      refine ⟨v, gs, v0, v1, rfl, ?_⟩
      have hstep : ∀ h : FS, fSeq (fSeq (fSet 3 (f2 gIx (fVar 0) (fC (.str "great")))) (fSeq (fSet 4 (f2 gMod (fCb gInt (fCons (fVar 2) fNil)) (fCb gLen (fCons (fVar 3) fNil)))) (fSeq (fSet 5 (f2 gIx (fVar 3) (fVar 4))) (fIfS (fB (f2 gGtA (fVar 5) (fC (.int 0)))) (fSeq (fSub (f2 gDiv (fVar 5) (fVar 1)) (fVar 3) (fVar 4)) (fRet (f2 gMod (fCb gInt (fCons (fVar 5) fNil)) (fVar 1)))) fNx)))) h [some (.obj i), some (.int k), some (.int s), none, none, none] A2 =
          h [some (.obj i), some (.int k), some (.int s), some (.obj g), some (.int q), some (.int gs[q.toNat])] A2 := by
        intro h
        simp only [fSeq, fSet, fIfS, fB, f2, fCb, fCons, fNil, fVar, fC, fNx, List.getElem?_cons_zero, List.getElem?_cons_succ, List.set_cons_zero, List.set_cons_succ, Res.bind_ok, Res.s_ok, gInt_int, x3, y1, y2, y3, gGt0, asB, hp, decide_false, Bool.false_eq_true, if_false]
      rw [hstep, hv]
      exact congrArg (Res.ok _) (same v)
end
end Dn

set_option maxRecDepth 100000
set_option maxHeartbeats 2000000
/-! Dn, part Q: the beginning of every law: the material of its draws. -/
namespace Dn
open PySem PySem.Spec L2 PyProof.Rows
abbrev fB1 : FS := (fSub (f2 gMod (fCb gInt (fCons (f2 gAdd (f2 gMul (f2 gIx (fVar 1) (f2 gMod (fCb gInt (fCons (fVar 2) fNil)) (fC (.int 64)))) (fC (.int 48271))) (fVar 3)) fNil)) (fC (.int 2147483647))) (fVar 1) (f2 gMod (fCb gInt (fCons (fVar 2) fNil)) (fC (.int 64))))
abbrev fB2 : FS := (fSub (f2 gMod (fCb gInt (fCons (f2 gAdd (f2 gIx (fVar 1) (fVar 2)) (f2 gMul (f2 gIx (fVar 1) (f2 gSub (fVar 2) (fC (.int 1)))) (fC (.int 16807)))) fNil)) (fC (.int 2147483647))) (fVar 1) (fVar 2))
theorem b1_ok {o : AO} {cs : List Int} (hl : cs.length = 64) (x : AV) (k : Nat) (z : Int) : ∃ cs' : List Int, cs'.length = 64 ∧ fB1 [some x, some (.obj 1), some (.int (k : Nat)), some (.int z)] [o, .lst (cs.map AV.int)] = .nx [some x, some (.obj 1), some (.int (k : Nat)), some (.int z)] [o, .lst (cs'.map AV.int)] := by
  have h : ([o, .lst (cs.map AV.int)] : AH)[1]? = some (.lst (cs.map AV.int)) := rfl
  have b0 : (0 : Int) ≤ (k : Int) % 64 := Int.emod_nonneg _ (by decide)
  have b1 : (k : Int) % 64 < 64 := Int.emod_lt_of_pos _ (by decide)
  have hb : ((k : Int) % 64).toNat < cs.length := by omega
  have e0 : ∀ A : AH, gMod (.int (k : Nat)) (.int 64) A = .ok (.int ((k : Int) % 64)) A := fun A => gMod_ok (by decide)
  have e1 : gIx (.obj 1) (.int ((k : Int) % 64)) [o, .lst (cs.map AV.int)] = .ok (.int cs[((k : Int) % 64).toNat]) [o, .lst (cs.map AV.int)] := ix_list h b0 (by rw [hl]; exact b1) (List.getElem?_eq_getElem hb)
  have e2 : ∀ (q : Int) (A : AH), gMul (.int q) (.int 48271) A = .ok (.int (q * 48271)) A := fun q A => gMul_ok (.inr (by decide))
  have e3 : ∀ (q : Int) (A : AH), gMod (.int q) (.int 2147483647) A = .ok (.int (q % 2147483647)) A := fun q A => gMod_ok (by decide)
  have e4 : ∀ v : Int, dPut [o, .lst (cs.map AV.int)] (.obj 1) (.int ((k : Int) % 64)) (.int v) = none := fun v => dput_list h
  have e5 : ∀ v : Int, setL [o, .lst (cs.map AV.int)] (.obj 1) (.int ((k : Int) % 64)) (.int v) = some [o, .lst ((cs.set ((k : Int) % 64).toNat v).map AV.int)] := fun v => setL_list h b0 (by rw [hl]; exact b1)
  refine ⟨cs.set ((k : Int) % 64).toNat ((cs[((k : Int) % 64).toNat] * 48271 + z) % 2147483647), by rw [List.length_set, hl], ?_⟩
  simp only [fB1, fSub, f2, fCb, fCons, fNil, fVar, fC, List.getElem?_cons_zero, List.getElem?_cons_succ, Res.bind_ok, Res.s_ok, gAdd_int, gInt_int, e0, e1, e2, e3, e4, e5]
theorem b2_ok {o : AO} {cs : List Int} (hl : cs.length = 64) (x : AV) (k : Nat) (hk : k < 63) (z : Option AV) : ∃ cs' : List Int, cs'.length = 64 ∧ fB2 [some x, some (.obj 1), some (.int (1 + (k : Nat))), z] [o, .lst (cs.map AV.int)] = .nx [some x, some (.obj 1), some (.int (1 + (k : Nat))), z] [o, .lst (cs'.map AV.int)] := by
  have h : ([o, .lst (cs.map AV.int)] : AH)[1]? = some (.lst (cs.map AV.int)) := rfl
  have hb : ((1 : Int) + (k : Nat)).toNat < cs.length := by omega
  have hb2 : ((1 : Int) + (k : Nat) - 1).toNat < cs.length := by omega
  have e1 : gIx (.obj 1) (.int (1 + (k : Nat))) [o, .lst (cs.map AV.int)] = .ok (.int cs[((1 : Int) + (k : Nat)).toNat]) [o, .lst (cs.map AV.int)] := ix_list h (by omega) (by omega) (List.getElem?_eq_getElem hb)
  have e1' : gIx (.obj 1) (.int (1 + (k : Nat) - 1)) [o, .lst (cs.map AV.int)] = .ok (.int cs[((1 : Int) + (k : Nat) - 1).toNat]) [o, .lst (cs.map AV.int)] := ix_list h (by omega) (by omega) (List.getElem?_eq_getElem hb2)
  have e2 : ∀ (q : Int) (A : AH), gMul (.int q) (.int 16807) A = .ok (.int (q * 16807)) A := fun q A => gMul_ok (.inr (by decide))
  have e3 : ∀ (q : Int) (A : AH), gMod (.int q) (.int 2147483647) A = .ok (.int (q % 2147483647)) A := fun q A => gMod_ok (by decide)
  have e4 : ∀ v : Int, dPut [o, .lst (cs.map AV.int)] (.obj 1) (.int (1 + (k : Nat))) (.int v) = none := fun v => dput_list h
  have e5 : ∀ v : Int, setL [o, .lst (cs.map AV.int)] (.obj 1) (.int (1 + (k : Nat))) (.int v) = some [o, .lst ((cs.set ((1 : Int) + (k : Nat)).toNat v).map AV.int)] := fun v => setL_list h (by omega) (by omega)
  refine ⟨cs.set ((1 : Int) + (k : Nat)).toNat ((cs[((1 : Int) + (k : Nat)).toNat] + cs[((1 : Int) + (k : Nat) - 1).toNat] * 16807) % 2147483647), by rw [List.length_set, hl], ?_⟩
  simp only [fB2, fSub, f2, fCb, fCons, fNil, fVar, fC, List.getElem?_cons_zero, List.getElem?_cons_succ, Res.bind_ok, Res.s_ok, gAdd_int, gSub_int, gInt_int, e1, e1', e2, e3, e4, e5]
abbrev g23 : FG := gTp 2 (gsCons (gNm 2) (gsCons (gNm 3) gsNil))
theorem l1_ok {o : AO} (x : AV) : ∀ (ns : List Int) (k : Nat) (cs : List Int) (z2 z3 : Option AV), cs.length = 64 → ∃ (cs' : List Int) (y2 y3 : Option AV), cs'.length = 64 ∧ runF g23 fB1 (enumF k (ns.map AV.int)) [some x, some (.obj 1), z2, z3] [o, .lst (cs.map AV.int)] = .nx [some x, some (.obj 1), y2, y3] [o, .lst (cs'.map AV.int)]
  | [], k, cs, z2, z3, hl => ⟨cs, z2, z3, hl, rfl⟩
  | n :: ns, k, cs, z2, z3, hl => by
    obtain ⟨cs1, h1, e1⟩ := b1_ok (o := o) hl x k n
    obtain ⟨cs2, y2, y3, h2, e2⟩ := l1_ok (o := o) x ns (k + 1) cs1 (some (.int (k : Nat))) (some (.int n)) h1
    refine ⟨cs2, y2, y3, h2, ?_⟩
    rw [List.map_cons, enumF, runF, turnF]
    show (match (SRes.nx [some x, some (.obj 1), some (.int (k : Nat)), some (.int n)] [o, .lst (cs.map AV.int)]) with
      | .nx ρ A => match fB1 ρ A with
        | .nx ρ A => runF g23 fB1 (enumF (k + 1) (ns.map AV.int)) ρ A
        | .ct ρ A => runF g23 fB1 (enumF (k + 1) (ns.map AV.int)) ρ A
        | .bk ρ A => .nx ρ A
        | r => r
      | r => r) = _
    simp only [e1, e2]
theorem l2_ok {o : AO} (x : AV) : ∀ (m k : Nat) (cs : List Int) (z2 z3 : Option AV), k + m ≤ 63 → cs.length = 64 → ∃ (cs' : List Int) (y2 : Option AV), cs'.length = 64 ∧ runF (gNm 2) fB2 ((List.range' k m).map fun (i : Nat) => AV.int (1 + (i : Nat))) [some x, some (.obj 1), z2, z3] [o, .lst (cs.map AV.int)] = .nx [some x, some (.obj 1), y2, z3] [o, .lst (cs'.map AV.int)]
  | 0, k, cs, z2, z3, _, hl => ⟨cs, z2, hl, rfl⟩
  | m + 1, k, cs, z2, z3, hk, hl => by
    obtain ⟨cs1, h1, e1⟩ := b2_ok (o := o) hl x k (by omega) z3
    obtain ⟨cs2, y2, h2, e2⟩ := l2_ok (o := o) x m (k + 1) cs1 (some (.int (1 + (k : Nat)))) z3 (by omega) h1
    refine ⟨cs2, y2, h2, ?_⟩
    rw [List.range'_succ, List.map_cons, runF, turnF]
    show (match fB2 [some x, some (.obj 1), some (.int (1 + (k : Nat))), z3] [o, .lst (cs.map AV.int)] with
      | .nx ρ A => runF (gNm 2) fB2 ((List.range' (k + 1) m).map fun (i : Nat) => AV.int (1 + (i : Nat))) ρ A
      | .ct ρ A => runF (gNm 2) fB2 ((List.range' (k + 1) m).map fun (i : Nat) => AV.int (1 + (i : Nat))) ρ A
      | .bk ρ A => .nx ρ A
      | r => r) = _
    simp only [e1, e2]
/-- the cells -/
theorem folded_ok (ns : List Int) : ∃ cs : List Int, cs.length = 64 ∧ runDef 4 F0_folded [.scr ns] [.dK []] = .ok (.obj 1) [.dK [], .lst (cs.map AV.int)] := by
  have e1 : (fSet 1 (fComp (fRange1 (fCons (fC (.int 64)) fNil)) (gNm 2) fYes (f2 gAdd (fC (.int 17)) (fVar 2)) [2])) [some (.scr ns), none, none, none] [.dK []] = .nx [some (.scr ns), some (.obj 1), none, none] [.dK [], .lst (((List.range 64).map fun (i : Nat) => (17 : Int) + (0 + (i : Nat))).map AV.int)] := by kernel_rfl
  obtain ⟨cs1, y2, y3, h1, e2⟩ := l1_ok (o := .dK []) (.scr ns) ns 0 ((List.range 64).map fun (i : Nat) => (17 : Int) + (0 + (i : Nat))) none none (by simp)
  obtain ⟨cs2, y4, h2, e3⟩ := l2_ok (o := .dK []) (.scr ns) 63 0 cs1 y2 y3 (by decide) h1
  refine ⟨cs2, h2, ?_⟩
  have f1 : (fFor (fEnum (fVar 0)) g23 fB1) [some (.scr ns), some (.obj 1), none, none] [.dK [], .lst (((List.range 64).map fun (i : Nat) => (17 : Int) + (0 + (i : Nat))).map AV.int)] = .nx [some (.scr ns), some (.obj 1), y2, y3] [.dK [], .lst (cs1.map AV.int)] := e2
  have f2 : (fFor (fRange2 (fCons (fC (.int 1)) (fCons (fC (.int 64)) fNil))) (gNm 2) fB2) [some (.scr ns), some (.obj 1), y2, y3] [.dK [], .lst (cs1.map AV.int)] = .nx [some (.scr ns), some (.obj 1), y4, y3] [.dK [], .lst (cs2.map AV.int)] := by
    have e : rngL 1 ((64 : Int) - 1).toNat = (List.range' 0 63).map fun (i : Nat) => AV.int (1 + (i : Nat)) := by
      unfold rngL
      rw [List.range_eq_range']
      rfl
    have q : ∀ (ρ : Rho) (A : AH), fRange2 (fCons (fC (.int 1)) (fCons (fC (.int 64)) fNil)) ρ A = .ok (.fix (rngL 1 ((64 : Int) - 1).toNat)) A := fun ρ A => by
      unfold fRange2
      simp only [fCons, fC, fNil, Res.bind_ok]
      rw [if_pos ⟨by unfold rngB; decide, by unfold rngB; decide⟩]
    unfold fFor
    rw [q]
    show runF (gNm 2) fB2 (rngL 1 ((64 : Int) - 1).toNat) _ _ = _
    rw [e]
    exact e3
  have hr : runDef 4 F0_folded [.scr ns] [.dK []] = (match F0_folded [some (.scr ns), none, none, none] [.dK []] with
    | .rt v A' => .ok v (gcH [.dK []] v A')
    | .nx _ A' => .ok .non (gcH [.dK []] .non A')
    | .exc e _ A' => .exc e A'
    | _ => .er) := rfl
  rw [hr]
  unfold F0_folded fSeq
  simp only [e1, f1, f2]
  rfl
abbrev fGr : FE := (fIf (fB (f2 gGeA (fVar 2) (f2 gPow (fC (.int 10)) (fC (.int 18))))) (fVar 2) (fC (.int 0)))
def grt (n : Int) : Int := if 1000000000000000000 ≤ n then n else 0
theorem gr_ok (x y z : Option AV) (n : Int) (A : AH) : fGr [x, y, some (.int n)] A = .ok (.int (grt n)) A := by
  have e1 : gPow (.int 10) (.int 18) A = .ok (.int 1000000000000000000) A := by kernel_rfl
  have e2 : ∀ m : Int, gGeA (.int n) (.int m) A = .ok (.bl (decide (m ≤ n))) A := fun m => rfl
  unfold grt
  by_cases h : 1000000000000000000 ≤ n
  · simp only [fGr, fIf, fB, f2, fVar, fC, List.getElem?_cons_zero, List.getElem?_cons_succ, Res.bind_ok, e1, e2, asB, h, decide_true, if_true]
  · simp only [fGr, fIf, fB, f2, fVar, fC, List.getElem?_cons_zero, List.getElem?_cons_succ, Res.bind_ok, e1, e2, asB, h, decide_false, Bool.false_eq_true, if_false]
theorem great_ok (a b c : AO) (x y z : Option AV) : ∀ (ns acc : List Int), acc.length + ns.length ≤ 1000 → compF (gNm 2) fYes fGr 3 [x, y, z] (ns.map AV.int) [a, b, c, .lst (acc.map AV.int)] = .ok (.obj 3) [a, b, c, .lst ((acc ++ ns.map grt).map AV.int)]
  | [], acc, _ => by simp [compF]
  | n :: ns, acc, h => by
    have ih := great_ok a b c x y z ns (acc ++ [grt n]) (by simp only [List.length_append, List.length_cons, List.length_nil] at h ⊢; omega)
    rw [List.map_cons, compF, turnC]
    have hl : (acc.map AV.int).length < big := by
      rw [List.length_map]
      simp only [List.length_cons] at h
      have : (1000 : Nat) < big := by decide
      omega
    show (if true = true then pushC fGr 3 (fun A => compF (gNm 2) fYes fGr 3 [x, y, z] (ns.map AV.int) A) [x, y, some (.int n)] [a, b, c, .lst (acc.map AV.int)] else _) = _
    rw [if_pos rfl, pushC, gr_ok x y z]
    show (if (acc.map AV.int).length < big then compF (gNm 2) fYes fGr 3 [x, y, z] (ns.map AV.int) [a, b, c, .lst (acc.map AV.int ++ [AV.int (grt n)])] else .er) = _
    rw [if_pos hl]
    have e : acc.map AV.int ++ [AV.int (grt n)] = (acc ++ [grt n]).map AV.int := by simp
    rw [e, ih, List.map_cons, List.append_assoc]
    rfl
/-- the material of the draws -/
theorem begun_ok {Gf : FD} (ns : List Int) (hl : ns.length ≤ 63) (hf : ∃ cs : List Int, cs.length = 64 ∧ Gf [.scr ns] [.dK []] = .ok (.obj 1) [.dK [], .lst (cs.map AV.int)]) :
    ∃ (cs gs : List Int), gs.length = ns.length ∧ runDef 3 (F0_begun Gf) [.scr ns] [] = .ok (.obj 0) [.dK (mD 1 3 0), .lst (cs.map AV.int), .lst [], .lst (gs.map AV.int)] ∧ Dr [.dK (mD 1 3 0), .lst (cs.map AV.int), .lst [], .lst (gs.map AV.int)] 0 1 3 0 cs gs := by
  obtain ⟨cs, hc, ef⟩ := hf
  refine ⟨cs, ns.map grt, by rw [List.length_map], ?A, ⟨rfl, rfl, rfl, hc, by rw [List.length_map]; omega, by decide, by decide, by decide, ?B⟩⟩
  case B =>
    show (cloO 4 (.dK (mD 1 3 0)) && (cloVs 4 (cs.map AV.int) && (cloO 4 (.lst []) && (cloVs 4 ((ns.map grt).map AV.int) && true)))) = true
    rw [clo_ints, clo_ints]
    decide
  have d1 : (fSet 1 (fDisp (fpCons (fC (.str "cells")) (fCall 1 Gf (fCons (fVar 0) fNil)) (fpCons (fC (.str "great")) (fLst fNil) (fpCons (fC (.str "spot")) (fC (.int 0)) fpNil))))) [some (.scr ns), none, none] [] = .nx [some (.scr ns), some (.obj 0), none] [.dK (mD 1 2 0), .lst (cs.map AV.int), .lst []] := by
    have q : fCall 1 Gf (fCons (fVar 0) fNil) [some (.scr ns), none, none] [.dK []] = .ok (.obj 1) [.dK [], .lst (cs.map AV.int)] := by
      simp only [fCall, fCons, fNil, fVar, List.getElem?_cons_zero, Res.bind_ok, List.length_cons, List.length_nil, if_true, ef]
    unfold fSet fDisp fpCons
    simp only [List.nil_append, fC, Res.bind_ok, q]
    kernel_rfl
  have d2 : (fComp (fList (fVar 0)) (gNm 2) fYes fGr [2]) [some (.scr ns), some (.obj 0), none] [.dK (mD 1 2 0), .lst (cs.map AV.int), .lst []] = .ok (.obj 3) [.dK (mD 1 2 0), .lst (cs.map AV.int), .lst [], .lst ((ns.map grt).map AV.int)] := by
    have := great_ok (.dK (mD 1 2 0)) (.lst (cs.map AV.int)) (.lst []) (some (.scr ns)) (some (.obj 0)) none ns [] (by simp; omega)
    rw [List.nil_append] at this
    exact this
  have hr : runDef 3 (F0_begun Gf) [.scr ns] [] = (match F0_begun Gf [some (.scr ns), none, none] [] with
    | .rt v A' => .ok v (gcH [] v A')
    | .nx _ A' => .ok .non (gcH [] .non A')
    | .exc e _ A' => .exc e A'
    | _ => .er) := rfl
  rw [hr]
  unfold F0_begun fSeq fSub
  simp only [d1, d2, Res.s_ok]
  kernel_rfl
end Dn

set_option maxRecDepth 100000
set_option maxHeartbeats 2000000
/-! Dn, part R: properties by their names. -/
namespace Dn
open PySem PySem.Spec L2 PyProof.Rows
section
variable {P : Program} {w : World} {cf : Cfg} {mg : Str → Option Value} {base : Heap}
/-- a property of the text -/
structure RawP (cf : Cfg) (c : Nat) (m qual : Str) (st : Stmt) : Prop where
  ex : ∃ fa fd p, Fun cf.K m qual st fa fd ∧ PropOf cf.K (cf.cls c) m p fa
structure Pf (P : Program) (w : World) (cf : Cfg) (mg : Str → Option Value) (base : Heap) (c : Nat) (m qual : Str) (st : Stmt) (ps : List Str) (k : Nat) (G : FD) : Prop where
  ex : ∃ fa fd p, Fun cf.K m qual st fa fd ∧ PropOf cf.K (cf.cls c) m p fa ∧ FnOk P w cf.K mg base (L2.CX P w) k fa fd ps (spOf cf ps.length G)
theorem pf_of {c : Nat} {m qual : Str} {st : Stmt} {N ps : List Str} {k : Nat} {fs : FS} {G : FD} (R : RawP cf c m qual st) (S : FnScope N ps (defScope st)) (hG : RunOf N.length fs G)
    (hbody : ∀ (f : Addr) (cdv : Value) (A : Around) (outer : List Env) (s : Shared) (H : Hp) (E : XK), Room k (A.deeper (envOfC qual (defScope st) s.heap.objs.size f cdv)) →
      CB cf (cxOf (L2.CX P w) P w cf.K mg base N qual (defScope st) f cdv A outer s H E) (WD E) (defBody st) fs) : Pf P w cf mg base c m qual st ps (k + 1) G := by
  obtain ⟨fa, fd, p, F, hp⟩ := R.ex
  exact ⟨fa, fd, p, F, hp, ok_def hG F S fun cdv A outer s H E hr => hbody fa cdv A outer s H E hr⟩
end
section
variable {cf : Cfg} {X : Cx} {W : WX}
theorem c_pf {o : Expr} {c : Nat} {m qual : Str} {st : Stmt} {pos : Pos} {k j : Nat} {ps : Str} {G : FD} {fo : FE} (D : Pf X.prog X.w cf X.mg X.base c m qual st [ps] k G) (hb : BindsT m qual st [ps]) (cl : Cls cf.K (cf.cls c)) (hK : X.K = cf.K) (hr : Room j X.A) (hj : k + 1 ≤ j) (ho : CE cf X W o fo)
    (hab : attributeBase o m X.env (eval o X.env) = eval o X.env := by rfl) : CE cf X W (.Attribute o m pos) (fProp c G fo) := by
  obtain ⟨g, fd, p, F, hp, O⟩ := D.ex
  have hbn := F.binds hb
  rw [← hK] at O hp hbn cl
  exact c_prop cl hp O (hr.mono hj) hbn ho hab
end
theorem rawp_of {K : PySem.W.Frag} {cf : Cfg} {C : Addr} {c : Nat} {m qual : Str} {st : Stmt} {f p : Addr} {oc : Value} {od an : Option Addr} {osl : Array (Option Value)} {kV doc pm cdv ct : Value} {rest : List Value} (hK : cf.K = K) (hC : cf.cls c = C) (at_ : PySem.W.findIn K (.ref C) m = some (some (.ref p))) (get : PySem.W.specialIn K (.ref p) "__get__" = some (some (.builtin "property.__get__"))) (tak : PySem.W.takesIn K (.ref p) = some true) (rec_ : PySem.W.recIn K p "property" = some (.ref f :: rest))
    (l : K.lookup f = some ⟨oc, od, .func (PySem.W.fnOf m qual (defArgs st) (defBody st) (defScope st) .none kV doc pm an cdv ct), osl⟩) (cc : PySem.W.codeIn K cdv qual = true) (k : PySem.W.keepIn K (.ref f) = true) : RawP cf c m qual st := by
  subst hK hC
  exact ⟨f, _, p, fun_mk l cc k, ⟨at_, get, tak, ⟨rest, rec_⟩⟩⟩
/-! ### a field among several targets -/
section
variable {cf : Cfg} {X : Cx} {W : WX}
theorem setF_ins {f : Str} {ti : Tbl} {m : List Addr} {H : Hp} {A A' : AH} {x y : AV} {v u : V} (h1 : ∀ p ∈ ti, InsF cf f p.1 p.2) (S : Sim cf m H A) (rx : RelA cf.K m H x v) (ry : RelA cf.K m H y u) (ea : setF ti [] A x y = some A') :
    ∃ a C dx fs, (∃ n c fs0, x = .obj n ∧ A[n]? = some (.ins c fs0) ∧ C = cf.cls c) ∧ v = .ref a ∧ H a = some (.ins C dx fs) ∧ Cls cf.K C ∧ NoAttr cf.K C f ∧ fs.length < 1000 ∧ Go cf m H m (upd H a (.ins C dx (putF f u fs))) A' := by
  unfold setF at ea
  split at ea
  · rename_i n
    split at ea
    · rename_i c fs e3
      split at ea
      · rename_i i ei
        rw [Option.map_eq_some_iff] at ea
        obtain ⟨fs', hf, rfl⟩ := ea
        obtain ⟨a, rfl, hm, dx, vs, h3, hl, r⟩ := S.obj rx e3
        have F := h1 _ (tblAt_mem ei)
        have hlv : vs.length ≤ (cf.nam c).length := by rw [← r.length]; exact hl
        have key : ∃ vs', putF f u ((cf.nam c).zip vs) = (cf.nam c).zip vs' ∧ fs'.length ≤ (cf.nam c).length ∧ RelAs cf.K m H fs' vs' := by
          unfold putI at hf
          split at hf
          · rename_i hi
            cases hf
            exact ⟨_, putF_zip F.nd F.at_ (by rw [← r.length]; exact hi) hlv, by rw [List.length_set]; exact hl, RelAs.set ry i r⟩
          · split at hf
            · rename_i hi
              cases hf
              have hi2 : i = vs.length := by rw [← r.length]; exact hi
              have hat := F.at_
              simp only at hat
              rw [hi2] at hat
              obtain ⟨hlt, _⟩ := List.getElem?_eq_some_iff.mp hat
              exact ⟨_, putF_zip' F.nd hat, by rw [List.length_append, List.length_singleton, r.length]; omega, r.app (.cons ry .nil)⟩
            · cases hf
        obtain ⟨vs', k1, k2, k3⟩ := key
        have g3 : Go cf m H m (upd H a (.ins (cf.cls c) dx (putF f u ((cf.nam c).zip vs)))) (A.set n (.ins c fs')) := by
          rw [k1]
          exact go_put S hm h3 trivial ⟨dx, vs', upd_same, k2, k3.mono (Pre.refl m) (fz_main h3 trivial)⟩
        refine ⟨a, _, dx, _, ⟨n, c, fs, rfl, e3, rfl⟩, rfl, h3, F.cl, F.no, ?_, g3⟩
        rw [List.length_zip]
        exact Nat.lt_of_le_of_lt (Nat.min_le_left _ _) F.few
      · cases ea
    · rename_i c fs e3
      split at ea
      · rename_i i ei
        exact absurd (tblAt_mem ei) (by simp)
      · cases ea
    · cases ea
  · cases ea
def tgFld (K : PySem.W.Frag) (ta : TE) (f : Str) : TG := fun y σ H Q => ta σ H fun x H2 => ∃ a C dx fs, x = .ref a ∧ H2 a = some (.ins C dx fs) ∧ Cls K C ∧ NoAttr K C f ∧ fs.length < 1000 ∧ Q σ (upd H2 a (.ins C dx (putF f y fs)))
theorem pg_fld {o : Expr} {ta : TE} {f : Str} {pos : Pos} (ho : PE X o ta) (ha : ∀ v, assign (.Attribute o f pos) X.env v = (do
      let ov ← holding [v] (eval o X.env)
      standAt pos.atName
      holding [v, ov] (setAttr ov f v)
      release [v, ov] []) := by intro _; rfl) : PG X (.Attribute o f pos) (tgFld X.K ta f) := by
  refine ⟨fun pins s σ H v u Q I r h => ?_⟩
  rw [ha]
  refine wpAny_bind (wpAny_holding (thn (ho.run pins s σ H _ I h) fun ov s1 ⟨x, H1, I1, rx, a, C, dx, fs, ex, ea, c, n, l, q⟩ => ?_))
  subst ex
  obtain rfl : ov = Value.ref a := rx
  exact wpAny_bind (wpAny_standAt (wpAny_bind (wpAny_holding (setattr_ok I1 ea c n l r fun s3 I3 => wpAny_release ⟨σ, _, I3, q⟩))))
def gFl (ti : Tbl) (fo : FE) : FG := fun y ρ A => (fo ρ A).s ρ fun x A => match setF ti [] A x y with
  | some A' => .nx ρ A'
  | none => .er
theorem cg_fld {o : Expr} {f : Str} {pos : Pos} {fo : FE} (ti : Tbl) (hK : X.K = cf.K) (h1 : ∀ p ∈ ti, InsF cf f p.1 p.2) (ho : CE cf X W o fo) : CG cf X W (.Attribute o f pos) (gFl ti fo) [] := by
  obtain ⟨to, po, oo⟩ := ho.ex
  refine ⟨_, pg_fld po, fun ρ σ m H A y u Q S L ry P => ?_⟩
  refine oo.thenS S L P fun x v m1 H1 A1 _ g1 L1 rx P1 => ?_
  split at P1
  · rename_i A' ea
    obtain ⟨a, C, dx, fs, _, rfl, h3, cl, no, hl, g3⟩ := setF_ins h1 g1.sim rx (ry.mono g1.pre g1.fz) ea
    rw [hK]
    exact ⟨a, C, dx, fs, rfl, h3, cl, no, hl, P1 m1 _ σ g3 (L1.mono g3.pre g3.fz) fun _ _ => rfl⟩
  · exact P1.elim
end
/-! ### a star among the items; self.f op= e; max of a list -/
def fStar (f : FE) (g : FA) : FA := fun ρ A => (f ρ A).bind fun x A => match seqAt A x with
  | some xs => (g ρ A).bind fun ys A => .ok (xs ++ ys) A
  | none => .er
def fAugF (ti : Tbl) (g : F2) (fo fv : FE) : FS := fun ρ A => (fo ρ A).s ρ fun x A => match x with
  | .obj n => match A[n]? with
    | some (.ins c fs) => match tblAt ti c with
      | some i => match fs[i]? with
        | some v => (fv ρ A).s ρ fun y A => (g v y A).s ρ fun z A => match setF ti [] A x z with
          | some A' => match A[n]? with
            | some (.ins c' _) => if c' = c then .nx ρ A' else .er
            | _ => .er
          | none => .er
        | none => .er
      | none => .er
    | _ => .er
  | _ => .er
def maxI : Int → List Int → Int
  | m, [] => m
  | m, n :: ns => maxI (if m < n then n else m) ns
theorem maxI_ge : ∀ (ns : List Int) (m : Int), m ≤ maxI m ns ∧ ∀ y ∈ ns, y ≤ maxI m ns
  | [], m => ⟨Int.le_refl _, fun y h => nomatch h⟩
  | n :: ns, m => by
    obtain ⟨h1, h2⟩ := maxI_ge ns (if m < n then n else m)
    rw [maxI]
    refine ⟨?_, fun y hy => ?_⟩
    · split at h1 <;> split <;> omega
    · rcases List.mem_cons.mp hy with rfl | hy
      · split at h1 <;> split <;> omega
      · exact h2 y hy
theorem maxI_mem : ∀ (ns : List Int) (m : Int), maxI m ns = m ∨ maxI m ns ∈ ns
  | [], m => .inl rfl
  | n :: ns, m => by
    rw [maxI]
    rcases maxI_mem ns (if m < n then n else m) with h | h
    · rw [h]
      split
      · exact .inr (by simp)
      · exact .inl rfl
    · exact .inr (List.mem_cons_of_mem _ h)
def gMaxL : FD := fun xs A => match xs with
  | [x] => match ilAt A x with
    | some (n :: ns) => .ok (.int (maxI n ns)) A
    | _ => .er
  | _ => .er
section
variable {cf : Cfg} {X : Cx} {W : WX}
theorem ok_star {t : TE} {u : TA} {f : FE} {g : FA} (hf : EOk cf W t f) (hg : AOk cf W u g) : AOk cf W (StX.tStar cf.K t u) (fStar f g) := fun ρ σ m H A Q S L P => by
  refine hf.then S L P fun x v m1 H1 A1 _ g1 L1 r1 P1 => ?_
  split at P1
  · rename_i xs e
    obtain ⟨a, vs, rfl, hs, r⟩ := seqAt_ok g1.sim r1 e
    refine ⟨a, vs, rfl, hs.symm, ?_⟩
    refine hg.then g1.sim L1 P1 fun ys ws m2 H2 A2 _ g2 L2 r2 P2 => ?_
    exact P2 m2 H2 (vs ++ ws) (Go.refl g2.sim) ((r.mono g2.pre g2.fz).app r2)
  · exact P1.elim
theorem ca_star {e : Expr} {es : List Expr} {p : Pos} {f : FE} {g : FA} (hK : X.K = cf.K) (he : CE cf X W e f) (hr : CA cf X W es g) (hs : starEach (.Starred e p :: es) X.env = (true, eval e X.env) :: starEach es X.env := by rfl) : CA cf X W (.Starred e p :: es) (fStar f g) := by
  obtain ⟨t, p, o⟩ := he.ex
  obtain ⟨u, p', o'⟩ := hr.ex
  refine ⟨_, StX.pa_star p p' hs, ?_⟩
  rw [hK]
  exact ok_star o o'
theorem ok_maxL : CbOk cf (rMax cf.K) gMaxL := fun W m H A σ Q xs vs S r P => by
  unfold gMaxL at P
  split at P
  · split at P
    · rename_i n ns e
      obtain ⟨v, rfl, q⟩ := r.one
      obtain ⟨a, rfl, hs⟩ := ilAt_ok S q e
      refine ⟨a, n :: ns, rfl, hs, Nat.succ_pos _, fun k hk hge => ?_⟩
      have e2 : k = maxI n ns := by
        obtain ⟨h1, h2⟩ := maxI_ge ns n
        have h3 : maxI n ns ∈ n :: ns := by
          rcases maxI_mem ns n with h | h
          · rw [h]; simp
          · exact List.mem_cons_of_mem _ h
        have h4 := hge _ h3
        rcases List.mem_cons.mp hk with rfl | hk
        · omega
        · have := h2 k hk
          omega
      rw [e2]
      exact P m H _ (Go.refl S) (.int _)
    · exact P.elim
  · exact P.elim
end
section
variable {cf : Cfg} {X : Cx} {W : WX}
theorem cs_augF {o e : Expr} {f : Str} {op : Operator} {r : R2} {g : F2} {fo fv : FE} {pos tpos : Pos} (ti : Tbl) (hK : X.K = cf.K) (h1 : ∀ p ∈ ti, InsF cf f p.1 p.2) (hop : InOp X op r) (hr : R2Ok cf r g) (ho : CE cf X W o fo) (he : CE cf X W e fv) :
    CS cf X W (.AugAssign (.Attribute o f tpos) op e pos) (fAugF ti g fo fv) := by
  obtain ⟨to, po, oo⟩ := ho.ex
  obtain ⟨te, pe, oe⟩ := he.ex
  refine ⟨_, ps_fldaug po pe hop, fun ρ σ m H A D S L P => ?_⟩
  refine oo.thenS S L P fun x v m1 H1 A1 _ g1 L1 rx P1 => ?_
  split at P1
  · rename_i n
    split at P1
    · rename_i c fs e1
      split at P1
      · rename_i i ei
        split at P1
        · rename_i u eu
          obtain ⟨a, rfl, hm, dx, vs, h3, hl, rr⟩ := g1.sim.obj rx e1
          obtain ⟨w, hw, rw'⟩ := rr.get eu
          have F := h1 _ (tblAt_mem ei)
          rw [hK]
          refine ⟨a, _, dx, _, w, rfl, h3, F.cl, F.no, lookup_zip F.nd F.at_ hw, ?_⟩
          refine oe.thenS g1.sim L1 P1 fun y uy m2 H2 A2 _ g2 L2 ry P2 => ?_
          refine r2_thenS hr g2.sim L2 (rw'.mono g2.pre g2.fz) ry P2 fun z uz m3 H3 A3 g3 rz P3 => ?_
          split at P3
          · rename_i A' ea
            split at P3
            · rename_i c' fs' e4
              split at P3
              · rename_i hcc
                subst hcc
                obtain ⟨a', C, dx', fs2, ⟨n0, c0, fs0, q1, q2, q3⟩, q4, q5, _, _, q6, g5⟩ := setF_ins h1 g3.sim (rx.mono (g2.trans g3).pre (g2.trans g3).fz) rz ea
                cases q4
                cases q1
                rw [e4] at q2
                cases q2
                subst q3
                exact ⟨dx', fs2, q5, q6, P3 m3 _ σ g5 (L2.mono (g3.trans g5).pre (g3.trans g5).fz)⟩
              · exact P3.elim
            · exact P3.elim
          · exact P3.elim
        · exact P1.elim
      · exact P1.elim
    · exact P1.elim
  · exact P1.elim
end
/-! ### zip of two tuples -/
section
variable {cf : Cfg} {X : Cx} {W : WX}
def zipF : List AV → List AV → List AV
  | x :: xs, y :: ys => .tup [x, y] :: zipF xs ys
  | _, _ => []
theorem zipF_get : ∀ (xs ys : List AV) (j : Nat) (x y : AV), xs[j]? = some x → ys[j]? = some y → (zipF xs ys)[j]? = some (.tup [x, y])
  | x :: xs, y :: ys, 0, a, b, h1, h2 => by
    cases h1
    cases h2
    rfl
  | x :: xs, y :: ys, j + 1, a, b, h1, h2 => by
    rw [zipF, List.getElem?_cons_succ]
    exact zipF_get xs ys j a b h1 h2
  | [], _, _, _, _, h1, _ => by simp at h1
  | _ :: _, [], _, _, _, _, h2 => by simp at h2
theorem zipF_len : ∀ xs ys : List AV, (zipF xs ys).length = min xs.length ys.length
  | x :: xs, y :: ys => by rw [zipF, List.length_cons, List.length_cons, List.length_cons, zipF_len xs ys]; omega
  | [], ys => by simp [zipF]
  | _ :: _, [] => by simp [zipF]
def fZip (f : FA) : FI := fun ρ A => (f ρ A).bind fun zs A => match zs with
  | [.tup xs, .tup ys] => .ok (.fix (zipF xs ys)) A
  | _ => .er
theorem ci_zip {e e2 : Expr} {p pos tpos : Pos} {elts : List Expr} {kk : Nat} {f : FA} (hK : X.K = cf.K) (hm : X.mg "zip" = none) (h : CA cf X W [e, e2] f) (hg : Gl X "zip" := by rfl) (hs : starEach [e, e2] X.env = (false, eval e X.env) :: starEach [e2] X.env := by rfl) (hpl : (backTo pos (starEach [e2] X.env)).any (·.1) = false := by rfl) :
    CI cf X W (.Tuple elts kk tpos) (.Call (.Name "zip" p) [e, e2] [] pos) (fZip f) := by
  obtain ⟨t, q, o⟩ := h.ex
  refine ⟨_, RZ.pi_zipA hg hm q hs hpl, ?_⟩
  rw [hK]
  intro ρ σ m H A R S L P
  refine o.then S L P fun zs us m1 H1 A1 e g1 L1 r1 P1 => ?_
  split at P1
  · rename_i xs ys
    obtain ⟨v, w, rfl, rv, rw'⟩ := r1.two
    obtain ⟨a, vs, rfl, ha, ra⟩ := RelA.to_tup rv
    obtain ⟨b, ws, rfl, hb, rb⟩ := RelA.to_tup rw'
    have la := ra.length
    have lb := rb.length
    refine ⟨a, b, vs, ws, rfl, .inr ⟨SqT.of ha, SqT.of hb, P1 m1 H1 _ (Go.refl g1.sim) fun m2 H2 A2 g => ?_⟩⟩
    have qa : SqT cf.K H2 a vs := SqT.of (g.fz.tup _ _ ha)
    have qb : SqT cf.K H2 b ws := SqT.of (g.fz.tup _ _ hb)
    refine ⟨fun i hi => ?_, ?_, fun i x H3 y hi => ?_⟩
    · rw [zipF_len] at hi
      exact ⟨vs, ws, vs[i], ws[i], qa, qb, by simp, by simp⟩
    · refine ⟨vs, ws, qa, qb, ?_⟩
      rw [zipF_len]
      omega
    · obtain ⟨T, x1, y1, rfl, hT, rfl, hx, hy⟩ := y
      obtain ⟨z1, q1, s1⟩ := ra.get' (hx vs qa)
      obtain ⟨z2, q2, s2⟩ := rb.get' (hy ws qb)
      refine ⟨.tup [z1, z2], zipF_get _ _ _ _ _ q1 q2, go_side g.sim hT, .tup upd_same (.cons ?_ (.cons ?_ .nil))⟩
      · exact (s1.mono g.pre g.fz).mono (Pre.refl m2) (fz_new hT)
      · exact (s2.mono g.pre g.fz).mono (Pre.refl m2) (fz_new hT)
  · exact P1.elim
end
/-! ### texts -/
def asS : AV → Option Str
  | .str i => some i
  | _ => none
theorem asS_all {K : PySem.W.Frag} {m : List Addr} {H : Hp} : ∀ {xs : List AV} {vs : List V} {ns : List Str}, RelAs K m H xs vs → mapO asS xs = some ns → vs = ns.map V.str
  | [], _, ks, r, h => by
    cases h
    cases r
    rfl
  | x :: xs, _, ks, r, h => by
    obtain ⟨k, es, h1, h2, rfl⟩ := mapO_cons h
    cases r with
    | cons r1 r2 =>
      cases x with
      | str i =>
        cases h1
        rw [r1.to_str, asS_all r2 h2]
        rfl
      | _ => cases h1
/-- the texts of a list or a tuple -/
def slAt (A : AH) (x : AV) : Option (List Str) := (seqAt A x).bind (mapO asS)
/-- sep.join(texts) -/
def fJoin (fo fe : FE) : FE := fun ρ A => (fo ρ A).bind fun x A => match x with
  | .str a => (fe ρ A).bind fun y A => match slAt A y with
    | some ys => if (ys.map (·.length)).sum + ys.length * a.length ≤ 16777216 then .ok (.str (Txt.join a ys)) A else .er
    | none => .er
  | _ => .er
/-- str(an int) -/
def gStrI : FD := fun xs A => match xs with
  | [.int i] => if i.natAbs.log2 < 1920 then .ok (.str (toString i)) A else .er
  | _ => .er
/-- int(an int, a bool, a text) -/
def gIntT : FD := fun xs A => match xs with
  | [.str a] => match PySem.intText? a with
    | some n => if a.length ≤ 640 then .ok (.int n) A else .er
    | none => .er
  | _ => gInt xs A
/-- {x} within an f-string -/
def fFmt (f : FE) : FE := fun ρ A => (f ρ A).bind fun x A => match x with
  | .str y => if y.length < big then .ok (.str y) A else .er
  | .int i => if i.natAbs.log2 < 1920 then .ok (.str (toString i)) A else .er
  | _ => .er
def fJs (f : FE) (g : Str → FE) : Str → FE := fun acc ρ A => (f ρ A).bind fun x A => match x with
  | .str y => if (acc ++ y).length < big then g (acc ++ y) ρ A else .er
  | _ => .er
def fJ0 : Str → FE := fun acc _ A => .ok (.str acc) A
section
variable {cf : Cfg} {X : Cx} {W : WX}
theorem slAt_ok {m : List Addr} {H : Hp} {A : AH} {x : AV} {v : V} {ns : List Str} (S : Sim cf m H A) (r : RelA cf.K m H x v) (h : slAt A x = some ns) : ∃ a, v = .ref a ∧ (SqL cf.K H a (ns.map V.str) ∨ SqT cf.K H a (ns.map V.str)) := by
  unfold slAt at h
  rw [Option.bind_eq_some_iff] at h
  obtain ⟨xs, h1, h2⟩ := h
  obtain ⟨a, vs, rfl, hs, r2⟩ := seqAt_ok S r h1
  rw [asS_all r2 h2] at hs
  exact ⟨a, rfl, hs⟩
theorem c_join {o e : Expr} {apos pos : Pos} {fo fe : FE} (hK : X.K = cf.K) (ho : CE cf X W o fo) (he : CE cf X W e fe) (hs : starEach [e] X.env = [(false, eval e X.env)] := by rfl) (hbase : attributeBase o "join" X.env (eval o X.env) = eval o X.env := by rfl) (hline : (apos.endLine == pos.line) = true := by rfl) :
    CE cf X W (.Call (.Attribute o "join" apos) [e] [] pos) (fJoin fo fe) := by
  obtain ⟨to, po, oo⟩ := ho.ex
  obtain ⟨te, pe, oe⟩ := he.ex
  refine ⟨_, pe_join po pe hs hbase hline, fun ρ σ m H A Q S L P => ?_⟩
  refine oo.then S L P fun x v m1 H1 A1 _ g1 L1 rx P1 => ?_
  split at P1
  · rename_i a _
    rw [rx.to_str]
    refine ⟨⟨a, rfl⟩, ?_⟩
    refine oe.then g1.sim L1 P1 fun y u m2 H2 A2 _ g2 L2 ry P2 => ?_
    split at P2
    · rename_i ys e2
      obtain ⟨hl, P3⟩ := post_if P2
      obtain ⟨p, rfl, hq⟩ := slAt_ok g2.sim ry e2
      rw [hK]
      exact ⟨a, p, ys, rfl, rfl, hq, hl, P3 m2 H2 _ (Go.refl g2.sim) (.str _)⟩
    · exact P2.elim
  · exact P1.elim
theorem ok_strI : CbOk cf (fun xs H Q => ∃ i, xs = [.int i] ∧ i.natAbs.log2 < 1920 ∧ Q (.str (toString i)) H) gStrI := fun W m H A σ Q xs vs S r P => by
  unfold gStrI at P
  split at P
  · rename_i i
    obtain ⟨hl, P1⟩ := post_if P
    obtain ⟨v, rfl, q⟩ := r.one
    exact ⟨i, by rw [q.to_int], hl, P1 m H _ (Go.refl S) (.str _)⟩
  · exact P.elim
theorem call_intT : CallR X (.type "int") (fun xs H Q => (∃ a n, xs = [.str a] ∧ PySem.intText? a = some n ∧ a.length ≤ 640 ∧ Q (.int n) H) ∨ ((∃ i, xs = [.int i] ∧ Q (.int i) H) ∨ ∃ k, xs = [.bl k] ∧ Q (.int (if k then 1 else 0)) H)) := call_int_str.or call_int1
theorem ok_intT : CbOk cf (fun xs H Q => (∃ a n, xs = [.str a] ∧ PySem.intText? a = some n ∧ a.length ≤ 640 ∧ Q (.int n) H) ∨ ((∃ i, xs = [.int i] ∧ Q (.int i) H) ∨ ∃ k, xs = [.bl k] ∧ Q (.int (if k then 1 else 0)) H)) gIntT := fun W m H A σ Q xs vs S r P => by
  unfold gIntT at P
  split at P
  · rename_i a
    split at P
    · rename_i n hn
      obtain ⟨hl, P1⟩ := post_if P
      obtain ⟨v, rfl, q⟩ := r.one
      exact .inl ⟨a, n, by rw [q.to_str], hn, hl, P1 m H _ (Go.refl S) (.int _)⟩
    · exact P.elim
  · exact .inr (ok_int W m H A σ Q _ vs S r P)
theorem c_fmt {e : Expr} {pos : Pos} {f : FE} (he : CE cf X W e f) : CE cf X W (.FormattedValue e (-1) none pos) (fFmt f) := by
  obtain ⟨t, p, o⟩ := he.ex
  refine ⟨_, pe_fmt p, fun ρ σ m H A Q S L P => ?_⟩
  refine o.then S L P fun x v m1 H1 A1 _ g1 L1 rx P1 => ?_
  split at P1
  · rename_i y _
    obtain ⟨hl, P2⟩ := post_if P1
    exact .inl ⟨y, rx.to_str, big_le hl, P2 m1 H1 _ (Go.refl g1.sim) (.str _)⟩
  · rename_i i _
    obtain ⟨hl, P2⟩ := post_if P1
    exact .inr ⟨i, rx.to_int, hl, P2 m1 H1 _ (Go.refl g1.sim) (.str _)⟩
  · exact P1.elim
/-- the parts of an f-string -/
structure CJ (cf : Cfg) (X : Cx) (W : WX) (es : List Expr) (f : Str → FE) : Prop where
  ex : ∃ ts, PJ X es ts ∧ ∀ acc : Str, EOk cf W (fun σ H Q => tJs ts acc σ H fun out H1 => Q (.str out) H1) (f acc)
theorem cj_nil : CJ cf X W [] fJ0 := ⟨_, .nil, fun acc ρ σ m H A Q S L P => P m H _ (Go.refl S) (.str _)⟩
theorem cj_cons {e : Expr} {es : List Expr} {f : FE} {g : Str → FE} (he : CE cf X W e f) (hr : CJ cf X W es g) : CJ cf X W (e :: es) (fJs f g) := by
  obtain ⟨t, p, o⟩ := he.ex
  obtain ⟨ts, ps, os⟩ := hr.ex
  refine ⟨t :: ts, .cons p ps, fun acc ρ σ m H A Q S L P => ?_⟩
  refine o.then S L P fun x v m1 H1 A1 _ g1 L1 rx P1 => ?_
  split at P1
  · rename_i y _
    obtain ⟨hl, P2⟩ := post_if P1
    exact ⟨y, rx.to_str, big_le hl, os (acc ++ y) ρ σ m1 H1 A1 Q g1.sim L1 P2⟩
  · exact P1.elim
theorem c_joined {v1 v2 : Expr} {rest : List Expr} {pos : Pos} {f : Str → FE} (h : CJ cf X W (v1 :: v2 :: rest) f) : CE cf X W (.JoinedStr (v1 :: v2 :: rest) pos) (f Str.empty) := let ⟨_, p, o⟩ := h.ex; ⟨_, pe_joined p, o Str.empty⟩
end
end Dn

set_option maxRecDepth 100000
set_option maxHeartbeats 2000000
/-! Dn, part S: max of a dict's values. -/
namespace Dn
open PySem PySem.Spec L2 PyProof.Rows
section
variable {cf : Cfg} {X : Cx} {W : WX}
def rMaxV : List V → Hp → VK → Prop := fun xs H Q => ∃ (p a : Addr) (ns : List Int), xs = [V.ref p] ∧ H p = some (viewO "dict_values" p a) ∧ Ent H a (ns.map V.int) ∧ 0 < ns.length ∧ ∀ m, m ∈ ns → (∀ y, y ∈ ns → y ≤ m) → Q (.int m) H
theorem cr_maxV (hc : X.calm = true) : CallR X (.builtin "max") rMaxV := by
  intro pins s σ H xs us Q I rx h
  obtain ⟨p, a, ns, rfl, hp, ha, hne, q⟩ := h
  rw [Vals.ref1 rx]
  obtain ⟨hd, o, es, ep, ho, hx, hdt, hsz, ent⟩ := ent_raw I ha
  have hv : s.heap.get? p = some (DSub.viewOb "dict_values" a) := (show ObjOk X.prog X.w H s.heap p (viewO "dict_values" p a) from I.hok p _ hp).1
  rw [List.length_map] at hsz
  have hP : ∀ (i : Nat) (e : DictEntry), es[i]? = some e → ∃ t, e.val = .int (ns.getD i 0) t := fun i e he => by
    obtain ⟨v, hv, rv⟩ := ent i e he
    rw [List.getElem?_map, Option.map_eq_some_iff] at hv
    obtain ⟨n, hn, rfl⟩ := hv
    have e3 : ns.getD i 0 = n := by rw [List.getD_eq_getElem?_getD, hn]; rfl
    rw [e3]
    exact rv
  refine call_max_walk ?_
  refine DSub.iter_vals hv ho hdt ?_
  have hal : a < s.heap.objs.size := Heap.lt_size ho
  refine ⟨s.heap.objs.size, [s.heap.objs.size, a], [s.heap.objs.size], es.size, fun i v => ∃ t, v = .int (ns.getD i 0) t, _, fun i j => decide (ns.getD i 0 > ns.getD j 0), rfl, DSub.walksVal (a := a) (show X.A.in1.handled = none from I.ok.hd hc) (Nat.ne_of_lt hal) hdt hP, ⟨Heap.get?_push_size _ rfl, Heap.get?_push_of_some _ ho⟩, fun b hb => ?_, by omega, CmpOf.ints_gt (fun i => ns.getD i 0) (fun i v z => z), fun v h' tk hv' hk => ?_⟩
  · show b < (s.heap.push _).objs.size
    rw [size_push']
    rcases List.mem_cons.mp hb with z | z
    · rw [z]
      exact Nat.lt_succ_self _
    · rw [List.mem_singleton.mp z]
      exact Nat.lt_succ_of_lt hal
  · obtain ⟨t, rfl⟩ := hv'
    obtain ⟨m1', m2'⟩ := argBest_gt (fun i => ns.getD i 0) (es.size - 1)
    have m1 : argBest (fun i j => decide (ns.getD i 0 > ns.getD j 0)) (es.size - 1) ≤ es.size - 1 := m1'
    have m2 : ∀ j, j ≤ es.size - 1 → ns.getD j 0 ≤ ns.getD (argBest (fun i j => decide (ns.getD i 0 > ns.getD j 0)) (es.size - 1)) 0 := m2'
    have hk2 : ∀ b o, s.heap.get? b = some o → h'.get? b = some o := fun b o e => hk b o (fun z => by rw [List.mem_singleton.mp z] at e; exact absurd (Heap.lt_size e) (Nat.lt_irrefl _)) (Heap.get?_push_of_some _ e)
    refine ⟨.int _, H, I.kept (t' := tk) hk2, ⟨t, rfl⟩, q _ (PySem.getD_mem (by omega)) fun y hy => ?_⟩
    obtain ⟨j, hj, e⟩ := List.mem_iff_getElem.mp hy
    have z := m2 j (by omega)
    have e3 : ns.getD j 0 = y := by rw [List.getD_eq_getElem?_getD, List.getElem?_eq_getElem hj, ← e] <;> rfl
    rw [e3] at z
    exact z
/-- max(d.values()) -/
def fMaxV (fd : FE) : FE := fun ρ A => (fd ρ A).bind fun x A => match valsAt A x with
  | some xs => match mapO asI xs with
    | some (n :: ns) => .ok (.int (maxI n ns)) A
    | _ => .er
  | none => .er
theorem c_maxV {o : Expr} {apos cpos p pos : Pos} {fd : FE} (hc : X.calm = true) (hm : X.mg "max" = none) (ho : CE cf X W o fd) (hbase : attributeBase o "values" X.env (eval o X.env) = eval o X.env := by rfl) (hline : (apos.endLine == cpos.line) = true := by rfl)
    (hg : Gl X "max" := by rfl) (he : starEach [.Call (.Attribute o "values" apos) [] [] cpos] X.env = (false, eval (.Call (.Attribute o "values" apos) [] [] cpos) X.env) :: starEach [] X.env := by rfl) (hpl : (backTo pos (starEach [] X.env)).any (·.1) = false := by rfl) :
    CE cf X W (.Call (.Name "max" p) [.Call (.Attribute o "values" apos) [] [] cpos] [] pos) (fMaxV fd) := by
  obtain ⟨t, pp, q⟩ := ho.ex
  refine ⟨_, pe_callB (cr_maxV hc) hg hm PyProof.Rows.boot_max (pa_cons (pe_bm0 PySem.F.plainAttrs_dict PySem.F.slot_dict_values PySem.F.type_dict_values mt_vals pp hbase hline) pa_nil he) (by decide) (by decide) he hpl, fun ρ σ m H A Q S L P => ?_⟩
  refine q.then S L P fun x v m1 H1 A1 _ g1 L1 r1 P1 => ?_
  split at P1
  · rename_i xs e
    split at P1
    · rename_i n ns e2
      obtain ⟨a, vs, rfl, hE, r⟩ := valsAt_ok g1.sim r1 e
      have ev := asI_all r e2
      subst ev
      have hT : tyV X.K "dict" (.ref a) H1 := by
        rcases hE with ⟨kvs, h, _⟩ | ⟨kvs, h, _⟩
        · exact .inr (.inr (.inl ⟨rfl, .inl ⟨kvs, h⟩⟩))
        · exact .inr (.inr (.inl ⟨rfl, .inr ⟨kvs, h⟩⟩))
      refine ⟨hT, a, _, rfl, rfl, hE, fun p hp => ?_⟩
      have g2 : Go cf m1 H1 m1 (upd H1 p (viewO "dict_values" p a)) A1 := go_side g1.sim hp
      have hpa : a ≠ p := fun z => by
        subst z
        rcases hE with ⟨kvs, h, _⟩ | ⟨kvs, h, _⟩ <;> (rw [hp] at h; cases h)
      refine ⟨p, a, n :: ns, rfl, upd_same, ?_, Nat.succ_pos _, fun k hk hge => ?_⟩
      · rcases hE with ⟨kvs, h, e3⟩ | ⟨kvs, h, e3⟩
        · exact .inl ⟨kvs, by rw [upd_ne hpa]; exact h, e3⟩
        · exact .inr ⟨kvs, by rw [upd_ne hpa]; exact h, e3⟩
      · have e2 : k = maxI n ns := by
          obtain ⟨h1, h2⟩ := maxI_ge ns n
          have h3 : maxI n ns ∈ n :: ns := by
            rcases maxI_mem ns n with h | h
            · rw [h]; simp
            · exact List.mem_cons_of_mem _ h
          have h4 := hge _ h3
          rcases List.mem_cons.mp hk with rfl | hk
          · omega
          · have := h2 k hk
            omega
        rw [e2]
        exact P1 m1 _ _ g2 (.int _)
    · exact P1.elim
  · exact P1.elim
end
/-! ### xs[::-1] of a list -/
section
variable {cf : Cfg} {X : Cx} {W : WX}
def fRevL (fe : FE) : FE := fun ρ A => (fe ρ A).bind fun x A => match lsAt A x with
  | some xs => .ok (.obj A.length) (A ++ [.lst xs.reverse])
  | none => .er
theorem c_revL {e : Expr} {k : Nat} {p1 p2 p3 pos : Pos} {fe : FE} (hK : X.K = cf.K) (he : CE cf X W e fe) : CE cf X W (.Subscript e (.Slice none none (some (.UnaryOp .USub (.Constant (.int 1) k p1) p2)) p3) pos) (fRevL fe) := by
  obtain ⟨t, p, o⟩ := he.ex
  refine ⟨_, pe_revL p, fun ρ σ m H A Q S L P => ?_⟩
  refine o.then S L P fun x v m1 H1 A1 _ g1 L1 rx P1 => ?_
  split at P1
  · rename_i xs e
    obtain ⟨a, vs, rfl, hs, r⟩ := lsAt_ok g1.sim rx e
    rw [hK]
    exact ⟨a, vs, rfl, hs, fun q hq => new_list g1.sim r.rev P1 hq⟩
  · exact P1.elim
end
end Dn

set_option maxRecDepth 100000
set_option maxHeartbeats 2000000
/-! Dn, part T: xs[::-1], of a list or a tuple. -/
namespace HT
open PySem PySem.Spec PyProof.Rows
section
variable {prog : Program} {w : World} {A : Around} {E : Value → Shared → Prop} {s : Shared}
theorem sliceApplied_rev {sl : Addr} {vl vu vs : Value} {n : Nat} {Q : Int × Int × Nat → Shared → Prop} (hs : s.heap.IsSliceOf sl vl vu vs) (pl : IsPart vl none) (pu : IsPart vu none) (ps : IsPart vs (some (-1)))
    (h : Q ((n : Int) - 1, -1, n) s) : wpAny (model prog w) A (Builtin.Slice.sliceApplied (.ref sl) (pure (n : Int))) Q E s := by
  obtain ⟨os, hos, hcs, hds⟩ := id hs
  unfold Builtin.Slice.sliceApplied Builtin.Slice.sliceFields
  refine wpAny_bind (wpAny_bind (wpAny_field hos hds (x := vl) rfl (wpAny_bind (wpAny_field hos hds (x := vu) rfl (wpAny_bind (wpAny_field hos hds (x := vs) rfl (wpAny_pure ?_)))))))
  refine wpAny_bind (slicePart_ ps ?_)
  show wpAny _ _ (if ((-1 : Int) == 0) = true then _ else _) _ _ s
  rw [if_neg (by decide)]
  refine wpAny_bind (slicePart_ pl (wpAny_bind (slicePart_ pu (wpAny_bind (wpAny_pure ?_)))))
  show wpAny _ _ (pure ((n : Int) - 1, (-1 : Int), Builtin.Slice.slicePlaces ((n : Int) - 1) (-1) (-1))) _ _ s
  have e : Builtin.Slice.slicePlaces ((n : Int) - 1) (-1) (-1) = n := by
    unfold Builtin.Slice.slicePlaces
    rw [if_neg (by decide)]
    by_cases hn : (n : Int) - 1 > -1
    · rw [if_pos hn]
      have e1 : (n : Int) - 1 - -1 - 1 = (n : Int) - 1 := by omega
      rw [e1, show (- -1 : Int) = 1 from rfl, Int.ediv_one]
      omega
    · rw [if_neg hn]
      omega
  rw [e]
  exact wpAny_pure h
theorem pick_rev (xs : Array Value) : ((List.range xs.size).filterMap fun (k : Nat) => xs[(((xs.size : Int) - 1) + (k : Int) * (-1)).toNat]?).toArray = xs.toList.reverse.toArray := by
  have e : ((List.range xs.size).filterMap fun (k : Nat) => xs[(((xs.size : Int) - 1) + (k : Int) * (-1)).toNat]?) = xs.toList.reverse := by
    have e1 : ∀ l : List Nat, (∀ k ∈ l, k < xs.size) → (l.filterMap fun (k : Nat) => xs[(((xs.size : Int) - 1) + (k : Int) * (-1)).toNat]?) = l.map fun k => xs.toList.reverse.getD k .none := by
      intro l
      induction l with
      | nil => intro _; rfl
      | cons k l ih =>
        intro h
        have hk := h k (by simp)
        have e2 : (((xs.size : Int) - 1) + (k : Int) * (-1)).toNat = xs.size - 1 - k := by omega
        have e3 : xs[xs.size - 1 - k]? = some (xs.toList.reverse.getD k .none) := by
          rw [List.getD_eq_getElem?_getD, List.getElem?_reverse (by simpa using hk)]
          have h4 : xs.size - 1 - k < xs.size := by omega
          simp [h4]
        rw [List.filterMap_cons, e2, e3, List.map_cons, ih fun j hj => h j (by simp [hj])]
    rw [e1 _ fun k hk => List.mem_range.mp hk]
    apply List.ext_getElem?
    intro j
    rw [List.getElem?_map]
    by_cases hj : j < xs.size
    · rw [List.getElem?_range hj, Option.map_some, List.getD_eq_getElem?_getD, List.getElem?_eq_getElem (by simpa using hj)]
      rfl
    · rw [List.getElem?_eq_none (by simp; omega), List.getElem?_eq_none (by simp; omega)]
      rfl
  rw [e]
theorem getItem_tuple_rev {t sl : Addr} {items : Array Value} {vl vu vs : Value} {Q : Value → Shared → Prop} (ht : IsTup s.heap t items) (hs : s.heap.IsSliceOf sl vl vu vs) (pl : IsPart vl none) (pu : IsPart vu none) (ps : IsPart vs (some (-1)))
    (h : Q (.ref s.heap.objs.size) { s with heap := s.heap.push { cls := .type "tuple", data := .seq items.toList.reverse.toArray } })
    (hsz : items.size ≤ sizeLine) : wpAny (model prog w) A (getItem (.ref t) (.ref sl)) Q E s := by
  have htake : sizeOk (.seq items.toList.reverse.toArray) := by
    show items.toList.reverse.toArray.size ≤ sizeLine
    rw [List.size_toArray, List.length_reverse, Array.length_toList]
    exact hsz
  obtain ⟨os, hos, hcs, hds⟩ := id hs
  have hTs : s.TypeIs (.ref sl) "slice" := ⟨os, hos, hcs⟩
  unfold getItem
  try with_reducible refine wpAny_holding ?_
  first | refine wpAny_bind (wpAny_pure ?_) | skip
  refine wpAny_bind (wpAny_sequenceKey ht.typeIs (by decide) ?_)
  refine wpAny_bind (wpAny_callSpecial?_slot (name := Str.ofString "__getitem__") ht.typeIs PyProof.Rows.slot_tuple_getitem
    (wpAny_call_entry PyProof.Rows.slot_tuple_getitem ht.typeIs entry_tuple_getitem ?_ (args_tuple_getitem _ _)))
  show wpAny _ _ (Builtin.Tuple.tupleItemsOf (.ref t) >>= _) _ _ s
  refine wpAny_bind (tupleItemsOf_ ht ?_)
  refine wpAny_bind (wpAny_typeOf hTs ?_)
  rw [if_pos (by decide)]
  refine wpAny_bind (sliceApplied_rev hs pl pu ps ?_)
  have hno : ¬ ((((items.size : Int) - 1) == 0 && (-1 : Int) == 1 && items.size == items.size) = true) := by
    intro q
    rw [Bool.and_eq_true, Bool.and_eq_true] at q
    exact absurd q.1.2 (by decide)
  show wpAny _ _ (if (((items.size : Int) - 1) == 0 && (-1 : Int) == 1 && items.size == items.size) = true then _ else _) _ _ s
  rw [if_neg hno, pick_rev]
  first
    | exact wpAny_bind (m := Builtin.Tuple.tupleExact _) (wpAny_newObj_type (wpAny_pure ⟨_, rfl, wpAny_pure h⟩) htake)
    | exact wpAny_bind (m := Builtin.Tuple.tupleExact _) (wpAny_newObj_type (wpAny_bind (wpAny_pure (wpAny_pure ⟨_, rfl, wpAny_pure h⟩))) htake)
    | exact wpAny_bind (wpAny_bind (m := Builtin.Tuple.tupleExact _) (wpAny_newObj_type (wpAny_pure (wpAny_pure ⟨_, rfl, wpAny_pure h⟩)) htake))
    | exact wpAny_bind (wpAny_bind (m := Builtin.Tuple.tupleExact _) (wpAny_newObj_type (wpAny_pure ⟨_, rfl, wpAny_pure h⟩) htake))
end
end HT
namespace Dn
open PySem PySem.Spec L2 PyProof.Rows
section
variable {cf : Cfg} {X : Cx} {W : WX}
def tRevT (K : PySem.W.Frag) (te : TE) : TE := fun σ H Q => te σ H fun x H1 => ∃ a xs, x = .ref a ∧ SqT K H1 a xs ∧ ∀ p, H1 p = none → Q (.ref p) (upd H1 p (.tup xs.reverse))
theorem pe_revT {e : Expr} {te : TE} {k : Nat} {p1 p2 p3 pos : Pos} (he : PE X e te) : PE X (.Subscript e (.Slice none none (some (.UnaryOp .USub (.Constant (.int 1) k p1) p2)) p3) pos) (tRevT X.K te) := by
  refine ⟨fun pins s σ H Q I h => ?_⟩
  refine Subscript_ (thn (he.run pins s σ H _ I h) fun v s1 ⟨x, H1, I1, r1, q1⟩ => ?_)
  obtain ⟨a, xs, ex, hx, q⟩ := q1
  subst ex
  cases r1
  have hst : PO X (some (.UnaryOp .USub (.Constant (.int 1) k p1) p2)) (tPart (tUn (rU fun i => .int (-i)) (tC (.int 1)))) := po_some (pe_un un_neg pe_int)
  refine wpAny_Slice (thn (po_none.run pins s1 σ H1 (fun o H2 => o = none ∧ H2 = H1) I1 ⟨rfl, rfl⟩) fun vl s2 ⟨l, H2, I2, pl, el, e2⟩ => ?_)
  subst el e2
  refine thn (po_none.run pins s2 σ H2 (fun o H3 => o = none ∧ H3 = H2) I2 ⟨rfl, rfl⟩) fun vu s3 ⟨u, H3, I3, pu, eu, e3⟩ => ?_
  subst eu e3
  refine thn (hst.run pins s3 σ H3 (fun o H4 => o = some (-1) ∧ H4 = H3) I3 ⟨1, rfl, -1, rfl, rfl, rfl⟩) fun vs s4 ⟨o, H4, I4, ps, eo, e4⟩ => ?_
  subst eo e4
  have I5 : Inv X pins σ H4 { s4 with heap := s4.heap.push { cls := .type "slice", data := .fields #[vl, vu, vs] } } := I4.kept (t' := s4.toks) fun b ob q => Heap.get?_push_of_some _ q
  obtain ⟨its, r, ht, hz⟩ := I5.tuple hx
  show wpAny (model X.prog X.w) X.A (subscriptTail e (.Slice none none (some (.UnaryOp .USub (.Constant (.int 1) k p1) p2)) p3) (.ref a) (.ref s4.heap.objs.size)) (EP X pins σ Q) X.xe { s4 with heap := s4.heap.push { cls := .type "slice", data := .fields #[vl, vu, vs] } }
  refine tail_any (ops := [.ref a, .ref s4.heap.objs.size]) ht.typeIs (PyProof.Rows.slot_tuple_getitem.lookup) ?_ (by with_unfolding_all rfl)
  have hlen := r.length
  refine HT.getItem_tuple_rev ht (Heap.IsSliceOf.new _ vl vu vs) pl pu ps ?_ (by rw [List.size_toArray]; omega)
  refine ⟨.ref _, _, I5.laid (t' := s4.toks) (o := .tup xs.reverse) (fun b ob q => Heap.get?_push_of_some _ q) (Nat.le_refl _) ?_, rfl, q _ (I5.hok.fresh (Nat.le_refl _))⟩
  exact ⟨by rw [List.length_reverse]; omega, _, r.reverse, ⟨_, Heap.get?_push_size _ rfl, rfl, _, rfl⟩⟩
/-- xs[::-1] -/
def fRev (fe : FE) : FE := fun ρ A => (fe ρ A).bind fun x A => match x with
  | .tup xs => .ok (.tup xs.reverse) A
  | x => match lsAt A x with
    | some xs => .ok (.obj A.length) (A ++ [.lst xs.reverse])
    | none => .er
theorem c_rev {e : Expr} {k : Nat} {p1 p2 p3 pos : Pos} {fe : FE} (hK : X.K = cf.K) (he : CE cf X W e fe) : CE cf X W (.Subscript e (.Slice none none (some (.UnaryOp .USub (.Constant (.int 1) k p1) p2)) p3) pos) (fRev fe) := by
  obtain ⟨t, p, o⟩ := he.ex
  refine ⟨_, PE.or (pe_revT p) (pe_revL p), fun ρ σ m H A Q S L P => ?_⟩
  by_cases hk : ∃ xs A1, fe ρ A = .ok (.tup xs) A1
  · left
    obtain ⟨xs0, B1, e0⟩ := hk
    refine o.then S L P fun x v m1 H1 A1 ea g1 L1 rx P1 => ?_
    rw [e0] at ea
    cases ea
    obtain ⟨a, vs, rfl, ha, r⟩ := RelA.to_tup rx
    rw [hK]
    exact ⟨a, vs, rfl, SqT.of ha, fun q hq => new_tup g1.sim r.rev P1 hq⟩
  · right
    refine o.then S L P fun x v m1 H1 A1 ea g1 L1 rx P1 => ?_
    split at P1
    · rename_i xs _
      exact (hk ⟨_, _, ea⟩).elim
    · split at P1
      · rename_i xs e
        obtain ⟨a, vs, rfl, hs, r⟩ := lsAt_ok g1.sim rx e
        rw [hK]
        exact ⟨a, vs, rfl, hs, fun q hq => new_list g1.sim r.rev P1 hq⟩
      · exact P1.elim
end
end Dn

set_option maxRecDepth 100000
set_option maxHeartbeats 2000000
/-! Dn, part U: with of an own class. -/
namespace Dn
open PySem PySem.Spec L2 PyProof.Rows
section
variable {X : Cx} {CX : CXT} {k k2 i : Nat} {C fe fx : Addr} {fdE fdX : FuncData} {psE psX : List Str} {spE spX : Sp} {E : XK}
/-- the ends behind __exit__ -/
def exE (a : Addr) (spX : Sp) (E : XK) (D : Ends) : Ends where
  nx := fun σ H => spX [.ref a, .non, .non, .non] H (fun _ H' => D.nx σ H') E
  rt := fun v H => spX [.ref a, .non, .non, .non] H (fun _ H' => D.rt v H') E
  bk := fun σ H => spX [.ref a, .non, .non, .non] H (fun _ H' => D.bk σ H') E
  ct := fun σ H => spX [.ref a, .non, .non, .non] H (fun _ H' => D.ct σ H') E
def tWith (C : Addr) (i : Nat) (spE spX : Sp) (E : XK) (te : TE) (t : TS) : TS := fun D σ H => te σ H fun x H1 => ∃ a dx fs, x = V.ref a ∧ H1 a = some (.ins C dx fs) ∧ spE [.ref a] H1 (fun v H2 => t (exE a spX E D) (σ.set i (some v)) H2) E
theorem ps_withN {ctx : Expr} {y : Str} {py pos : Pos} {body : List Stmt} {te : TE} {t : TS} (he : PE X ctx te)
    (hE : PySem.W.findIn X.K (.ref C) "__enter__" = some (some (.ref fe))) (fE : PySem.W.isFn X.K (.ref fe) = true) (hX : PySem.W.findIn X.K (.ref C) "__exit__" = some (some (.ref fx))) (fX : PySem.W.isFn X.K (.ref fx) = true)
    (FE : FnOk X.prog X.w X.K X.mg X.base CX k fe fdE psE spE) (hrE : Room k X.A) (hbE : Binds X.K fdE psE [])
    (FX : FnOk X.prog X.w X.K X.mg X.base CX k2 fx fdX psX spX) (hrX : Room k2 X.A) (hbX : Binds X.K fdX psX [])
    (hx : ∀ σ, PassesAt CX X σ E) (hN : X.N.Nodup) (hi : X.N[i]? = some y) (hy : L2.Loc X.env.scope y) (hf : X.fn y = true ∨ X.env.scope.names.lookup y = some .local) (hb : PSs X.nox body t) :
    PS X (.With [⟨ctx, some (.Name y py)⟩] body pos) (tWith C i spE spX E te t) := by
  refine ⟨fun pins s σ H D I h => ?_⟩
  refine PySem.W.kw_execN (thn (he.run pins s σ H _ I h) fun u s1 ⟨x, H1, I1, rx, a, dx, fs, ex, ea, q⟩ => ?_)
  subst ex
  obtain rfl : u = Value.ref a := rx
  obtain ⟨mA, O, _⟩ := ins_get I1.hok ea
  obtain ⟨od, J, _⟩ := O.look
  unfold PySem.W.KwIn
  refine PySem.W.kw_core I1.kIn J hE fE hX fX ?_
  have exit : ∀ (σ' : L2.St) (H' : Hp) (s' : Shared) (Q : Hp → Prop) (R : Shared → Prop), Inv X pins σ' H' s' → spX [.ref a, .non, .non, .non] H' (fun _ H2 => Q H2) E → (∀ s2 H2, Inv X pins σ' H2 s2 → Q H2 → R s2) →
      wpAny (model X.prog X.w) X.A (call (.ref fx) [.ref a, .none, .none, .none]) (fun _ s2 => R s2) X.xe s' := fun σ' H' s' Q R I' q' k' =>
    wpAny_mono (run_fnS (E := fun _ => E) FX hrX hbX (hx σ') I' (vs := [.ref a, .non, .non, .non]) (.cons (show RelV (.ref a) (.ref a) from rfl) (.cons (show RelV .non .none from rfl) (.cons (show RelV .non .none from rfl) (.cons (show RelV .non .none from rfl) .nil)))) q') (fun r s2 ⟨_, H2, I2, _, q2⟩ => k' s2 H2 I2 q2) fun _ _ z => z
  refine wpAny_mono (run_fnS (E := fun _ => E) FE hrE hbE (hx σ) I1 (vs := [.ref a]) (.cons (show RelV (.ref a) (.ref a) from rfl) .nil) q) (fun v s2 ⟨w, H2, I2, rw', q2⟩ => ?_) fun _ _ z => z
  refine wpAny_assign_Name (store_ok I2 hN hi hy rw' (fun s3 I3 => ?_) hf)
  refine wpAny_mono (hb.run pins s3 _ H2 _ (I3.wish _) q2) (fun f s4 hs => ?_) fun _ _ z => z
  have hs2 := SP.unwish hs
  cases f with
  | next => obtain ⟨σ', H', I4, q4⟩ := hs2; exact exit σ' H' s4 _ _ I4 q4 fun s5 H5 I5 q5 => ⟨σ', H5, I5, q5⟩
  | brk => obtain ⟨σ', H', I4, q4⟩ := hs2; exact exit σ' H' s4 _ _ I4 q4 fun s5 H5 I5 q5 => ⟨σ', H5, I5, q5⟩
  | cont => obtain ⟨σ', H', I4, q4⟩ := hs2; exact exit σ' H' s4 _ _ I4 q4 fun s5 H5 I5 q5 => ⟨σ', H5, I5, q5⟩
  | ret u => obtain ⟨v', σ', H', I4, r4, q4⟩ := hs2; exact exit σ' H' s4 _ _ I4 q4 fun s5 H5 I5 q5 => ⟨v', σ', H5, I5, r4, q5⟩
end
end Dn
namespace Dn
open PySem PySem.Spec L2 PyProof.Rows
section
variable {cf : Cfg} {X : Cx} {W : WX}
def fWith (c i : Nat) (GE GX : FD) (fo : FE) (fb : FS) : FS := fun ρ A => (fo ρ A).s ρ fun x A => match x with
  | .obj n => match A[n]? with
    | some (.ins c' _) => if c' = c then (match GE [.obj n] A with
      | .ok v A => match fb (ρ.set i (some v)) A with
        | .nx ρ' A => (match GX [.obj n, .non, .non, .non] A with
          | .ok _ A => .nx ρ' A
          | _ => .er)
        | .rt u A => (match GX [.obj n, .non, .non, .non] A with
          | .ok _ A => .rt u A
          | _ => .er)
        | _ => .er
      | _ => .er) else .er
    | _ => .er
  | _ => .er
theorem ok_with {c i : Nat} {GE GX : FD} {E : XK} {te : TE} {t : TS} {fo : FE} {fb : FS} (ho : EOk cf W te fo) (hb : SOk cf W0 t fb) : SOk cf W (tWith (cf.cls c) i (spOf cf 1 GE) (spOf cf 4 GX) E te t) (fWith c i GE GX fo fb) := fun ρ σ m H A D S L P => by
  refine ho.thenS S L P fun x v m1 H1 A1 _ g1 L1 rx P1 => ?_
  split at P1
  · rename_i n _
    split at P1
    · rename_i c' fs e1
      by_cases hc : c' = c
      · rw [if_pos hc] at P1
        subst hc
        obtain ⟨a, rfl, hm, dx, vs, h3, hl, r⟩ := g1.sim.obj rx e1
        refine ⟨a, dx, _, rfl, h3, m1, A1, [.obj n], g1.sim, .cons rx .nil, rfl, ?_⟩
        cases eg : GE [.obj n] A1 with
        | ok w B =>
          rw [eg] at P1
          dsimp only at P1
          intro m2 H2 u g2 ru
          refine hb _ _ m2 H2 B _ g2.sim ((L1.mono g2.pre g2.fz).set i ru) ?_
          revert P1
          cases fb (ρ.set i (some w)) B with
          | nx ρ' B2 =>
            intro P1 m3 H3 σ3 g3 l3
            dsimp only at P1
            refine ⟨m3, B2, [.obj n, .non, .non, .non], g3.sim, .cons (rx.mono (g2.trans g3).pre (g2.trans g3).fz) (.cons .non (.cons .non (.cons .non .nil))), rfl, ?_⟩
            revert P1
            cases GX [.obj n, .non, .non, .non] B2 with
            | ok z B3 => exact fun P1 m4 H4 u4 g4 r4 => P1 m4 H4 σ3 ((g2.trans g3).trans g4) (l3.mono g4.pre g4.fz)
            | exc _ _ => exact fun P1 => P1.elim
            | er => exact fun P1 => P1.elim
          | rt z B2 =>
            intro P1 m3 H3 u3 g3 r3
            dsimp only at P1
            refine ⟨m3, B2, [.obj n, .non, .non, .non], g3.sim, .cons (rx.mono (g2.trans g3).pre (g2.trans g3).fz) (.cons .non (.cons .non (.cons .non .nil))), rfl, ?_⟩
            revert P1
            cases GX [.obj n, .non, .non, .non] B2 with
            | ok z B3 => exact fun P1 m4 H4 u4 g4 r4 => P1 m4 H4 u3 ((g2.trans g3).trans g4) (r3.mono g4.pre g4.fz)
            | exc _ _ => exact fun P1 => P1.elim
            | er => exact fun P1 => P1.elim
          | bk _ _ => exact fun P1 => P1.elim
          | ct _ _ => exact fun P1 => P1.elim
          | exc _ _ _ => exact fun P1 => P1.elim
          | er => exact fun P1 => P1.elim
        | exc _ _ => rw [eg] at P1; exact P1.elim
        | er => rw [eg] at P1; exact P1.elim
      · rw [if_neg hc] at P1
        exact P1.elim
    · exact P1.elim
  · exact P1.elim
theorem cs_with {E : XK} {ctx : Expr} {y qE qX : Str} {py pos : Pos} {body : List Stmt} {c kE kX j : Nat} {stE stX : Stmt} {p1 a1 a2 a3 a4 : Str} {GE GX : FD} {fo : FE} {fb : FS} (i : Nat)
    (DE : Mf X.prog X.w cf X.mg X.base c "__enter__" qE stE [p1] kE GE) (bE : BindsT "__enter__" qE stE [p1]) (DX : Mf X.prog X.w cf X.mg X.base c "__exit__" qX stX [a1, a2, a3, a4] kX GX) (bX : BindsT "__exit__" qX stX [a1, a2, a3, a4])
    (hK : X.K = cf.K) (hr : Room j X.A) (hjE : kE ≤ j) (hjX : kX ≤ j) (tk : Takes X (WD E)) (ho : CE cf X (WD E) ctx fo) (hN : X.N.Nodup) (hb : CB cf X.nox W0 body fb) (hi : X.N[i]? = some y := by rfl) (hy : L2.Loc X.env.scope y := by first | exact .inl rfl | exact .inr rfl)
    (hf : X.fn y = true ∨ X.env.scope.names.lookup y = some .local := by first | exact .inl rfl | exact .inr rfl | assumption) :
    CS cf X (WD E) (.With [⟨ctx, some (.Name y py)⟩] body pos) (fWith c i GE GX fo fb) := by
  obtain ⟨te, po, oo⟩ := ho.ex
  obtain ⟨t, pb, ob⟩ := hb.ex
  obtain ⟨gE, fdE, FE, mE, OE⟩ := DE.ex
  obtain ⟨gX, fdX, FX, mX, OX⟩ := DX.ex
  have hbE := FE.binds bE
  have hbX := FX.binds bX
  rw [← hK] at OE OX mE mX hbE hbX
  exact ⟨_, ps_withN po mE.1 mE.2 mX.1 mX.2 OE (hr.mono hjE) hbE OX (hr.mono hjX) hbX (fun σ => passAt tk σ) hN hi hy hf pb, ok_with oo ob⟩
end
end Dn

set_option maxRecDepth 100000
set_option maxHeartbeats 1000000
/-! Dn, part V: running the functions G with letters: rules of a small logic (WP, RP), the heap, what is closed. -/
namespace Dn
open PySem L2 PyProof.Rows

/-! ### the steps; what comes later has a name, so that a run looks at what is next alone -/
def SRes.nxt (r : SRes) (g : FS) : SRes := match r with
  | .nx ρ A => g ρ A
  | r => r
theorem nxt_nx {ρ : Rho} {A : AH} {g : FS} : (SRes.nx ρ A).nxt g = g ρ A := (rfl)
theorem nxt_rt {v : AV} {A : AH} {g : FS} : (SRes.rt v A).nxt g = .rt v A := (rfl)
theorem nxt_bk {ρ : Rho} {A : AH} {g : FS} : (SRes.bk ρ A).nxt g = .bk ρ A := (rfl)
theorem nxt_ct {ρ : Rho} {A : AH} {g : FS} : (SRes.ct ρ A).nxt g = .ct ρ A := (rfl)
theorem nxt_exc {e : Ex} {ρ : Rho} {A : AH} {g : FS} : (SRes.exc e ρ A).nxt g = .exc e ρ A := (rfl)
theorem nxt_er {g : FS} : SRes.er.nxt g = .er := (rfl)
theorem plain_nx {ρ : Rho} {A : AH} : (SRes.nx ρ A).plain = .nx ρ A := (rfl)
def SRes.at (r : SRes) (g : FS) : SRes := match r.plain with
  | .nx ρ A => g ρ A
  | r => r
theorem at_nx {ρ : Rho} {A : AH} {g : FS} : (SRes.nx ρ A).at g = g ρ A := (rfl)
def pick {α : Type} (b : Bool) (f g : Rho → AH → α) (ρ : Rho) (A : AH) : α := if b = true then f ρ A else g ρ A
theorem pick_t {α : Type} {f g : Rho → AH → α} {ρ : Rho} {A : AH} : pick true f g ρ A = f ρ A := (rfl)
theorem pick_f {α : Type} {f g : Rho → AH → α} {ρ : Rho} {A : AH} : pick false f g ρ A = g ρ A := (rfl)
theorem pick_pos {α : Type} {b : Bool} {f g : Rho → AH → α} {ρ : Rho} {A : AH} (h : b = true) : pick b f g ρ A = f ρ A := by rw [h]; rfl
theorem pick_neg {α : Type} {b : Bool} {f g : Rho → AH → α} {ρ : Rho} {A : AH} (h : b = false) : pick b f g ρ A = g ρ A := by rw [h]; rfl
def pk {α : Type} (f g : Rho → AH → α) (ρ : Rho) (b : Bool) (A : AH) : α := pick b f g ρ A
theorem pk_ap {α : Type} {f g : Rho → AH → α} {ρ : Rho} {b : Bool} {A : AH} : pk f g ρ b A = pick b f g ρ A := (rfl)
def oVar (o : Option (Option AV)) (A : AH) : Res AV := match o with
  | some (some v) => .ok v A
  | _ => .er
theorem oVar_ok {A : AH} {v : AV} : oVar (some (some v)) A = .ok v A := (rfl)
/-! the names of what comes later -/
def kDrop (ρ : Rho) {α : Type} (_ : α) (A : AH) : SRes := .nx ρ A
def kRet (v : AV) (A : AH) : SRes := .rt v A
def kSet (ρ : Rho) (i : Nat) (x : AV) (A : AH) : SRes := .nx (ρ.set i (some x)) A
def kAsg (ρ : Rho) (g : FG) (x : AV) (A : AH) : SRes := (g x ρ A).plain
def kGo (x : AV) (g : F2) (y : AV) (A : AH) : Res AV := g x y A
def k2 (ρ : Rho) (g : F2) (fb : FE) (x : AV) (A : AH) : Res AV := (fb ρ A).bind (kGo x g)
def kConst {α : Type} (a : α) (_ : Rho) (A : AH) : Res α := .ok a A
def kNot (b : Bool) (A : AH) : Res Bool := .ok (!b) A
def kAsB (ρ : Rho) (f g : FE) (x : AV) (A : AH) : Res AV := (asB x A).bind (pk f g ρ)
def kNotV (b : Bool) (A : AH) : Res AV := .ok (.bl (!b)) A
def kNotX (x : AV) (A : AH) : Res AV := (asB x A).bind kNotV
def kCh4 (ρ : Rho) (y : AV) (g' : F2) (fc : FE) (b : Bool) (A : AH) : Res AV := pick b (fun ρ A => (fc ρ A).bind (kGo y g')) (kConst (.bl false)) ρ A
def kCh3 (ρ : Rho) (y : AV) (g' : F2) (fc : FE) (z : AV) (A : AH) : Res AV := (asB z A).bind (kCh4 ρ y g' fc)
def kCh2 (ρ : Rho) (x : AV) (g g' : F2) (fc : FE) (y : AV) (A : AH) : Res AV := (g x y A).bind (kCh3 ρ y g' fc)
def kCh1 (ρ : Rho) (g g' : F2) (fb fc : FE) (x : AV) (A : AH) : Res AV := (fb ρ A).bind (kCh2 ρ x g g' fc)
def kCons2 (x : AV) (xs : List AV) (A : AH) : Res (List AV) := .ok (x :: xs) A
def kCons (ρ : Rho) (g : FA) (x : AV) (A : AH) : Res (List AV) := (g ρ A).bind (kCons2 x)
def kTup (xs : List AV) (A : AH) : Res AV := if xs.length < big then .ok (.tup xs) A else .er
def kLst (xs : List AV) (A : AH) : Res AV := if xs.length < big then .ok (.obj A.length) (A ++ [.lst xs]) else .er
def kCall (n : Nat) (G : FD) (as : List AV) (A : AH) : Res AV := if as.length = n then G as A else .er
def kAug2 (ρ : Rho) (i : Nat) (x : AV) (g : F2) (y : AV) (A : AH) : SRes := (g x y A).s ρ (kSet ρ i)
def kAug (ρ : Rho) (i : Nat) (g : F2) (f : FE) (x : AV) (A : AH) : SRes := (f ρ A).s ρ (kAug2 ρ i x g)
def kMeth2 (x : AV) (g : FM) (xs : List AV) (A : AH) : Res AV := g x xs A
def kMeth (ρ : Rho) (ty : AH → AV → Bool) (g : FM) (fa : FA) (x : AV) (A : AH) : Res AV := if ty A x = true then (fa ρ A).bind (kMeth2 x g) else .er
def kMeth0 (ty : AH → AV → Bool) (g : FM) (x : AV) (A : AH) : Res AV := if ty A x = true then g x [] A else .er
section
variable {ρ : Rho} {A B : AH}
theorem a_drop {α : Type} {x : α} : kDrop ρ x A = .nx ρ A := (rfl)
theorem a_ret {v : AV} : kRet v A = .rt v A := (rfl)
theorem a_set {i : Nat} {x : AV} : kSet ρ i x A = .nx (ρ.set i (some x)) A := (rfl)
theorem a_asg {g : FG} {x : AV} : kAsg ρ g x A = (g x ρ A).plain := (rfl)
theorem a_g {g : F2} {x y : AV} : kGo x g y A = g x y A := (rfl)
theorem a_2 {g : F2} {fb : FE} {x : AV} : k2 ρ g fb x A = (fb ρ A).bind (kGo x g) := (rfl)
theorem a_const {α : Type} {a : α} : kConst a ρ A = .ok a A := (rfl)
theorem a_not {b : Bool} : kNot b A = .ok (!b) A := (rfl)
theorem a_asB {f g : FE} {b : Bool} : kAsB ρ f g (.bl b) A = pick b f g ρ A := (rfl)
theorem a_notV {b : Bool} : kNotX (.bl b) A = .ok (.bl (!b)) A := (rfl)
theorem a_ch4t {y : AV} {g' : F2} {fc : FE} : kCh3 ρ y g' fc (.bl true) A = (fc ρ A).bind (kGo y g') := (rfl)
theorem a_ch4f {y : AV} {g' : F2} {fc : FE} : kCh3 ρ y g' fc (.bl false) A = .ok (.bl false) A := (rfl)
theorem a_ch4 {y : AV} {g' : F2} {fc : FE} {b : Bool} : kCh3 ρ y g' fc (.bl b) A = kCh4 ρ y g' fc b A := (rfl)
theorem a_ch2 {x y : AV} {g g' : F2} {fc : FE} : kCh2 ρ x g g' fc y A = (g x y A).bind (kCh3 ρ y g' fc) := (rfl)
theorem a_ch1 {x : AV} {g g' : F2} {fb fc : FE} : kCh1 ρ g g' fb fc x A = (fb ρ A).bind (kCh2 ρ x g g' fc) := (rfl)
theorem a_cons2 {x : AV} {xs : List AV} : kCons2 x xs A = .ok (x :: xs) A := (rfl)
theorem a_cons {g : FA} {x : AV} : kCons ρ g x A = (g ρ A).bind (kCons2 x) := (rfl)
theorem a_tup {xs : List AV} : kTup xs A = if xs.length < big then .ok (.tup xs) A else .er := (rfl)
theorem a_lst {xs : List AV} : kLst xs A = if xs.length < big then .ok (.obj A.length) (A ++ [.lst xs]) else .er := (rfl)
theorem a_call {n : Nat} {G : FD} {as : List AV} : kCall n G as A = if as.length = n then G as A else .er := (rfl)
theorem a_aug2 {i : Nat} {x y : AV} {g : F2} : kAug2 ρ i x g y A = (g x y A).s ρ (kSet ρ i) := (rfl)
theorem a_aug {i : Nat} {g : F2} {f : FE} {x : AV} : kAug ρ i g f x A = (f ρ A).s ρ (kAug2 ρ i x g) := (rfl)
theorem a_meth2 {g : FM} {x : AV} {xs : List AV} : kMeth2 x g xs A = g x xs A := (rfl)
theorem a_meth {ty : AH → AV → Bool} {g : FM} {fa : FA} {x : AV} : kMeth ρ ty g fa x A = if ty A x = true then (fa ρ A).bind (kMeth2 x g) else .er := (rfl)
theorem a_meth0 {ty : AH → AV → Bool} {g : FM} {x : AV} : kMeth0 ty g x A = if ty A x = true then g x [] A else .er := (rfl)
theorem x_seq {f g : FS} : fSeq f g ρ A = (f ρ A).nxt g := (rfl)
theorem x_nx : fNx ρ A = .nx ρ A := (rfl)
theorem x_bk : fBk ρ A = .bk ρ A := (rfl)
theorem x_ct : fCt ρ A = .ct ρ A := (rfl)
theorem x_drop {f : FE} : fDrop f ρ A = (f ρ A).s ρ (kDrop ρ) := (rfl)
theorem x_ret {f : FE} : fRet f ρ A = (f ρ A).s ρ kRet := (rfl)
theorem x_retN : fRetN ρ A = .rt .non A := (rfl)
theorem x_if {c : FT} {f g : FS} : fIfS c f g ρ A = (c ρ A).s ρ (pk f g ρ) := (rfl)
theorem x_set {i : Nat} {f : FE} : fSet i f ρ A = (f ρ A).s ρ (kSet ρ i) := (rfl)
theorem x_asg {f : FE} {g : FG} : fAsgG f g ρ A = (f ρ A).s ρ (kAsg ρ g) := (rfl)
theorem x_nm {i : Nat} {x : AV} : gNm i x ρ A = .nx (ρ.set i (some x)) A := (rfl)
theorem x_gsNil : gsNil [] ρ A = .nx ρ A := (rfl)
theorem x_gsCons {g : FG} {h : FGs} {x : AV} {xs : List AV} : gsCons g h (x :: xs) ρ A = (g x ρ A).nxt (h xs) := (rfl)
theorem x_gTp {n : Nat} {g : FGs} {xs : List AV} : gTp n g (.tup xs) ρ A = if xs.length = n then g xs ρ A else .er := (rfl)
theorem x_var {i : Nat} : fVar i ρ A = oVar ρ[i]? A := (rfl)
theorem x_c {v : AV} : fC v ρ A = .ok v A := (rfl)
theorem x_2 {g : F2} {fa fb : FE} : f2 g fa fb ρ A = (fa ρ A).bind (k2 ρ g fb) := (rfl)
theorem x_1 {g : AV → AH → Res AV} {fa : FE} : f1 g fa ρ A = (fa ρ A).bind g := (rfl)
theorem x_B {fa : FE} : fB fa ρ A = (fa ρ A).bind asB := (rfl)
theorem asB_ok {b : Bool} : asB (.bl b) A = .ok b A := (rfl)
theorem x_and {f g : FT} : fAnd f g ρ A = (f ρ A).bind (pk g (kConst false) ρ) := (rfl)
theorem x_or {f g : FT} : fOr f g ρ A = (f ρ A).bind (pk (kConst true) g ρ) := (rfl)
theorem x_not {f : FT} : fNot f ρ A = (f ρ A).bind kNot := (rfl)
theorem x_andV {f g : FE} : fAndV f g ρ A = (f ρ A).bind (kAsB ρ g (kConst (.bl false))) := (rfl)
theorem x_orV {f g : FE} : fOrV f g ρ A = (f ρ A).bind (kAsB ρ (kConst (.bl true)) g) := (rfl)
theorem x_notV {f : FE} : fNotV f ρ A = (f ρ A).bind kNotX := (rfl)
theorem x_ifE {t : FT} {f g : FE} : fIf t f g ρ A = (t ρ A).bind (pk f g ρ) := (rfl)
theorem x_chain {g g' : F2} {fa fb fc : FE} : fChain g g' fa fb fc ρ A = (fa ρ A).bind (kCh1 ρ g g' fb fc) := (rfl)
theorem x_nil : fNil ρ A = .ok [] A := (rfl)
theorem x_cons {f : FE} {g : FA} : fCons f g ρ A = (f ρ A).bind (kCons ρ g) := (rfl)
theorem x_tup {f : FA} : fTup f ρ A = (f ρ A).bind kTup := (rfl)
theorem x_lst {f : FA} : fLst f ρ A = (f ρ A).bind kLst := (rfl)
theorem x_call {n : Nat} {G : FD} {f : FA} : fCall n G f ρ A = (f ρ A).bind (kCall n G) := (rfl)
theorem x_cb {g : FD} {f : FA} : fCb g f ρ A = (f ρ A).bind g := (rfl)
theorem x_aug {i : Nat} {g : F2} {f : FE} : fAug i g f ρ A = (oVar ρ[i]? A).s ρ (kAug ρ i g f) := by
  unfold fAug oVar
  rcases ρ[i]? with _ | _ | x <;> rfl
theorem x_dk : fDK ρ A = .ok (.obj A.length) (A ++ [.dK []]) := (rfl)
theorem x_dt : fDT ρ A = .ok (.obj A.length) (A ++ [.dT []]) := (rfl)
theorem x_yes : fYes ρ A = .ok true A := (rfl)
theorem x_meth {ty : AH → AV → Bool} {g : FM} {fo : FE} {fa : FA} : fMeth ty g fo fa ρ A = (fo ρ A).bind (kMeth ρ ty g fa) := (rfl)
theorem x_meth0 {ty : AH → AV → Bool} {g : FM} {fo : FE} : fMeth0 ty g fo ρ A = (fo ρ A).bind (kMeth0 ty g) := (rfl)
end

/-! ### what a run ends with -/
structure Ps where
  nx : Rho → AH → Prop := fun _ _ => False
  rt : AV → AH → Prop := fun _ _ => False
  bk : Rho → AH → Prop := fun _ _ => False
  ct : Rho → AH → Prop := fun _ _ => False
  exc : Ex → Rho → AH → Prop := fun _ _ _ => False
def WP (r : SRes) (Q : Ps) : Prop := match r with
  | .nx ρ A => Q.nx ρ A
  | .rt v A => Q.rt v A
  | .bk ρ A => Q.bk ρ A
  | .ct ρ A => Q.ct ρ A
  | .exc e ρ A => Q.exc e ρ A
  | .er => False
def RP {α : Type} (r : Res α) (K : α → AH → Prop) (X : Ex → AH → Prop) : Prop := match r with
  | .ok a A => K a A
  | .exc e A => X e A
  | .er => False
/-- what is wanted ahead of g -/
def Ps.ah (g : FS) (Q : Ps) : Ps := { Q with nx := fun ρ A => WP (g ρ A) Q }
def kSt {α : Type} (k : α → AH → SRes) (Q : Ps) (a : α) (A : AH) : Prop := WP (k a A) Q
def kX (Q : Ps) (ρ : Rho) (e : Ex) (A : AH) : Prop := Q.exc e ρ A
def kR {α β : Type} (k : α → AH → Res β) (K : β → AH → Prop) (X : Ex → AH → Prop) (a : α) (A : AH) : Prop := RP (k a A) K X
/-- what is wanted at a def's end: Φ of the answer -/
def Ps.df (A : AH) (Φ : Res AV → Prop) : Ps := { nx := fun _ A' => Φ (gcR A .non A'), rt := fun v A' => Φ (gcR A v A'), exc := fun e _ A' => Φ (gcE A e A') }
def Ps.dfE (A : AH) (R : Res AV) : Ps := { nx := fun _ A' => gcR A .non A' = R, rt := fun v A' => gcR A v A' = R, exc := fun e _ A' => gcE A e A' = R }
def turnP (I : Rho → AH → Prop) (Q : Ps) : Ps := { nx := I, ct := I, bk := Q.nx, rt := Q.rt, exc := Q.exc }
section
variable {Q : Ps} {ρ : Rho} {A A0 : AH} {v : AV} {e : Ex} {I : Rho → AH → Prop} {Φ : Res AV → Prop} {R : Res AV} {g : FS}
theorem wp_nx : WP (.nx ρ A) Q = Q.nx ρ A := (rfl)
theorem wp_rt : WP (.rt v A) Q = Q.rt v A := (rfl)
theorem wp_bk : WP (.bk ρ A) Q = Q.bk ρ A := (rfl)
theorem wp_ct : WP (.ct ρ A) Q = Q.ct ρ A := (rfl)
theorem wp_exc : WP (.exc e ρ A) Q = Q.exc e ρ A := (rfl)
theorem wp_er : WP .er Q = False := (rfl)
theorem q_ah_nx : (Q.ah g).nx ρ A = WP (g ρ A) Q := (rfl)
theorem q_ah_rt : (Q.ah g).rt v A = Q.rt v A := (rfl)
theorem q_ah_bk : (Q.ah g).bk ρ A = Q.bk ρ A := (rfl)
theorem q_ah_ct : (Q.ah g).ct ρ A = Q.ct ρ A := (rfl)
theorem q_ah_exc : (Q.ah g).exc e ρ A = Q.exc e ρ A := (rfl)
theorem q_df_nx : (Ps.df A0 Φ).nx ρ A = Φ (gcR A0 .non A) := (rfl)
theorem q_df_rt : (Ps.df A0 Φ).rt v A = Φ (gcR A0 v A) := (rfl)
theorem q_df_exc : (Ps.df A0 Φ).exc e ρ A = Φ (gcE A0 e A) := (rfl)
theorem q_dfE_nx : (Ps.dfE A0 R).nx ρ A = (gcR A0 .non A = R) := (rfl)
theorem q_dfE_rt : (Ps.dfE A0 R).rt v A = (gcR A0 v A = R) := (rfl)
theorem q_dfE_exc : (Ps.dfE A0 R).exc e ρ A = (gcE A0 e A = R) := (rfl)
theorem q_t_nx : (turnP I Q).nx ρ A = I ρ A := (rfl)
theorem q_t_ct : (turnP I Q).ct ρ A = I ρ A := (rfl)
theorem q_t_bk : (turnP I Q).bk ρ A = Q.nx ρ A := (rfl)
theorem q_t_rt : (turnP I Q).rt v A = Q.rt v A := (rfl)
theorem q_t_exc : (turnP I Q).exc e ρ A = Q.exc e ρ A := (rfl)
theorem rp_ok {α : Type} {K : α → AH → Prop} {X : Ex → AH → Prop} {a : α} : RP (.ok a A) K X = K a A := (rfl)
theorem rp_exc {α : Type} {K : α → AH → Prop} {X : Ex → AH → Prop} {e : Ex} : RP (.exc e A : Res α) K X = X e A := (rfl)
theorem rp_er {α : Type} {K : α → AH → Prop} {X : Ex → AH → Prop} : RP (.er : Res α) K X = False := (rfl)
theorem kSt_ap {α : Type} {k : α → AH → SRes} {a : α} : kSt k Q a A = WP (k a A) Q := (rfl)
theorem kX_ap : kX Q ρ e A = Q.exc e ρ A := (rfl)
theorem kR_ap {α β : Type} {k : α → AH → Res β} {K : β → AH → Prop} {X : Ex → AH → Prop} {a : α} : kR k K X a A = RP (k a A) K X := (rfl)
theorem wp_nxt {r : SRes} {g : FS} (h : WP r (Q.ah g)) : WP (r.nxt g) Q := by
  cases r <;> exact h
theorem wp_s {α : Type} {r : Res α} {k : α → AH → SRes} (h : RP r (kSt k Q) (kX Q ρ)) : WP (r.s ρ k) Q := by
  cases r <;> exact h
theorem rp_bind {α β : Type} {r : Res α} {k : α → AH → Res β} {K : β → AH → Prop} {X : Ex → AH → Prop} (h : RP r (kR k K X) X) : RP (r.bind k) K X := by
  cases r <;> exact h
theorem wp_pick {b : Bool} {f g : FS} (h1 : b = true → WP (f ρ A) Q) (h2 : b = false → WP (g ρ A) Q) : WP (pick b f g ρ A) Q := by
  cases b
  · exact h2 rfl
  · exact h1 rfl
theorem rp_pick {α : Type} {b : Bool} {f g : Rho → AH → Res α} {K : α → AH → Prop} {X : Ex → AH → Prop} (h1 : b = true → RP (f ρ A) K X) (h2 : b = false → RP (g ρ A) K X) : RP (pick b f g ρ A) K X := by
  cases b
  · exact h2 rfl
  · exact h1 rfl
theorem RP.mono {α : Type} {r : Res α} {K K' : α → AH → Prop} {X X' : Ex → AH → Prop} (h : RP r K X) (k : ∀ a A, K a A → K' a A) (x : ∀ e A, X e A → X' e A) : RP r K' X' := by
  cases r with
  | ok a A => exact k a A h
  | exc e A => exact x e A h
  | er => exact h
/-- a def, by its body -/
theorem rd_any {n : Nat} {F : FS} {as : List AV} (h : WP (F (as.map some ++ List.replicate (n - as.length) none) A) (Ps.df A Φ)) : Φ (runDefR n F as A) := by
  unfold runDefR
  revert h
  cases F (as.map some ++ List.replicate (n - as.length) none) A with
  | nx ρ A' => exact id
  | rt v A' => exact id
  | exc e ρ A' => exact id
  | bk ρ A' => exact False.elim
  | ct ρ A' => exact False.elim
  | er => exact False.elim
theorem rd_eq {n : Nat} {F : FS} {as : List AV} (h : WP (F (as.map some ++ List.replicate (n - as.length) none) A) (Ps.dfE A R)) : runDefR n F as A = R := rd_any (Φ := fun r => r = R) h
end

/-! ### loops -/
theorem turnF_wp {g : FG} {b : FS} {x : AV} {ρ : Rho} {A : AH} {k : Rho → AH → SRes} {Q : Ps} {I : Rho → AH → Prop} (h : WP ((g x ρ A).at b) (turnP I Q)) (hk : ∀ ρ A, I ρ A → WP (k ρ A) Q) : WP (turnF g b x ρ A k) Q := by
  unfold SRes.at at h
  unfold turnF
  cases e : (g x ρ A).plain with
  | nx ρ1 A1 =>
    rw [e] at h
    simp only at h ⊢
    cases e2 : b ρ1 A1 with
    | nx ρ2 A2 => rw [e2] at h; exact hk _ _ h
    | ct ρ2 A2 => rw [e2] at h; exact hk _ _ h
    | bk ρ2 A2 => rw [e2] at h; exact h
    | rt v A2 => rw [e2] at h; exact h
    | exc e A2 A3 => rw [e2] at h; exact h
    | er => rw [e2] at h; exact h
  | exc e ρ2 A2 => rw [e] at h; exact h
  | rt v A2 =>
    exfalso
    revert e
    cases g x ρ A <;> intro e <;> cases e
  | bk v A2 =>
    exfalso
    revert e
    cases g x ρ A <;> intro e <;> cases e
  | ct v A2 =>
    exfalso
    revert e
    cases g x ρ A <;> intro e <;> cases e
  | er => rw [e] at h; exact h
theorem runF_wp {g : FG} {b : FS} {Q : Ps} (I : Nat → Rho → AH → Prop) : ∀ (xs : List AV) (k : Nat) (ρ : Rho) (A : AH), I k ρ A →
    (∀ i x ρ A, xs[i]? = some x → I (k + i) ρ A → WP ((g x ρ A).at b) (turnP (I (k + i + 1)) Q)) → (∀ ρ A, I (k + xs.length) ρ A → Q.nx ρ A) → WP (runF g b xs ρ A) Q
  | [], k, ρ, A, h0, _, hf => hf ρ A h0
  | x :: xs, k, ρ, A, h0, hs, hf => by
    unfold runF
    refine turnF_wp (hs 0 x ρ A rfl h0) fun ρ A h => runF_wp I xs (k + 1) ρ A h (fun i y ρ A e h => ?_) fun ρ A h => hf ρ A ?_
    · have := hs (i + 1) y ρ A (by simpa using e) (by rw [Nat.add_assoc, Nat.add_comm 1 i] at h; exact h)
      rw [Nat.add_assoc k 1 i, Nat.add_comm 1 i]
      exact this
    · rw [List.length_cons, Nat.add_comm xs.length 1, ← Nat.add_assoc]
      exact h
/-- a loop over what does not change -/
theorem wp_for {fi : FI} {g : FG} {b : FS} {Q : Ps} {ρ : Rho} {A A1 : AH} {β : Type} (ys : List β) (en : β → AV) (hi : fi ρ A = .ok (.fix (ys.map en)) A1) (I : Nat → Rho → AH → Prop) (h0 : I 0 ρ A1)
    (hs : ∀ i y ρ A, ys[i]? = some y → I i ρ A → WP ((g (en y) ρ A).at b) (turnP (I (i + 1)) Q)) (hf : ∀ ρ A, I ys.length ρ A → Q.nx ρ A) : WP (fFor fi g b ρ A) Q := by
  unfold fFor
  rw [hi]
  refine runF_wp I _ 0 ρ A1 h0 (fun i x ρ A e h => ?_) fun ρ A h => hf ρ A (by rw [List.length_map, Nat.zero_add] at h; exact h)
  rw [Nat.zero_add] at h ⊢
  rw [List.getElem?_map] at e
  cases e2 : ys[i]? with
  | none => rw [e2] at e; cases e
  | some y =>
    rw [e2] at e
    cases e
    exact hs i y ρ A e2 h
theorem runL_wp {g : FG} {b : FS} {Q : Ps} {n : Nat} {f : Nat → AV → AV} {xs : List AV} (I : Nat → Rho → AH → Prop) (hx : ∀ i ρ A, i ≤ xs.length → I i ρ A → A[n]? = some (.lst xs))
    (hs : ∀ i x ρ A, xs[i]? = some x → I i ρ A → WP ((g (f i x) ρ A).at b) (turnP (I (i + 1)) Q)) (hf : ∀ ρ A, I xs.length ρ A → Q.nx ρ A) : ∀ (c k : Nat) (ρ : Rho) (A : AH), k ≤ xs.length → xs.length < k + c → I k ρ A → WP (runL g b n f c k ρ A) Q
  | 0, k, ρ, A, h1, h2, _ => by omega
  | c + 1, k, ρ, A, h1, h2, h => by
    unfold runL
    rw [hx k ρ A h1 h]
    simp only
    cases e : xs[k]? with
    | none =>
      have : k = xs.length := by
        rw [List.getElem?_eq_none_iff] at e
        omega
      subst this
      exact hf ρ A h
    | some x =>
      have hl := (List.getElem?_eq_some_iff.mp e).1
      exact turnF_wp (hs k x ρ A e h) fun ρ A h => runL_wp I hx hs hf c (k + 1) ρ A (by omega) (by omega) h
/-- a loop over a list that stays as it is -/
theorem wp_forL {fi : FI} {g : FG} {b : FS} {Q : Ps} {ρ : Rho} {A A1 : AH} {n : Nat} {f : Nat → AV → AV} {β : Type} (ys : List β) (en : β → AV) (hi : fi ρ A = .ok (.live n f) A1) (hl : ys.length < 1000000) (I : Nat → Rho → AH → Prop) (h0 : I 0 ρ A1)
    (hx : ∀ i ρ A, i ≤ ys.length → I i ρ A → A[n]? = some (.lst (ys.map en)))
    (hs : ∀ i y ρ A, ys[i]? = some y → I i ρ A → WP ((g (f i (en y)) ρ A).at b) (turnP (I (i + 1)) Q)) (hf : ∀ ρ A, I ys.length ρ A → Q.nx ρ A) : WP (fFor fi g b ρ A) Q := by
  unfold fFor
  rw [hi]
  refine runL_wp (xs := ys.map en) I (fun i ρ A h => hx i ρ A (by rw [List.length_map] at h; exact h)) (fun i x ρ A e h => ?_) (fun ρ A h => hf ρ A (by rw [List.length_map] at h; exact h)) fuel 0 ρ A1 (Nat.zero_le _) (by rw [List.length_map]; unfold fuel; omega) h0
  rw [List.getElem?_map] at e
  cases e2 : ys[i]? with
  | none => rw [e2] at e; cases e
  | some y =>
    rw [e2] at e
    cases e
    exact hs i y ρ A e2 h
/-- a loop that is a fold -/
theorem wp_for_fold {fi : FI} {g : FG} {b : FS} {Q : Ps} {ρ : Rho} {A A1 : AH} {β S : Type} (ys : List β) (en : β → AV) (hi : fi ρ A = .ok (.fix (ys.map en)) A1) (step : S → β → S) (s0 : S) (R : S → Rho → AH → Prop) (h0 : R s0 ρ A1)
    (hs : ∀ s y ρ A, y ∈ ys → R s ρ A → WP ((g (en y) ρ A).at b) (turnP (R (step s y)) Q)) (hf : ∀ ρ A, R (ys.foldl step s0) ρ A → Q.nx ρ A) : WP (fFor fi g b ρ A) Q := by
  refine wp_for ys en hi (fun i => R ((ys.take i).foldl step s0)) h0 (fun i y ρ A e h => ?_) fun ρ A h => hf ρ A (by rw [List.take_length] at h; exact h)
  have e2 : (ys.take (i + 1)).foldl step s0 = step ((ys.take i).foldl step s0) y := by
    have hl := (List.getElem?_eq_some_iff.mp e).1
    rw [List.take_add_one, e, List.foldl_append]
    rfl
  rw [e2]
  exact hs _ y ρ A (List.mem_of_getElem? e) h
theorem wp_forL_fold {fi : FI} {g : FG} {b : FS} {Q : Ps} {ρ : Rho} {A A1 : AH} {n : Nat} {f : Nat → AV → AV} {β S : Type} (ys : List β) (en : β → AV) (hi : fi ρ A = .ok (.live n f) A1) (hl : ys.length < 1000000) (step : S → Nat → β → S) (s0 : S) (R : S → Rho → AH → Prop) (h0 : R s0 ρ A1)
    (hx : ∀ s ρ A, R s ρ A → A[n]? = some (.lst (ys.map en)))
    (hs : ∀ s i y ρ A, ys[i]? = some y → R s ρ A → WP ((g (f i (en y)) ρ A).at b) (turnP (R (step s i y)) Q)) (hf : ∀ s ρ A, R s ρ A → s = (ys.zipIdx.foldl (fun s p => step s p.2 p.1) s0) → Q.nx ρ A) : WP (fFor fi g b ρ A) Q := by
  refine wp_forL ys en hi hl (fun i => R ((ys.zipIdx.take i).foldl (fun s p => step s p.2 p.1) s0)) h0 (fun i ρ A _ h => hx _ ρ A h) (fun i y ρ A e h => ?_) fun ρ A h => hf _ ρ A h (by rw [List.take_of_length_le (by rw [List.length_zipIdx]; exact Nat.le_refl _)])
  have e2 : (ys.zipIdx.take (i + 1)).foldl (fun s p => step s p.2 p.1) s0 = step ((ys.zipIdx.take i).foldl (fun s p => step s p.2 p.1) s0) i y := by
    have e1 : ys.zipIdx[i]? = some (y, i) := by
      rw [List.getElem?_zipIdx, e]
      simp
    rw [List.take_add_one, e1, List.foldl_append]
    rfl
  rw [e2]
  exact hs _ i y ρ A e h
theorem whileF_wp {c : FT} {b : FS} {Q : Ps} (N : Nat) (I : Nat → Rho → AH → Prop)
    (hs : ∀ i ρ A, i ≤ N → I i ρ A → RP (c ρ A) (fun k A => if k = true then i < N ∧ WP (b ρ A) (turnP (I (i + 1)) Q) else Q.nx ρ A) fun e A => Q.exc e ρ A) : ∀ (n i : Nat) (ρ : Rho) (A : AH), i ≤ N → N < i + n → I i ρ A → WP (whileF c b n ρ A) Q
  | 0, i, ρ, A, h1, h2, _ => by omega
  | n + 1, i, ρ, A, h1, h2, h => by
    unfold whileF
    refine wp_s ((hs i ρ A h1 h).mono (fun k A1 hk => ?_) fun _ _ h => h)
    unfold kSt
    simp only
    split
    · rename_i e
      rw [if_pos e] at hk
      obtain ⟨h3, hk⟩ := hk
      cases e2 : b ρ A1 with
      | nx ρ2 A2 => rw [e2] at hk; exact whileF_wp N I hs n (i + 1) ρ2 A2 (by omega) (by omega) hk
      | ct ρ2 A2 => rw [e2] at hk; exact whileF_wp N I hs n (i + 1) ρ2 A2 (by omega) (by omega) hk
      | bk ρ2 A2 => rw [e2] at hk; exact hk
      | rt v A2 => rw [e2] at hk; exact hk
      | exc e A2 A3 => rw [e2] at hk; exact hk
      | er => rw [e2] at hk; exact hk
    · rename_i e
      rw [if_neg e] at hk
      exact hk
def kWh (b : FS) (i N : Nat) (J : Rho → AH → Prop) (Q : Ps) (ρ : Rho) (k : Bool) (A : AH) : Prop := if k = true then i < N ∧ WP (b ρ A) (turnP J Q) else Q.nx ρ A
theorem kWh_t {b : FS} {i N : Nat} {J : Rho → AH → Prop} {Q : Ps} {ρ : Rho} {A : AH} : kWh b i N J Q ρ true A = (i < N ∧ WP (b ρ A) (turnP J Q)) := (rfl)
theorem kWh_f {b : FS} {i N : Nat} {J : Rho → AH → Prop} {Q : Ps} {ρ : Rho} {A : AH} : kWh b i N J Q ρ false A = Q.nx ρ A := (rfl)
/-- a while loop of at most N turns -/
theorem wp_while {c : FT} {b : FS} {Q : Ps} {ρ : Rho} {A : AH} (N : Nat) (hN : N < 1000000) (I : Nat → Rho → AH → Prop) (h0 : I 0 ρ A)
    (hs : ∀ i ρ A, i ≤ N → I i ρ A → RP (c ρ A) (kWh b i N (I (i + 1)) Q ρ) (kX Q ρ)) : WP (fWhile c b ρ A) Q :=
  whileF_wp N I hs fuel 0 ρ A (Nat.zero_le _) (by unfold fuel; omega) h0

/-! ### comprehensions -/
def elemC (g : FG) (ft : FT) (fe : FE) (x : AV) (ρ : Rho) (A : AH) : Res (Option AV) :=
  match g x ρ A with
  | .nx ρ1 A1 => (ft ρ1 A1).bind fun b A2 => if b = true then (fe ρ1 A2).bind fun y A3 => .ok (some y) A3 else .ok none A2
  | _ => .er
theorem x_elem {g : FG} {ft : FT} {fe : FE} {x : AV} {ρ : Rho} {A : AH} : elemC g ft fe x ρ A = (match g x ρ A with
  | .nx ρ1 A1 => (ft ρ1 A1).bind fun b A2 => if b = true then (fe ρ1 A2).bind fun y A3 => .ok (some y) A3 else .ok none A2
  | _ => .er) := rfl
theorem elem_nm {i : Nat} {ft : FT} {fe : FE} {x : AV} {ρ : Rho} {A : AH} : elemC (gNm i) ft fe x ρ A = (ft (ρ.set i (some x)) A).bind fun b A2 => if b = true then (fe (ρ.set i (some x)) A2).bind fun y A3 => .ok (some y) A3 else .ok none A2 := (rfl)
theorem elem_tp2 {i j : Nat} {ft : FT} {fe : FE} {x y : AV} {ρ : Rho} {A : AH} : elemC (gTp 2 (gsCons (gNm i) (gsCons (gNm j) gsNil))) ft fe (.tup [x, y]) ρ A = (ft ((ρ.set i (some x)).set j (some y)) A).bind fun b A2 => if b = true then (fe ((ρ.set i (some x)).set j (some y)) A2).bind fun y A3 => .ok (some y) A3 else .ok none A2 := (rfl)
/-- the list with one item more, or as it was -/
def addO (acc : List AV) : Option AV → List AV
  | some y => acc ++ [y]
  | none => acc
theorem compF_wp {g : FG} {ft : FT} {fe : FE} {k : Nat} {ρ : Rho} {K : AV → AH → Prop} {X : Ex → AH → Prop} (I : Nat → List AV → AH → Prop) :
    ∀ (xs : List AV) (i : Nat) (acc : List AV) (A : AH), acc.length + xs.length < big → A[k]? = some (.lst acc) → I i acc A →
    (∀ j x acc A, xs[j]? = some x → A[k]? = some (.lst acc) → I (i + j) acc A → RP (elemC g ft fe x ρ A) (fun o B => B[k]? = some (.lst acc) ∧ I (i + j + 1) (addO acc o) (B.set k (.lst (addO acc o)))) fun _ _ => False) →
    (∀ acc A, A[k]? = some (.lst acc) → I (i + xs.length) acc A → K (.obj k) A) → RP (compF g ft fe k ρ xs A) K X
  | [], i, acc, A, _, hk, h0, _, hf => hf acc A hk h0
  | x :: xs, i, acc, A, hb, hk, h0, hs, hf => by
    have h1 := hs 0 x acc A rfl hk h0
    unfold compF turnC
    unfold elemC at h1
    cases e : g x ρ A with
    | nx ρ1 A1 =>
      rw [e] at h1
      simp only at h1 ⊢
      cases e2 : ft ρ1 A1 with
      | ok b A2 =>
        rw [e2] at h1
        simp only [Res.bind_ok] at h1 ⊢
        have next : ∀ (o : Option AV) (B : AH), B[k]? = some (.lst acc) → I (i + 0 + 1) (addO acc o) (B.set k (.lst (addO acc o))) → RP (compF g ft fe k ρ xs (B.set k (.lst (addO acc o)))) K X := fun o B hB h => by
          refine compF_wp I xs (i + 1) (addO acc o) _ ?_ (List.getElem?_set_self (List.getElem?_eq_some_iff.mp hB).1) h (fun j y acc A e hA h => ?_) fun acc A hA h => hf acc A hA ?_
          · cases o <;> simp [addO] at hb ⊢ <;> omega
          · have := hs (j + 1) y acc A (by simpa using e) hA (by rw [Nat.add_assoc, Nat.add_comm 1 j] at h; exact h)
            rw [Nat.add_assoc i 1 j, Nat.add_comm 1 j]
            exact this
          · rw [List.length_cons, Nat.add_comm xs.length 1, ← Nat.add_assoc]
            exact h
        split
        · rename_i hb1
          rw [if_pos hb1] at h1
          unfold pushC
          cases e3 : fe ρ1 A2 with
          | ok y A3 =>
            rw [e3] at h1
            obtain ⟨h2, h3⟩ := h1
            simp only [h2]
            rw [if_pos (by simp at hb; omega)]
            exact next (some y) A3 h2 h3
          | exc x2 A3 => rw [e3] at h1; exact h1.elim
          | er => rw [e3] at h1; exact h1.elim
        · rename_i hb1
          rw [if_neg hb1] at h1
          obtain ⟨h2, h3⟩ := h1
          have := next none A2 h2 h3
          have e4 : A2.set k (.lst (addO acc none)) = A2 := by
            apply List.ext_getElem?
            intro j
            by_cases hj : k = j
            · subst hj
              rw [List.getElem?_set_self (List.getElem?_eq_some_iff.mp h2).1, h2]
              rfl
            · rw [List.getElem?_set_ne hj]
          rw [e4] at this
          exact this
      | exc x2 A2 => rw [e2] at h1; exact h1.elim
      | er => rw [e2] at h1; exact h1.elim
    | rt _ _ => rw [e] at h1; exact h1.elim
    | bk _ _ => rw [e] at h1; exact h1.elim
    | ct _ _ => rw [e] at h1; exact h1.elim
    | exc _ _ _ => rw [e] at h1; exact h1.elim
    | er => rw [e] at h1; exact h1.elim
theorem compL_eq {g : FG} {ft : FT} {fe : FE} {k n : Nat} {ρ : Rho} {f : Nat → AV → AV} {K : AV → AH → Prop} {X : Ex → AH → Prop} {xs : List AV} (I : Nat → List AV → AH → Prop) (hx : ∀ i acc A, i ≤ xs.length → A[k]? = some (.lst acc) → I i acc A → A[n]? = some (.lst xs)) :
    ∀ (c i : Nat) (acc : List AV) (A : AH), i ≤ xs.length → xs.length < i + c → acc.length + (xs.length - i) < big → A[k]? = some (.lst acc) → I i acc A →
    (∀ j x acc A, xs[j]? = some x → A[k]? = some (.lst acc) → I j acc A → RP (elemC g ft fe (f j x) ρ A) (fun o B => B[k]? = some (.lst acc) ∧ I (j + 1) (addO acc o) (B.set k (.lst (addO acc o)))) fun _ _ => False) →
    (∀ acc A, A[k]? = some (.lst acc) → I xs.length acc A → K (.obj k) A) → RP (compL g ft fe k ρ n f c i A) K X
  | 0, i, acc, A, h1, h2, _, _, _, _, _ => by omega
  | c + 1, i, acc, A, hi, hc, hb, hk, h0, hs, hf => by
    unfold compL
    rw [hx i acc A hi hk h0]
    simp only
    cases e0 : xs[i]? with
    | none =>
      have : i = xs.length := by
        rw [List.getElem?_eq_none_iff] at e0
        omega
      subst this
      exact hf acc A hk h0
    | some x =>
      have hl := (List.getElem?_eq_some_iff.mp e0).1
      have h1 := hs i x acc A e0 hk h0
      simp only
      unfold turnC
      unfold elemC at h1
      cases e : g (f i x) ρ A with
      | nx ρ1 A1 =>
        rw [e] at h1
        simp only at h1 ⊢
        cases e2 : ft ρ1 A1 with
        | ok b A2 =>
          rw [e2] at h1
          simp only [Res.bind_ok] at h1 ⊢
          have next : ∀ (o : Option AV) (B : AH), B[k]? = some (.lst acc) → I (i + 1) (addO acc o) (B.set k (.lst (addO acc o))) → RP (compL g ft fe k ρ n f c (i + 1) (B.set k (.lst (addO acc o)))) K X := fun o B hB h => by
            refine compL_eq I hx c (i + 1) (addO acc o) _ hl (by omega) ?_ (List.getElem?_set_self (List.getElem?_eq_some_iff.mp hB).1) h hs hf
            cases o <;> simp [addO] at hb ⊢ <;> omega
          split
          · rename_i hb1
            rw [if_pos hb1] at h1
            unfold pushC
            cases e3 : fe ρ1 A2 with
            | ok y A3 =>
              rw [e3] at h1
              obtain ⟨h2, h3⟩ := h1
              simp only [h2]
              rw [if_pos (by omega)]
              exact next (some y) A3 h2 h3
            | exc x2 A3 => rw [e3] at h1; exact h1.elim
            | er => rw [e3] at h1; exact h1.elim
          · rename_i hb1
            rw [if_neg hb1] at h1
            obtain ⟨h2, h3⟩ := h1
            have := next none A2 h2 h3
            have e4 : A2.set k (.lst (addO acc none)) = A2 := by
              apply List.ext_getElem?
              intro j
              by_cases hj : k = j
              · subst hj
                rw [List.getElem?_set_self (List.getElem?_eq_some_iff.mp h2).1, h2]
                rfl
              · rw [List.getElem?_set_ne hj]
            rw [e4] at this
            exact this
        | exc x2 A2 => rw [e2] at h1; exact h1.elim
        | er => rw [e2] at h1; exact h1.elim
      | rt _ _ => rw [e] at h1; exact h1.elim
      | bk _ _ => rw [e] at h1; exact h1.elim
      | ct _ _ => rw [e] at h1; exact h1.elim
      | exc _ _ _ => rw [e] at h1; exact h1.elim
      | er => rw [e] at h1; exact h1.elim
/-- a comprehension; I: turn, the list so far, the heap -/
theorem rp_comp {fi : FI} {g : FG} {ft : FT} {fe : FE} {own : List Nat} {ρ : Rho} {A A1 : AH} {K : AV → AH → Prop} {X : Ex → AH → Prop} {β : Type} (ys : List β) (en : β → AV) (hi : fi ρ A = .ok (.fix (ys.map en)) A1) (hl : ys.length < 1000000) (I : Nat → List AV → AH → Prop) (h0 : I 0 [] (A1 ++ [.lst []]))
    (hs : ∀ j y acc A, ys[j]? = some y → A[A1.length]? = some (.lst acc) → I j acc A → RP (elemC g ft fe (en y) (wipeR ρ own) A) (fun o B => B[A1.length]? = some (.lst acc) ∧ I (j + 1) (addO acc o) (B.set A1.length (.lst (addO acc o)))) fun _ _ => False)
    (hf : ∀ acc A, A[A1.length]? = some (.lst acc) → I ys.length acc A → K (.obj A1.length) A) : RP (fComp fi g ft fe own ρ A) K X := by
  unfold fComp
  rw [hi]
  refine compF_wp I _ 0 [] _ (by unfold big; simpa using hl) (by simp) h0 (fun j x acc A e hA h => ?_) fun acc A hA h => hf acc A hA (by rw [List.length_map, Nat.zero_add] at h; exact h)
  rw [Nat.zero_add] at h ⊢
  rw [List.getElem?_map] at e
  cases e2 : ys[j]? with
  | none => rw [e2] at e; cases e
  | some y =>
    rw [e2] at e
    cases e
    exact hs j y acc A e2 hA h
theorem rp_compL {fi : FI} {g : FG} {ft : FT} {fe : FE} {own : List Nat} {ρ : Rho} {A A1 : AH} {n : Nat} {f : Nat → AV → AV} {K : AV → AH → Prop} {X : Ex → AH → Prop} {β : Type} (ys : List β) (en : β → AV) (hi : fi ρ A = .ok (.live n f) A1) (hl : ys.length < 1000000) (I : Nat → List AV → AH → Prop) (h0 : I 0 [] (A1 ++ [.lst []]))
    (hx : ∀ i acc A, i ≤ ys.length → A[A1.length]? = some (.lst acc) → I i acc A → A[n]? = some (.lst (ys.map en)))
    (hs : ∀ j y acc A, ys[j]? = some y → A[A1.length]? = some (.lst acc) → I j acc A → RP (elemC g ft fe (f j (en y)) (wipeR ρ own) A) (fun o B => B[A1.length]? = some (.lst acc) ∧ I (j + 1) (addO acc o) (B.set A1.length (.lst (addO acc o)))) fun _ _ => False)
    (hf : ∀ acc A, A[A1.length]? = some (.lst acc) → I ys.length acc A → K (.obj A1.length) A) : RP (fComp fi g ft fe own ρ A) K X := by
  unfold fComp
  rw [hi]
  refine compL_eq (xs := ys.map en) I (fun i acc A h => hx i acc A (by rw [List.length_map] at h; exact h)) fuel 0 [] _ (Nat.zero_le _) (by rw [List.length_map]; unfold fuel; omega) (by unfold big; simpa using hl) (by simp) h0 (fun j x acc A e hA h => ?_) fun acc A hA h => hf acc A hA (by rw [List.length_map] at h; exact h)
  rw [List.getElem?_map] at e
  cases e2 : ys[j]? with
  | none => rw [e2] at e; cases e
  | some y =>
    rw [e2] at e
    cases e
    exact hs j y acc A e2 hA h
end Dn

set_option maxRecDepth 100000
set_option maxHeartbeats 1000000
/-! Dn, part W: the heap with letters, what is closed, data as values (en), operators on data. -/
namespace Dn
open PySem L2 PyProof.Rows

/-! ### the heap -/
section
variable {A A1 B : AH} {o p : AO} {k : Nat} {v : AV}
theorem h_at : (A ++ B)[A.length + k]? = B[k]? := by rw [List.getElem?_append_right (Nat.le_add_right _ _), Nat.add_sub_cancel_left]
theorem h_at0 : (A ++ B)[A.length]? = B[0]? := h_at (k := 0)
theorem h_set : (A ++ B).set (A.length + k) o = A ++ B.set k o := by
  rw [List.set_append, if_neg (by omega), Nat.add_sub_cancel_left]
theorem h_set0 : (A ++ B).set A.length o = A ++ B.set 0 o := h_set (k := 0)
theorem h_get {n : Nat} (h : A[n]? = some o) (B : AH) : (A ++ B)[n]? = some o := by
  rw [List.getElem?_append_left (List.getElem?_eq_some_iff.mp h).1, h]
theorem d_at {D : AH} (h : D.length = 4) : (D ++ B)[4 + k]? = B[k]? := by rw [← h]; exact h_at
theorem d_set {D : AH} (h : D.length = 4) : (D ++ B).set (4 + k) o = D ++ B.set k o := by rw [← h]; exact h_set
theorem big_def : big = 1000000 := (rfl)
def Clo (A : AH) : Prop := cloA A.length A = true
theorem cloA_app {n : Nat} : ∀ {A B : AH}, cloA n (A ++ B) = (cloA n A && cloA n B)
  | [], B => by simp [cloA]
  | o :: A, B => by rw [List.cons_append, cloA, cloA, cloA_app, Bool.and_assoc]
theorem cloA_more {n k : Nat} (h : n ≤ k) : ∀ {A : AH}, cloA n A = true → cloA k A = true
  | [], _ => rfl
  | o :: A, c => by
    rw [cloA, Bool.and_eq_true] at c ⊢
    exact ⟨cloO_mono h c.1, cloA_more h c.2⟩
theorem clo_app (hA : Clo A) : Clo (A ++ B) ↔ cloA (A.length + B.length) B = true := by
  unfold Clo at *
  rw [List.length_append, cloA_app, Bool.and_eq_true]
  exact ⟨fun h => h.2, fun h => ⟨cloA_more (Nat.le_add_right _ _) hA, h⟩⟩
theorem clo_nil : cloA k [] = true := (rfl)
theorem clo_cons {os : AH} : cloA k (o :: os) = (cloO k o && cloA k os) := (rfl)
theorem gcG_v (hl : A1.length = A.length) (hA : Clo A1) (hv : cloV A.length v = true) : gcR A v (A1 ++ B) = .ok v A1 := by
  unfold gcR
  have e : (A1 ++ B).take A.length = A1 := by rw [← hl, List.take_left]
  rw [e, if_pos (by unfold Clo at hA; rw [← hl]; exact hA), if_pos hv]
theorem gc_v (hA : Clo A) (hv : cloV A.length v = true) : gcR A v (A ++ B) = .ok v A := gcG_v rfl hA hv
theorem gc_v0 (hA : Clo A) (hv : cloV A.length v = true) : gcR A v A = .ok v A := by
  have := gc_v (B := []) hA hv
  rw [List.append_nil] at this
  exact this
theorem gc_same (hv : cloV A.length v = true) : gcR A v A = .ok v A := by
  unfold gcR
  rw [List.take_length, if_pos hv]
  split <;> rfl
theorem gcG_o (hl : A1.length = A.length) (hA : Clo A1) (hB : B[k]? = some o) (ho : cloO A.length o = true) : gcR A (.obj (A.length + k)) (A1 ++ B) = .ok (.obj A.length) (A1 ++ [o]) := by
  unfold gcR
  have e : (A1 ++ B).take A.length = A1 := by rw [← hl, List.take_left]
  rw [e, if_pos (by unfold Clo at hA; rw [← hl]; exact hA), if_neg (by rw [cloV]; simp)]
  have e1 : (A1 ++ B)[A.length + k]? = some o := by rw [← hl, h_at, hB]
  simp only [e1]
  rw [if_pos ⟨Nat.le_add_right _ _, ho⟩]
theorem gc_o (hA : Clo A) (hB : B[k]? = some o) (ho : cloO A.length o = true) : gcR A (.obj (A.length + k)) (A ++ B) = .ok (.obj A.length) (A ++ [o]) := gcG_o rfl hA hB ho
theorem gc_o0 (hA : Clo A) (ho : cloO A.length o = true) : gcR A (.obj A.length) (A ++ o :: B) = .ok (.obj A.length) (A ++ [o]) := gc_o (k := 0) hA rfl ho
theorem gcG_p {i j : Nat} (hl : A1.length = A.length) (hA : Clo A1) (hi : B[i]? = some o) (hj : B[j]? = some p) (ne : i ≠ j) (ho : cloO A.length o = true) (hp : cloO A.length p = true) :
    gcR A (.tup [.obj (A.length + i), .obj (A.length + j)]) (A1 ++ B) = .ok (.tup [.obj A.length, .obj (A.length + 1)]) (A1 ++ [o, p]) := by
  unfold gcR
  have e : (A1 ++ B).take A.length = A1 := by rw [← hl, List.take_left]
  rw [e, if_pos (by unfold Clo at hA; rw [← hl]; exact hA), if_neg (by rw [cloV, cloVs, cloV]; intro h; rw [Bool.and_eq_true, decide_eq_true_eq] at h; omega)]
  have e1 : (A1 ++ B)[A.length + i]? = some o := by rw [← hl, h_at, hi]
  have e2 : (A1 ++ B)[A.length + j]? = some p := by rw [← hl, h_at, hj]
  simp only [e1, e2]
  rw [if_pos ⟨Nat.le_add_right _ _, Nat.le_add_right _ _, by omega, ho, hp⟩]
/-- data without things -/
def dat (v : AV) : Prop := cloV 0 v = true
def dats (v : List AV) : Prop := cloVs 0 v = true
theorem clo_dat (h : dat v) : cloV k v = true := (cloO_more (Nat.zero_le k)).1 v h
theorem clo_dats {vs : List AV} (h : dats vs) : cloVs k vs = true := (cloO_more (Nat.zero_le k)).2 vs h
theorem cloVs_app {xs ys : List AV} : cloVs k (xs ++ ys) = (cloVs k xs && cloVs k ys) := by
  induction xs with
  | nil => simp [cloVs]
  | cons x xs ih => rw [List.cons_append, cloVs, cloVs, ih, Bool.and_assoc]
theorem cloVs_map {α : Type} {f : α → AV} (h : ∀ x, cloV k (f x) = true) : ∀ l : List α, cloVs k (l.map f) = true
  | [] => rfl
  | x :: l => by rw [List.map_cons, cloVs, h, cloVs_map h l]; rfl
theorem cloK_map {α κ : Type} {f : α → κ × AV} (h : ∀ x, cloV k (f x).2 = true) : ∀ l : List α, cloK k (l.map f) = true
  | [] => rfl
  | x :: l => by rw [List.map_cons, cloK, h, cloK_map h l]; rfl
end

/-! ### data -/
class Enc (α : Type) where
  en : α → AV
  pd : α → PyData
  dep : Nat
  dat : ∀ x, dat (en x)
  toP : ∀ (A : AH) (n : Nat) (x : α), dep < n → AV.toP A n (en x) = some (pd x)
open Enc (en pd)
instance encInt : Enc Int := ⟨.int, .int, 0, fun _ => rfl, fun A n x h => by cases n with | zero => omega | succ n => rfl⟩
instance encNat : Enc Nat := ⟨fun n => .int (n : Nat), fun n => .int (n : Nat), 0, fun _ => rfl, fun A n x h => by cases n with | zero => omega | succ n => rfl⟩
instance encBool : Enc Bool := ⟨.bl, .bool, 0, fun _ => rfl, fun A n x h => by cases n with | zero => omega | succ n => rfl⟩
theorem mapO_map {α β γ : Type} {f : β → Option γ} {e : α → β} {g : α → γ} (h : ∀ x, f (e x) = some (g x)) : ∀ l : List α, mapO f (l.map e) = some (l.map g)
  | [] => rfl
  | x :: l => by rw [List.map_cons, mapO, h, mapO_map h l]; rfl
instance encList {α : Type} [Enc α] : Enc (List α) := ⟨fun l => .tup (l.map en), fun l => .tuple (l.map pd), Enc.dep α + 1, fun l => cloVs_map (fun x => Enc.dat x) l, fun A n x h => by
  cases n with
  | zero => omega
  | succ n =>
    show (mapO (AV.toP A n) (x.map en)).map PyData.tuple = _
    rw [mapO_map (g := pd) (fun y => Enc.toP A n y (by omega))]
    rfl⟩
instance encPair {α β : Type} [Enc α] [Enc β] : Enc (α × β) := ⟨fun p => .tup [en p.1, en p.2], fun p => .tuple [pd p.1, pd p.2], max (Enc.dep α) (Enc.dep β) + 1, fun p => by
  show cloVs 0 [en p.1, en p.2] = true
  rw [cloVs, cloVs, Enc.dat p.1, Enc.dat p.2]
  rfl, fun A n x h => by
  cases n with
  | zero => omega
  | succ n =>
    show (mapO (AV.toP A n) [en x.1, en x.2]).map PyData.tuple = _
    rw [mapO, mapO, mapO, Enc.toP A n x.1 (by omega), Enc.toP A n x.2 (by omega)]
    rfl⟩
instance encOpt {α : Type} [Enc α] : Enc (Option α) := ⟨fun o => match o with | none => .non | some x => en x, fun o => match o with | none => .none | some x => pd x, Enc.dep α, fun o => by
  cases o with
  | none => rfl
  | some x => exact Enc.dat x, fun A n o h => by
  cases o with
  | none => cases n with
    | zero => omega
    | succ n => rfl
  | some x => exact Enc.toP A n x h⟩
theorem en_int (i : Int) : en i = AV.int i := (rfl)
theorem en_nat (i : Nat) : en i = AV.int (i : Nat) := (rfl)
theorem en_bool (i : Bool) : en i = AV.bl i := (rfl)
theorem en_list {α : Type} [Enc α] (l : List α) : en l = AV.tup (l.map en) := (rfl)
theorem en_pair {α β : Type} [Enc α] [Enc β] (p : α × β) : en p = AV.tup [en p.1, en p.2] := (rfl)
theorem en_none {α : Type} [Enc α] : en (none : Option α) = AV.non := (rfl)
theorem en_some {α : Type} [Enc α] (x : α) : en (some x) = en x := (rfl)
theorem clo_en {α : Type} [Enc α] {k : Nat} (x : α) : cloV k (en x) = true := clo_dat (Enc.dat x)
theorem clo_ens {α : Type} [Enc α] {k : Nat} (l : List α) : cloVs k (l.map en) = true := cloVs_map (fun x => clo_en x) l
/-- == of data -/
class EncEq (α : Type) [Enc α] [DecidableEq α] : Prop where
  eqv : ∀ x y : α, PyData.eqv (pd x) (pd y) = decide (x = y)
instance eqInt : EncEq Int := ⟨fun x y => by show (x == y) = _; rfl⟩
instance eqNat : EncEq Nat := ⟨fun x y => by
  show (((x : Nat) : Int) == ((y : Nat) : Int)) = _
  by_cases h : x = y
  · subst h; simp
  · rw [decide_eq_false h]; simp; omega⟩
instance eqBool : EncEq Bool := ⟨fun x y => by cases x <;> cases y <;> rfl⟩
theorem eqvAll_map {α : Type} [Enc α] [DecidableEq α] [EncEq α] : ∀ l m : List α, PyData.eqvAll (l.map pd) (m.map pd) = decide (l = m)
  | [], [] => rfl
  | [], _ :: _ => rfl
  | _ :: _, [] => rfl
  | x :: l, y :: m => by
    rw [List.map_cons, List.map_cons, PyData.eqvAll, EncEq.eqv, eqvAll_map l m]
    by_cases h : x = y <;> by_cases h2 : l = m <;> simp [h, h2]
instance eqListE {α : Type} [Enc α] [DecidableEq α] [EncEq α] : EncEq (List α) := ⟨fun x y => by
  show PyData.eqv (.tuple _) (.tuple _) = _
  rw [PyData.eqv, eqvAll_map]⟩
instance eqPairE {α β : Type} [Enc α] [Enc β] [DecidableEq α] [DecidableEq β] [EncEq α] [EncEq β] : EncEq (α × β) := ⟨fun x y => by
  show PyData.eqv (.tuple [_, _]) (.tuple [_, _]) = _
  rw [PyData.eqv, PyData.eqvAll, PyData.eqvAll, PyData.eqvAll, EncEq.eqv, EncEq.eqv]
  obtain ⟨a, b⟩ := x
  obtain ⟨c, d⟩ := y
  by_cases h : a = c <;> by_cases h2 : b = d <;> simp [h, h2]⟩
instance eqOptNat : EncEq (Option Nat) := ⟨fun x y => by
  cases x with
  | none => cases y <;> rfl
  | some x =>
    cases y with
    | none => rfl
    | some y =>
      show PyData.eqv (pd x) (pd y) = _
      rw [EncEq.eqv]
      by_cases h : x = y <;> simp [h]⟩
section
variable {A : AH} {α β : Type} [Enc α] [Enc β]
theorem gEq_en [DecidableEq α] [EncEq α] {x y : α} (h : Enc.dep α < 16 := by decide) : gEq (en x) (en y) A = .ok (.bl (decide (x = y))) A := by
  unfold gEq
  rw [Enc.toP A 16 x h, Enc.toP A 16 y h]
  simp only [EncEq.eqv]
theorem gNe_en [DecidableEq α] [EncEq α] {x y : α} (h : Enc.dep α < 16 := by decide) : gNe (en x) (en y) A = .ok (.bl (!decide (x = y))) A := by
  unfold gNe
  rw [Enc.toP A 16 x h, Enc.toP A 16 y h]
  simp only [EncEq.eqv]
theorem gEq_int {i j : Int} : gEq (.int i) (.int j) A = .ok (.bl (decide (i = j))) A := gEq_en (x := i) (y := j)
theorem gNe_int {i j : Int} : gNe (.int i) (.int j) A = .ok (.bl (!decide (i = j))) A := gNe_en (x := i) (y := j)
theorem gEq_tups [DecidableEq α] [EncEq α] {l m : List α} (h : Enc.dep (List α) < 16 := by decide) : gEq (.tup (l.map en)) (.tup (m.map en)) A = .ok (.bl (decide (l = m))) A := gEq_en (x := l) (y := m) h
theorem gNe_tups [DecidableEq α] [EncEq α] {l m : List α} (h : Enc.dep (List α) < 16 := by decide) : gNe (.tup (l.map en)) (.tup (m.map en)) A = .ok (.bl (!decide (l = m))) A := gNe_en (x := l) (y := m) h
/-- two lists of data -/
theorem toP_lstE {n : Nat} {l : List α} (hl : A[n]? = some (.lst (l.map en))) (h : Enc.dep α < 15) : AV.toP A 16 (.obj n) = some (.list (l.map pd)) := by
  show (match A[n]? with | some (.lst xs) => (mapO (AV.toP A 15) xs).map PyData.list | _ => none) = _
  rw [hl]
  simp only
  rw [mapO_map (g := pd) (fun y => Enc.toP A 15 y h)]
  rfl
theorem gEq_lsts [DecidableEq α] [EncEq α] {n k : Nat} {l m : List α} (hl : A[n]? = some (.lst (l.map en))) (hm : A[k]? = some (.lst (m.map en))) (h : Enc.dep α < 15 := by decide) : gEq (.obj n) (.obj k) A = .ok (.bl (decide (l = m))) A := by
  unfold gEq
  rw [toP_lstE hl h, toP_lstE hm h]
  simp only [PyData.eqv, eqvAll_map]
theorem gNe_lsts [DecidableEq α] [EncEq α] {n k : Nat} {l m : List α} (hl : A[n]? = some (.lst (l.map en))) (hm : A[k]? = some (.lst (m.map en))) (h : Enc.dep α < 15 := by decide) : gNe (.obj n) (.obj k) A = .ok (.bl (!decide (l = m))) A := by
  unfold gNe
  rw [toP_lstE hl h, toP_lstE hm h]
  simp only [PyData.eqv, eqvAll_map]
/-- a list of data beside an empty one -/
theorem gNe_lst0 {n k : Nat} {l : List α} (hl : A[n]? = some (.lst (l.map en))) (hm : A[k]? = some (.lst [])) (h : Enc.dep α < 15 := by decide) : gNe (.obj n) (.obj k) A = .ok (.bl (!l.isEmpty)) A := by
  unfold gNe
  rw [toP_lstE hl h, toP_lstE (l := ([] : List α)) hm h]
  cases l <;> rfl
theorem gEq_lst0 {n k : Nat} {l : List α} (hl : A[n]? = some (.lst (l.map en))) (hm : A[k]? = some (.lst [])) (h : Enc.dep α < 15 := by decide) : gEq (.obj n) (.obj k) A = .ok (.bl l.isEmpty) A := by
  unfold gEq
  rw [toP_lstE hl h, toP_lstE (l := ([] : List α)) hm h]
  cases l <;> rfl

/-! ### ints -/
variable {i j : Int} {s t : Nat}

theorem gAdd_ii : gAdd (.int i) (.int j) A = .ok (.int (i + j)) A := (rfl)
theorem gLt_int : gLt (.int i) (.int j) A = .ok (.bl (decide (i < j))) A := (rfl)
theorem gLe_int : gLe (.int i) (.int j) A = .ok (.bl (decide (i ≤ j))) A := (rfl)
theorem gGt_int : gGt (.int i) (.int j) A = .ok (.bl (decide (j < i))) A := (rfl)
theorem gGe_int : gGe (.int i) (.int j) A = .ok (.bl (decide (j ≤ i))) A := (rfl)
theorem gLtA_int : gLtA (.int i) (.int j) A = .ok (.bl (decide (i < j))) A := (rfl)
theorem gLeA_int : gLeA (.int i) (.int j) A = .ok (.bl (decide (i ≤ j))) A := (rfl)
theorem gGtA_int : gGtA (.int i) (.int j) A = .ok (.bl (decide (j < i))) A := (rfl)
theorem gGeA_int : gGeA (.int i) (.int j) A = .ok (.bl (decide (j ≤ i))) A := (rfl)
theorem gI0_int {g : Int → Int → AV} : gI0 g (.int i) (.int j) A = .ok (g i j) A := (rfl)
theorem gMod_int (h : 0 < j) : gMod (.int i) (.int j) A = .ok (.int (i % j)) A := by
  show (if cPos i j = true then Res.ok (AV.int (i % j)) A else .er) = _
  rw [if_pos (by unfold cPos; exact decide_eq_true h)]
theorem gDiv_int (h : 0 < j) (h2 : j < 1073741824) : gDiv (.int i) (.int j) A = .ok (.int (i / j)) A := by
  show (if cDiv i j = true then Res.ok (AV.int (i / j)) A else .er) = _
  rw [if_pos (by unfold cDiv; rw [decide_eq_true h, decide_eq_true h2]; rfl)]
theorem gMul_int (h : i.natAbs < 18446744073709551616 ∨ j.natAbs < 18446744073709551616) : gMul (.int i) (.int j) A = .ok (.int (i * j)) A := by
  show (if cMul i j = true then Res.ok (AV.int (i * j)) A else .er) = _
  rw [if_pos (by unfold cMul; rcases h with h | h <;> simp [h])]
theorem gNeg_int : gNeg (.int i) A = .ok (.int (-i)) A := (rfl)
theorem gIntT_int : gIntT [.int i] A = .ok (.int i) A := (rfl)
theorem gInt_bl {b : Bool} : gInt [.bl b] A = .ok (.int (if b then 1 else 0)) A := (rfl)
theorem gIntT_bl {b : Bool} : gIntT [.bl b] A = .ok (.int (if b then 1 else 0)) A := (rfl)
theorem gMin2_int : gMin2 [.int i, .int j] A = .ok (.int (if j < i then j else i)) A := (rfl)
theorem gMax2_int : gMax2 [.int i, .int j] A = .ok (.int (if j > i then j else i)) A := (rfl)
theorem gAbs_int : gAbs [.int i] A = .ok (.int (if i < 0 then -i else i)) A := (rfl)
theorem gIsA_non {x : AV} : gIsA x .non A = .ok (.bl x.isN) A := by cases x <;> rfl
theorem gNotA_non {x : AV} : gNotA x .non A = .ok (.bl (!x.isN)) A := by cases x <;> rfl
theorem isN_non : AV.non.isN = true := (rfl)
theorem isN_int : (AV.int i).isN = false := (rfl)
theorem isN_tup {xs : List AV} : (AV.tup xs).isN = false := (rfl)
theorem isN_obj {n : Nat} : (AV.obj n).isN = false := (rfl)
theorem isN_bl {b : Bool} : (AV.bl b).isN = false := (rfl)
theorem isN_str {b : Str} : (AV.str b).isN = false := (rfl)

/-! ### an item of a list, a tuple, a dict -/
def resI (o : Option AV) (A : AH) : Res AV := match o with
  | some v => .ok v A
  | none => .er
theorem resI_some {v : AV} : resI (some v) A = .ok v A := (rfl)
def ixO (o : Option AO) (i : Int) (A : AH) : Res AV := match o with
  | some (.lst xs) => resI (atI xs i) A
  | some (.dK kvs) => resI (valA kvs (.inl i)) A
  | _ => .er
theorem ixO_lst {xs : List AV} : ixO (some (.lst xs)) i A = resI (atI xs i) A := (rfl)
theorem ixO_dK {kvs : List (Key × AV)} : ixO (some (.dK kvs)) i A = resI (valA kvs (.inl i)) A := (rfl)
theorem gIx_tup {xs : List AV} : gIx (.tup xs) (.int i) A = resI (atI xs i) A := by
  show (match atI xs i with | some v => Res.ok v A | none => .er) = _
  unfold resI
  cases atI xs i <;> rfl
theorem gIx_obj {n : Nat} (h : ∃ o, A[n]? = some o ∧ ((∃ xs, o = .lst xs) ∨ ∃ kvs, o = .dK kvs)) : gIx (.obj n) (.int i) A = ixO A[n]? i A := by
  obtain ⟨o, h, h2⟩ := h
  unfold gIx dGet gIxS seqAt
  simp only [h]
  rcases h2 with ⟨xs, rfl⟩ | ⟨kvs, rfl⟩
  · simp only [ixO, resI]
    all_goals (cases atI xs i <;> rfl)
  · simp only [ixO, resI, keyOf, Option.map_some]
    all_goals (cases valA kvs (.inl i) <;> rfl)
theorem gIx_lst {n : Nat} {xs : List AV} (h : A[n]? = some (.lst xs)) : gIx (.obj n) (.int i) A = resI (atI xs i) A := by
  rw [gIx_obj ⟨_, h, .inl ⟨_, rfl⟩⟩, h]
  rfl
theorem gIx_dK {n : Nat} {kvs : List (Key × AV)} (h : A[n]? = some (.dK kvs)) : gIx (.obj n) (.int i) A = resI (valA kvs (.inl i)) A := by
  rw [gIx_obj ⟨_, h, .inr ⟨_, rfl⟩⟩, h]
  rfl
theorem gIx_dT {n : Nat} {kvs : List (List Key × AV)} {ys : List AV} {ks : List Key} {v : AV} (h : A[n]? = some (.dT kvs)) (hk : mapO keyOf ys = some ks) (hv : valA kvs ks = some v) : gIx (.obj n) (.tup ys) A = .ok v A := by
  unfold gIx dGet
  simp only [h, hk, Option.map_some, hv]
/-- the item at a place, or some item -/
def gt {α : Type} [Inhabited α] (l : List α) (k : Nat) : α := (l[k]?).getD default
theorem gt_of {α : Type} [Inhabited α] {l : List α} {k : Nat} {x : α} (h : l[k]? = some x) : gt l k = x := by unfold gt; rw [h]; rfl
theorem of_gt {α : Type} [Inhabited α] {l : List α} {k : Nat} (h : k < l.length) : l[k]? = some (gt l k) := by
  unfold gt
  rw [List.getElem?_eq_getElem h]
  rfl
theorem gt_mem {α : Type} [Inhabited α] {l : List α} {k : Nat} (h : k < l.length) : gt l k ∈ l := by
  have := of_gt h
  exact List.mem_of_getElem? this
theorem gt_cons {α : Type} [Inhabited α] {x : α} {l : List α} {k : Nat} : gt (x :: l) (k + 1) = gt l k := by
  unfold gt
  rw [List.getElem?_cons_succ]
theorem gt_cons0 {α : Type} [Inhabited α] {x : α} {l : List α} : gt (x :: l) 0 = x := (rfl)
theorem gt_map {α β : Type} [Inhabited α] [Inhabited β] {f : α → β} {l : List α} {k : Nat} (h : k < l.length) : gt (l.map f) k = f (gt l k) := by
  apply gt_of
  rw [List.getElem?_map, of_gt h]
  rfl
theorem gt_range {β : Type} [Inhabited β] {f : Nat → β} {n k : Nat} (h : k < n) : gt ((List.range n).map f) k = f k := by
  apply gt_of
  rw [List.getElem?_map, List.getElem?_range h]
  rfl
theorem atI_nat {α : Type} {l : List α} {k : Nat} (h : k < l.length) : atI l ((k : Nat) : Int) = l[k]? := by
  unfold atI ixN
  rw [if_pos (by omega), if_pos (by omega)]
  simp
theorem ix_ok [Inhabited α] {l : List α} {k : Nat} (h : k < l.length) : resI (atI (l.map en) ((k : Nat) : Int)) A = .ok (en (gt l k)) A := by
  rw [atI_nat (by rw [List.length_map]; exact h), List.getElem?_map, of_gt h]
  rfl
theorem ix_ok0 [Inhabited α] {l : List α} (h : 0 < l.length) : resI (atI (l.map en) 0) A = .ok (en (gt l 0)) A := ix_ok (k := 0) h
theorem ix_ok1 [Inhabited α] {l : List α} (h : 1 < l.length) : resI (atI (l.map en) 1) A = .ok (en (gt l 1)) A := ix_ok (k := 1) h
theorem ix_okF [Inhabited α] {f : α → AV} {l : List α} {k : Nat} (h : k < l.length) : resI (atI (l.map f) ((k : Nat) : Int)) A = .ok (f (gt l k)) A := by
  rw [atI_nat (by rw [List.length_map]; exact h), List.getElem?_map, of_gt h]
  rfl
theorem ix_last {l : List AV} {x : AV} : resI (atI (l ++ [x]) (-1)) A = .ok x A := by
  have e : atI (l ++ [x]) (-1) = some x := by
    unfold atI ixN
    rw [if_neg (by omega), if_pos (by rw [List.length_append, List.length_singleton]; omega), List.length_append, List.length_singleton]
    show (l ++ [x])[((-1 : Int) + ((l.length + 1 : Nat) : Int)).toNat]? = _
    have : ((-1 : Int) + ((l.length + 1 : Nat) : Int)).toNat = l.length := by omega
    rw [this]
    simp
  rw [e]
  rfl
theorem lit0 {x : AV} {xs : List AV} : resI (atI (x :: xs) 0) A = .ok x A := by
  have : atI (x :: xs) 0 = some x := by
    unfold atI ixN
    rw [if_pos (by decide), if_pos (by simp only [List.length_cons]; omega)]
    rfl
  rw [this]
  rfl
theorem lit1 {x y : AV} {xs : List AV} : resI (atI (x :: y :: xs) 1) A = .ok y A := by
  have : atI (x :: y :: xs) 1 = some y := by
    unfold atI ixN
    rw [if_pos (by decide), if_pos (by simp only [List.length_cons]; omega)]
    rfl
  rw [this]
  rfl
theorem lit2 {x y z : AV} {xs : List AV} : resI (atI (x :: y :: z :: xs) 2) A = .ok z A := by
  have : atI (x :: y :: z :: xs) 2 = some z := by
    unfold atI ixN
    rw [if_pos (by decide), if_pos (by simp only [List.length_cons]; omega)]
    rfl
  rw [this]
  rfl

/-! ### lists that grow, dicts with whole keys -/
theorem isL_lst {n : Nat} {xs : List AV} (h : A[n]? = some (.lst xs)) : isL A (.obj n) = true := by unfold isL; simp only [h]
theorem isDk_dK {n : Nat} {xs : List (Key × AV)} (h : A[n]? = some (.dK xs)) : isDk A (.obj n) = true := by unfold isDk; simp only [h]
theorem isDk_dT {n : Nat} {xs : List (List Key × AV)} (h : A[n]? = some (.dT xs)) : isDk A (.obj n) = true := by unfold isDk; simp only [h]
theorem gAppend_ok {n : Nat} {xs : List AV} {y : AV} (h : A[n]? = some (.lst xs)) (hl : xs.length < 1000000) : gAppend (.obj n) [y] A = .ok .non (A.set n (.lst (xs ++ [y]))) := by
  unfold gAppend
  simp only [h]
  exact if_pos hl
theorem gExtend_ok {n k : Nat} {xs ys : List AV} (h : A[n]? = some (.lst xs)) (h2 : A[k]? = some (.lst ys)) (hl : xs.length + ys.length < 1000000) : gExtend (.obj n) [.obj k] A = .ok .non (A.set n (.lst (xs ++ ys))) := by
  unfold gExtend lstAt
  simp only [h, h2]
  exact if_pos hl
/-- the value at a key -/
def lk {β : Type} (L : List (Nat × β)) (k : Nat) : Option β := (L.find? fun p => decide (p.1 = k)).map (·.2)
def pt {β : Type} (L : List (Nat × β)) (k : Nat) (v : β) : List (Nat × β) :=
  if (L.any fun p => decide (p.1 = k)) = true then L.map (fun p => if p.1 = k then (p.1, v) else p) else L ++ [(k, v)]
def dN {β : Type} (f : β → AV) (L : List (Nat × β)) : List (Key × AV) := L.map fun p => (.inl ((p.1 : Nat) : Int), f p.2)
theorem inl_eq {a b : Nat} : ((Sum.inl ((a : Nat) : Int) : Key) = .inl ((b : Nat) : Int)) = (a = b) := by
  apply propext
  constructor
  · intro h
    injection h with h
    omega
  · intro h
    rw [h]
theorem valA_dN {β : Type} {f : β → AV} {k : Nat} : ∀ {L : List (Nat × β)}, valA (dN f L) (.inl ((k : Nat) : Int)) = (lk L k).map f
  | [] => rfl
  | p :: L => by
    unfold valA dN lk
    rw [List.map_cons, List.find?_cons, List.find?_cons]
    simp only [inl_eq]
    by_cases h : p.1 = k
    · simp [h]
    · have ih := valA_dN (f := f) (k := k) (L := L)
      unfold valA dN lk at ih
      simp only [decide_eq_false h]
      exact ih
theorem any_dN {β : Type} {f : β → AV} {k : Nat} {L : List (Nat × β)} : ((dN f L).any fun kv => decide (kv.1 = (.inl ((k : Nat) : Int) : Key))) = L.any fun p => decide (p.1 = k) := by
  unfold dN
  rw [List.any_map]
  congr 1
  funext p
  show decide ((.inl ((p.1 : Nat) : Int) : Key) = _) = _
  simp only [inl_eq]
theorem putA_dN {β : Type} {f : β → AV} {k : Nat} {v : β} {L : List (Nat × β)} : putA (dN f L) (.inl ((k : Nat) : Int)) (f v) = dN f (pt L k v) := by
  unfold putA pt
  rw [any_dN]
  split
  · unfold dN
    rw [List.map_map, List.map_map]
    congr 1
    funext p
    show (if (.inl ((p.1 : Nat) : Int) : Key) = _ then _ else _) = _
    simp only [inl_eq, Function.comp]
    split <;> rfl
  · unfold dN
    rw [List.map_append]
    rfl
theorem lk_cons {β : Type} {p : Nat × β} {L : List (Nat × β)} {j : Nat} : lk (p :: L) j = if p.1 = j then some p.2 else lk L j := by
  unfold lk
  rw [List.find?_cons]
  by_cases h : p.1 = j
  · rw [decide_eq_true h, if_pos h]
    rfl
  · rw [decide_eq_false h, if_neg h]
theorem lk_map {β : Type} {k j : Nat} {v : β} : ∀ {L : List (Nat × β)}, lk (L.map fun p => if p.1 = k then (p.1, v) else p) j = if j = k then (lk L j).map (fun _ => v) else lk L j
  | [] => by simp [lk]
  | p :: L => by
    have e : (if p.1 = k then (p.1, v) else p).1 = p.1 := by split <;> rfl
    rw [List.map_cons, lk_cons, lk_cons, e, lk_map (L := L)]
    by_cases hj : p.1 = j
    · rw [if_pos hj, if_pos hj]
      by_cases hk : j = k
      · rw [if_pos hk, if_pos (hj.trans hk)]
        rfl
      · rw [if_neg hk, if_neg (fun e => hk (hj.symm.trans e))]
    · rw [if_neg hj, if_neg hj]
theorem lk_app {β : Type} {j : Nat} : ∀ {L M : List (Nat × β)}, lk (L ++ M) j = (lk L j).or (lk M j)
  | [], M => rfl
  | p :: L, M => by
    rw [List.cons_append, lk_cons, lk_cons, lk_app]
    split <;> rfl
theorem lk_isSome {β : Type} {j : Nat} : ∀ {L : List (Nat × β)}, (lk L j).isSome = L.any fun p => decide (p.1 = j)
  | [] => rfl
  | p :: L => by
    rw [lk_cons, List.any_cons]
    by_cases h : p.1 = j
    · rw [if_pos h, decide_eq_true h]
      rfl
    · rw [if_neg h, decide_eq_false h, lk_isSome (L := L)]
      rfl
theorem lk_pt {β : Type} {L : List (Nat × β)} {k j : Nat} {v : β} : lk (pt L k v) j = if j = k then some v else lk L j := by
  unfold pt
  split
  · rename_i h
    rw [lk_map]
    by_cases hj : j = k
    · subst hj
      rw [← lk_isSome] at h
      obtain ⟨w, hw⟩ := Option.isSome_iff_exists.mp h
      rw [if_pos rfl, if_pos rfl, hw]
      rfl
    · rw [if_neg hj, if_neg hj]
  · rename_i h
    rw [← lk_isSome] at h
    rw [lk_app, lk_cons]
    by_cases hj : j = k
    · subst hj
      rw [if_pos rfl, if_pos rfl]
      cases e : lk L j with
      | none => rfl
      | some w => rw [e] at h; exact absurd rfl h
    · rw [if_neg hj, if_neg (fun e => hj e.symm)]
      cases lk L j <;> rfl
theorem pt_new {β : Type} {L : List (Nat × β)} {k : Nat} {v : β} (h : lk L k = none) : pt L k v = L ++ [(k, v)] := by
  unfold pt
  rw [← lk_isSome, h]
  rfl
theorem lk_nil {β : Type} {k : Nat} : lk ([] : List (Nat × β)) k = none := (rfl)
def inO (o : Option AO) (x : AV) (A : AH) : Option Bool := match o with
  | some (.dK kvs) => (keyOf x).map fun k => (valA kvs k).isSome
  | _ => none
theorem gIn_dN {β : Type} {f : β → AV} {n k : Nat} {L : List (Nat × β)} (h : A[n]? = some (.dK (dN f L))) : gIn (.int ((k : Nat) : Int)) (.obj n) A = .ok (.bl (lk L k).isSome) A := by
  unfold gIn dGet
  simp only [h, keyOf, Option.map_some, valA_dN, Option.isSome_map]
theorem gNotIn_dN {β : Type} {f : β → AV} {n k : Nat} {L : List (Nat × β)} (h : A[n]? = some (.dK (dN f L))) : gNotIn (.int ((k : Nat) : Int)) (.obj n) A = .ok (.bl (!(lk L k).isSome)) A := by
  unfold gNotIn dGet
  simp only [h, keyOf, Option.map_some, valA_dN, Option.isSome_map]
theorem gIx_dN {β : Type} {f : β → AV} {n k : Nat} {L : List (Nat × β)} {v : β} (h : A[n]? = some (.dK (dN f L))) (hv : lk L k = some v) : gIx (.obj n) (.int ((k : Nat) : Int)) A = .ok (f v) A := by
  rw [gIx_dK h, valA_dN, hv]
  rfl
theorem dPut_dN {β : Type} {f : β → AV} {n k : Nat} {L : List (Nat × β)} {v : β} (h : A[n]? = some (.dK (dN f L))) (hl : L.length < 1000000) : dPut A (.obj n) (.int ((k : Nat) : Int)) (f v) = some (A.set n (.dK (dN f (pt L k v)))) := by
  unfold dPut
  simp only [h]
  rw [if_pos (by unfold dN; rw [List.length_map]; exact hl)]
  simp only [keyOf, Option.map_some, putA_dN]
theorem dN_nil {β : Type} {f : β → AV} : dN f ([] : List (Nat × β)) = [] := (rfl)
theorem clo_dN {β : Type} {f : β → AV} {L : List (Nat × β)} {k : Nat} (h : ∀ x, cloV k (f x) = true) : cloK k (dN f L) = true := cloK_map (f := fun p : Nat × β => ((.inl ((p.1 : Nat) : Int) : Key), f p.2)) (fun x => h x.2) L

/-! ### in of tuples and lists of ints -/
theorem inS_ints {x : Nat} {l : List Nat} : (l.map en).any (fun z => AV.eqF z (.int (x : Nat))) = decide (x ∈ l) := by
  rw [List.any_map]
  induction l with
  | nil => simp
  | cons y l ih =>
    rw [List.any_cons, ih]
    show (((y : Nat) : Int) == (x : Nat) || _) = _
    by_cases h : x = y
    · subst h
      simp
    · have : ¬ (y : Int) = (x : Int) := by omega
      simp [h, this]
theorem flat_ints {l : List Nat} : (l.map (en (α := Nat))).all AV.flat = true := by
  rw [List.all_map, List.all_eq_true]
  intro x _
  rfl
theorem gIn_tup {x : Nat} {l : List Nat} : gIn (.int (x : Nat)) (.tup (l.map en)) A = .ok (.bl (decide (x ∈ l))) A := by
  unfold gIn dGet gInS seqAt
  simp only
  rw [if_pos ⟨rfl, flat_ints⟩, inS_ints]
  rfl
theorem gNotIn_tup {x : Nat} {l : List Nat} : gNotIn (.int (x : Nat)) (.tup (l.map en)) A = .ok (.bl (!decide (x ∈ l))) A := by
  unfold gNotIn dGet gInS seqAt
  simp only
  rw [if_pos ⟨rfl, flat_ints⟩, inS_ints]
  rfl
theorem gIn_lst {x n : Nat} {l : List Nat} (h : A[n]? = some (.lst (l.map en))) : gIn (.int (x : Nat)) (.obj n) A = .ok (.bl (decide (x ∈ l))) A := by
  unfold gIn dGet gInS seqAt
  simp only [h]
  rw [if_pos ⟨rfl, flat_ints⟩, inS_ints]
  rfl
theorem gNotIn_lst {x n : Nat} {l : List Nat} (h : A[n]? = some (.lst (l.map en))) : gNotIn (.int (x : Nat)) (.obj n) A = .ok (.bl (!decide (x ∈ l))) A := by
  unfold gNotIn dGet gInS seqAt
  simp only [h]
  rw [if_pos ⟨rfl, flat_ints⟩, inS_ints]
  rfl

/-! ### built-ins over lists -/
theorem gTuple_tup {xs : List AV} : gTuple [.tup xs] A = .ok (.tup xs) A := (rfl)
theorem gTuple_lst {n : Nat} {xs : List AV} (h : A[n]? = some (.lst xs)) : gTuple [.obj n] A = .ok (.tup xs) A := by
  unfold gTuple seqAt
  simp only [h]
theorem gLen_tup {xs : List AV} : gLen [.tup xs] A = .ok (.int (xs.length : Nat)) A := (rfl)
theorem gLen_lst {n : Nat} {xs : List AV} (h : A[n]? = some (.lst xs)) : gLen [.obj n] A = .ok (.int (xs.length : Nat)) A := by
  unfold gLen seqAt
  simp only [h]
theorem gLen_dK {n : Nat} {xs : List (Key × AV)} (h : A[n]? = some (.dK xs)) : gLen [.obj n] A = .ok (.int (xs.length : Nat)) A := by
  unfold gLen seqAt
  simp only [h]
theorem gLen_dT {n : Nat} {xs : List (List Key × AV)} (h : A[n]? = some (.dT xs)) : gLen [.obj n] A = .ok (.int (xs.length : Nat)) A := by
  unfold gLen seqAt
  simp only [h]
theorem gList_tup {xs : List AV} : gList [.tup xs] A = .ok (.obj A.length) (A ++ [.lst xs]) := (rfl)
theorem gList_lst {n : Nat} {xs : List AV} (h : A[n]? = some (.lst xs)) : gList [.obj n] A = .ok (.obj A.length) (A ++ [.lst xs]) := by
  unfold gList seqAt
  simp only [h]
theorem gList_dN {β : Type} {f : β → AV} {n : Nat} {L : List (Nat × β)} (h : A[n]? = some (.dK (dN f L))) : gList [.obj n] A = .ok (.obj A.length) (A ++ [.lst ((L.map (·.1)).map en)]) := by
  unfold gList seqAt
  simp only [h]
  unfold dN
  rw [List.map_map, List.map_map]
  rfl
theorem asI_nats (l : List Nat) : mapO asI (l.map en) = some (l.map fun n => ((n : Nat) : Int)) := mapO_map (f := asI) (fun _ => rfl) l
theorem asI_ints (l : List Int) : mapO asI (l.map en) = some l := by rw [mapO_map (f := asI) (g := id) (fun _ => rfl) l, List.map_id]
theorem asBo_bools (l : List Bool) : mapO asBo (l.map en) = some l := by rw [mapO_map (f := asBo) (g := id) (fun _ => rfl) l, List.map_id]
theorem sum_cast (l : List Nat) : (l.map fun n => ((n : Nat) : Int)).sum = (l.sum : Nat) := by
  induction l with
  | nil => rfl
  | cons x l ih => simp [ih]
theorem gSum_nats {n : Nat} {l : List Nat} (h : A[n]? = some (.lst (l.map en))) : gSum [.obj n] A = .ok (.int (l.sum : Nat)) A := by
  unfold gSum ilAt lsAt
  simp only [h, Option.bind_some, asI_nats, sum_cast]
theorem gSum_ints {n : Nat} {l : List Int} (h : A[n]? = some (.lst (l.map en))) : gSum [.obj n] A = .ok (.int l.sum) A := by
  unfold gSum ilAt lsAt
  simp only [h, Option.bind_some, asI_ints]
theorem gAny_bools {n : Nat} {l : List Bool} (h : A[n]? = some (.lst (l.map en))) : gAny [.obj n] A = .ok (.bl (l.any id)) A := by
  unfold gAny blAt lsAt
  simp only [h, Option.bind_some, asBo_bools]
theorem gAll_bools {n : Nat} {l : List Bool} (h : A[n]? = some (.lst (l.map en))) : gAll [.obj n] A = .ok (.bl (l.all id)) A := by
  unfold gAll blAt lsAt
  simp only [h, Option.bind_some, asBo_bools]
/-! sorting -/
def insN (x : Nat) : List Nat → List Nat
  | [] => [x]
  | y :: ys => if x ≤ y then x :: y :: ys else y :: insN x ys
def srtN : List Nat → List Nat
  | [] => []
  | x :: xs => insN x (srtN xs)
theorem insI_cast (x : Nat) : ∀ l : List Nat, insI (x : Nat) (l.map fun n => ((n : Nat) : Int)) = (insN x l).map fun n => ((n : Nat) : Int)
  | [] => rfl
  | y :: l => by
    rw [List.map_cons, insI, insN, insI_cast x l]
    by_cases h : x ≤ y
    · rw [if_pos h, if_pos (by omega)]
      rfl
    · rw [if_neg h, if_neg (by omega)]
      rfl
theorem srtI_cast : ∀ l : List Nat, srtI (l.map fun n => ((n : Nat) : Int)) = (srtN l).map fun n => ((n : Nat) : Int)
  | [] => rfl
  | x :: l => by rw [List.map_cons, srtI, srtN, srtI_cast l, insI_cast]
theorem gSorted_nats {n : Nat} {l : List Nat} (h : A[n]? = some (.lst (l.map en))) : gSorted [.obj n] A = .ok (.obj A.length) (A ++ [.lst ((srtN l).map en)]) := by
  unfold gSorted lsAt
  simp only [h, asI_nats, srtI_cast, List.map_map]
  rfl
theorem insN_perm (x : Nat) : ∀ l : List Nat, (insN x l).Perm (x :: l)
  | [] => .refl _
  | y :: l => by
    unfold insN
    split
    · exact .refl _
    · exact ((insN_perm x l).cons y).trans (.swap x y l)
theorem srtN_perm : ∀ l : List Nat, (srtN l).Perm l
  | [] => .refl _
  | x :: l => (insN_perm x _).trans ((srtN_perm l).cons x)
theorem insN_srt (x : Nat) : ∀ {l : List Nat}, l.Pairwise (· ≤ ·) → (insN x l).Pairwise (· ≤ ·)
  | [], _ => by simp [insN]
  | y :: l, h => by
    unfold insN
    rw [List.pairwise_cons] at h
    split
    · rename_i hx
      rw [List.pairwise_cons]
      refine ⟨fun z hz => ?_, List.pairwise_cons.mpr h⟩
      rw [List.mem_cons] at hz
      rcases hz with rfl | hz
      · exact hx
      · exact Nat.le_trans hx (h.1 z hz)
    · rename_i hx
      rw [List.pairwise_cons]
      refine ⟨fun z hz => ?_, insN_srt x h.2⟩
      have := (insN_perm x l).mem_iff.mp hz
      rw [List.mem_cons] at this
      rcases this with rfl | hz
      · omega
      · exact h.1 z hz
theorem srtN_srt : ∀ l : List Nat, (srtN l).Pairwise (· ≤ ·)
  | [] => .nil
  | x :: l => insN_srt x (srtN_srt l)
theorem Perm.eq_of {l m : List Nat} (p : l.Perm m) (hl : l.Pairwise (· ≤ ·)) (hm : m.Pairwise (· ≤ ·)) : l = m :=
  p.eq_of_pairwise (fun a b _ _ h1 h2 => Nat.le_antisymm h1 h2) hl hm
theorem srtN_of {l m : List Nat} (p : l.Perm m) (hm : m.Pairwise (· ≤ ·)) : srtN l = m := Perm.eq_of ((srtN_perm l).trans p) (srtN_srt l) hm
end
end Dn

set_option maxRecDepth 100000
set_option maxHeartbeats 1000000
/-! Dn, part X: the same for what looks into the heap: each step first asks what stands at a place, then answers. -/
namespace Dn
open PySem L2 PyProof.Rows Enc
section
variable {ρ : Rho} {A B : AH} {n k : Nat} {i j : Int} {xs ys : List AV} {v x y z : AV} {o : Option AO} {kvs : List (Key × AV)} {kts : List (List Key × AV)} {fs : List AV} {fo : List (Option AV)} {c : Nat}
theorem cv_int : cloV k (.int i) = true := (rfl)
theorem cv_bl {b : Bool} : cloV k (.bl b) = true := (rfl)
theorem cv_str {b : Str} : cloV k (.str b) = true := (rfl)
theorem cv_non : cloV k .non = true := (rfl)
theorem cv_tup : cloV k (.tup xs) = cloVs k xs := by rw [cloV]
theorem cv_obj : cloV k (.obj n) = decide (n < k) := by rw [cloV]
theorem cvs_nil : cloVs k [] = true := (rfl)
theorem cvs_cons : cloVs k (x :: xs) = (cloV k x && cloVs k xs) := by rw [cloVs]
theorem cf_nil : cloF k [] = true := (rfl)
theorem cf_cons : cloF k (some x :: fo) = (cloV k x && cloF k fo) := by rw [cloF]
theorem cf_none : cloF k (none :: fo) = cloF k fo := by rw [cloF]
theorem co_lst : cloO k (.lst xs) = cloVs k xs := (rfl)
theorem co_dK : cloO k (.dK kvs) = cloK k kvs := (rfl)
theorem co_dT : cloO k (.dT kts) = cloK k kts := (rfl)
theorem co_ins : cloO k (.ins c fs) = cloVs k fs := (rfl)
theorem co_slt : cloO k (.slt c fo) = cloF k fo := (rfl)
theorem ckk_nil {κ : Type} : cloK k ([] : List (κ × AV)) = true := (rfl)
theorem ckk_cons {κ : Type} {p : κ × AV} {ps : List (κ × AV)} : cloK k (p :: ps) = (cloV k p.2 && cloK k ps) := (rfl)
theorem ck_dN {β : Type} [Enc β] {L : List (Nat × β)} : cloK k (dN en L) = true := clo_dN fun x => clo_en x
/-! isinstance -/
def kIsi (T : String) (x : AV) (A : AH) : Res AV := if tyS A x ≠ "?" then .ok (.bl (isiT (tyS A x) T)) A else .er
def kIsi2 (T U : String) (x : AV) (A : AH) : Res AV := if tyS A x ≠ "?" then .ok (.bl (isiT (tyS A x) T || isiT (tyS A x) U)) A else .er
theorem x_isi {T : String} {fe : FE} : fIsi T fe ρ A = (fe ρ A).bind (kIsi T) := (rfl)
theorem x_isi2 {T U : String} {fe : FE} : fIsi2 T U fe ρ A = (fe ρ A).bind (kIsi2 T U) := (rfl)
def tyO (o : Option AO) : String := match o with
  | some (.lst _) => "list"
  | some (.dK _) => "dict"
  | some (.dT _) => "dict"
  | _ => "?"
def isiO (T : String) (s : String) (A : AH) : Res AV := if s ≠ "?" then .ok (.bl (isiT s T)) A else .er
def isiO2 (T U : String) (s : String) (A : AH) : Res AV := if s ≠ "?" then .ok (.bl (isiT s T || isiT s U)) A else .er
theorem tyS_obj : tyS A (.obj n) = tyO A[n]? := by
  show (match A[n]? with | some (.lst _) => "list" | some (.dK _) => "dict" | some (.dT _) => "dict" | _ => "?") = _
  unfold tyO
  rcases A[n]? with _ | o
  · rfl
  · cases o <;> rfl
theorem kIsi_obj {T : String} : kIsi T (.obj n) A = isiO T (tyO A[n]?) A := by unfold kIsi isiO; rw [tyS_obj]
theorem kIsi2_obj {T U : String} : kIsi2 T U (.obj n) A = isiO2 T U (tyO A[n]?) A := by unfold kIsi2 isiO2; rw [tyS_obj]
theorem tyO_lst : tyO (some (.lst xs)) = "list" := (rfl)
theorem tyO_dK : tyO (some (.dK kvs)) = "dict" := (rfl)
theorem tyO_dT : tyO (some (.dT kts)) = "dict" := (rfl)
theorem isi_int_int : kIsi "int" (.int i) A = .ok (.bl true) A := (rfl)
theorem isi_bl_int {b : Bool} : kIsi "int" (.bl b) A = .ok (.bl true) A := (rfl)
theorem isi_non_int : kIsi "int" .non A = .ok (.bl false) A := (rfl)
theorem isi_str_int {s : Str} : kIsi "int" (.str s) A = .ok (.bl false) A := (rfl)
theorem isi_tup_int : kIsi "int" (.tup xs) A = .ok (.bl false) A := (rfl)
theorem isi_scr_int {ns : List Int} : kIsi "int" (.scr ns) A = .ok (.bl false) A := (rfl)
theorem isiO_list_int : isiO "int" "list" A = .ok (.bl false) A := (rfl)
theorem isiO_dict_int : isiO "int" "dict" A = .ok (.bl false) A := (rfl)
theorem isi_int_bool : kIsi "bool" (.int i) A = .ok (.bl false) A := (rfl)
theorem isi_bl_bool {b : Bool} : kIsi "bool" (.bl b) A = .ok (.bl true) A := (rfl)
theorem isi_non_bool : kIsi "bool" .non A = .ok (.bl false) A := (rfl)
theorem isi_str_bool {s : Str} : kIsi "bool" (.str s) A = .ok (.bl false) A := (rfl)
theorem isi_tup_bool : kIsi "bool" (.tup xs) A = .ok (.bl false) A := (rfl)
theorem isi_scr_bool {ns : List Int} : kIsi "bool" (.scr ns) A = .ok (.bl false) A := (rfl)
theorem isiO_list_bool : isiO "bool" "list" A = .ok (.bl false) A := (rfl)
theorem isiO_dict_bool : isiO "bool" "dict" A = .ok (.bl false) A := (rfl)
theorem isi_int_str : kIsi "str" (.int i) A = .ok (.bl false) A := (rfl)
theorem isi_bl_str {b : Bool} : kIsi "str" (.bl b) A = .ok (.bl false) A := (rfl)
theorem isi_non_str : kIsi "str" .non A = .ok (.bl false) A := (rfl)
theorem isi_str_str {s : Str} : kIsi "str" (.str s) A = .ok (.bl true) A := (rfl)
theorem isi_tup_str : kIsi "str" (.tup xs) A = .ok (.bl false) A := (rfl)
theorem isi_scr_str {ns : List Int} : kIsi "str" (.scr ns) A = .ok (.bl false) A := (rfl)
theorem isiO_list_str : isiO "str" "list" A = .ok (.bl false) A := (rfl)
theorem isiO_dict_str : isiO "str" "dict" A = .ok (.bl false) A := (rfl)
theorem isi_int_tuple : kIsi "tuple" (.int i) A = .ok (.bl false) A := (rfl)
theorem isi_bl_tuple {b : Bool} : kIsi "tuple" (.bl b) A = .ok (.bl false) A := (rfl)
theorem isi_non_tuple : kIsi "tuple" .non A = .ok (.bl false) A := (rfl)
theorem isi_str_tuple {s : Str} : kIsi "tuple" (.str s) A = .ok (.bl false) A := (rfl)
theorem isi_tup_tuple : kIsi "tuple" (.tup xs) A = .ok (.bl true) A := (rfl)
theorem isi_scr_tuple {ns : List Int} : kIsi "tuple" (.scr ns) A = .ok (.bl false) A := (rfl)
theorem isiO_list_tuple : isiO "tuple" "list" A = .ok (.bl false) A := (rfl)
theorem isiO_dict_tuple : isiO "tuple" "dict" A = .ok (.bl false) A := (rfl)
theorem isi_int_list : kIsi "list" (.int i) A = .ok (.bl false) A := (rfl)
theorem isi_bl_list {b : Bool} : kIsi "list" (.bl b) A = .ok (.bl false) A := (rfl)
theorem isi_non_list : kIsi "list" .non A = .ok (.bl false) A := (rfl)
theorem isi_str_list {s : Str} : kIsi "list" (.str s) A = .ok (.bl false) A := (rfl)
theorem isi_tup_list : kIsi "list" (.tup xs) A = .ok (.bl false) A := (rfl)
theorem isi_scr_list {ns : List Int} : kIsi "list" (.scr ns) A = .ok (.bl true) A := (rfl)
theorem isiO_list_list : isiO "list" "list" A = .ok (.bl true) A := (rfl)
theorem isiO_dict_list : isiO "list" "dict" A = .ok (.bl false) A := (rfl)
theorem isi2_int : kIsi2 "list" "tuple" (.int i) A = .ok (.bl false) A := (rfl)
theorem isi2_bl {b : Bool} : kIsi2 "list" "tuple" (.bl b) A = .ok (.bl false) A := (rfl)
theorem isi2_non : kIsi2 "list" "tuple" .non A = .ok (.bl false) A := (rfl)
theorem isi2_str {s : Str} : kIsi2 "list" "tuple" (.str s) A = .ok (.bl false) A := (rfl)
theorem isi2_tup : kIsi2 "list" "tuple" (.tup xs) A = .ok (.bl true) A := (rfl)
theorem isi2_scr {ns : List Int} : kIsi2 "list" "tuple" (.scr ns) A = .ok (.bl true) A := (rfl)
theorem isi2O_list : isiO2 "list" "tuple" "list" A = .ok (.bl true) A := (rfl)
theorem isi2O_dict : isiO2 "list" "tuple" "dict" A = .ok (.bl false) A := (rfl)
/-! fields -/
def fldO (ti ts : Tbl) (o : Option AO) (A : AH) : Res AV := match o with
  | some (.ins c fs) => match tblAt ti c with
    | some i => resI fs[i]? A
    | none => .er
  | some (.slt c fs) => match tblAt ts c with
    | some i => oVar fs[i]? A
    | none => .er
  | _ => .er
def kFld (ti ts : Tbl) (x : AV) (A : AH) : Res AV := match x with
  | .obj n => fldO ti ts A[n]? A
  | _ => .er
theorem x_fld {ti ts : Tbl} {fe : FE} : fFld ti ts fe ρ A = (fe ρ A).bind (kFld ti ts) := by
  have e : (fun x A => match x with
    | .obj n => match A[n]? with
      | some (.ins c fs) => match tblAt ti c with
        | some i => match fs[i]? with
          | some v => .ok v A
          | none => .er
        | none => .er
      | some (.slt c fs) => match tblAt ts c with
        | some i => match fs[i]? with
          | some (some v) => .ok v A
          | _ => .er
        | none => .er
      | _ => .er
    | _ => .er : AV → AH → Res AV) = kFld ti ts := by
    funext x A
    cases x with
    | obj n =>
      show _ = fldO ti ts A[n]? A
      unfold fldO
      simp only
      rcases A[n]? with _ | o
      · rfl
      · cases o with
        | ins c fs =>
          simp only
          cases tblAt ti c with
          | none => rfl
          | some i => simp only [resI]; all_goals (cases fs[i]? <;> rfl)
        | slt c fs =>
          simp only
          cases tblAt ts c with
          | none => rfl
          | some i => simp only [oVar]; all_goals (rcases fs[i]? with _ | _ | v <;> rfl)
        | _ => rfl
    | _ => rfl
  exact congrArg (Res.bind (fe ρ A)) e
theorem kFld_obj {ti ts : Tbl} : kFld ti ts (.obj n) A = fldO ti ts A[n]? A := (rfl)
theorem fldO_ins {ti ts : Tbl} : fldO ti ts (some (.ins c fs)) A = (match tblAt ti c with | some i => resI fs[i]? A | none => .er) := (rfl)
theorem fldO_slt {ti ts : Tbl} : fldO ti ts (some (.slt c fo)) A = (match tblAt ts c with | some i => oVar fo[i]? A | none => .er) := (rfl)
theorem tblAt_cons {p : Nat × Nat} {t : Tbl} : tblAt (p :: t) c = if p.1 = c then some p.2 else tblAt t c := by
  unfold tblAt
  rw [List.find?_cons]
  by_cases h : p.1 = c
  · have : (p.1 == c) = true := by simpa using h
    rw [this, if_pos h]
    rfl
  · have : (p.1 == c) = false := by simpa using h
    rw [this, if_neg h]
theorem tblAt_nil : tblAt [] c = none := (rfl)
def putSlt (i : Nat) (y : AV) (fo : List (Option AV)) (c n : Nat) (A : AH) : AH := A.set n (.slt c (putO i y fo))
def setFO (ti ts : Tbl) (o : Option AO) (n : Nat) (y : AV) (A : AH) : Option AH := match o with
  | some (.ins c fs) => match tblAt ti c with
    | some i => (putI i y fs).map fun fs' => A.set n (.ins c fs')
    | none => none
  | some (.slt c fs) => match tblAt ts c with
    | some i => some (A.set n (.slt c (putO i y fs)))
    | none => none
  | _ => none
def stO (ρ : Rho) (o : Option AH) : SRes := match o with
  | some A => .nx ρ A
  | none => .er
theorem stO_some : stO ρ (some A) = .nx ρ A := (rfl)
def kSetF2 (ρ : Rho) (ti ts : Tbl) (y : AV) (x : AV) (A : AH) : SRes := stO ρ (setF ti ts A x y)
def kSetF (ρ : Rho) (ti ts : Tbl) (fo : FE) (y : AV) (A : AH) : SRes := (fo ρ A).s ρ (kSetF2 ρ ti ts y)
theorem x_setF {ti ts : Tbl} {fv fo : FE} : fSetF ti ts fv fo ρ A = (fv ρ A).s ρ (kSetF ρ ti ts fo) := (rfl)
theorem a_setF {ti ts : Tbl} {fo : FE} : kSetF ρ ti ts fo y A = (fo ρ A).s ρ (kSetF2 ρ ti ts y) := (rfl)
theorem a_setF2 {ti ts : Tbl} : kSetF2 ρ ti ts y (.obj n) A = stO ρ (setFO ti ts A[n]? n y A) := by
  unfold kSetF2
  congr 1
theorem setFO_ins {ti ts : Tbl} : setFO ti ts (some (.ins c fs)) n y A = (match tblAt ti c with | some i => (putI i y fs).map fun fs' => A.set n (.ins c fs') | none => none) := (rfl)
theorem setFO_slt {ti ts : Tbl} : setFO ti ts (some (.slt c fo)) n y A = (match tblAt ts c with | some i => some (A.set n (.slt c (putO i y fo))) | none => none) := (rfl)
/-! items -/
theorem gIx_objI : gIx (.obj n) (.int i) A = ixO A[n]? i A := by
  rcases h : A[n]? with _ | o
  · unfold gIx dGet gIxS seqAt
    simp only [h]
    rfl
  · cases o with
    | lst xs => exact gIx_lst h
    | dK kvs => exact gIx_dK h
    | dT kvs => unfold gIx dGet gIxS seqAt; simp only [h]; rfl
    | ins c fs => unfold gIx dGet gIxS seqAt; simp only [h]; rfl
    | slt c fs => unfold gIx dGet gIxS seqAt; simp only [h]; rfl
    | lk kvs => unfold gIx dGet gIxS seqAt; simp only [h]; rfl
    | exn c fs => unfold gIx dGet gIxS seqAt; simp only [h]; rfl
    | unk => unfold gIx dGet gIxS seqAt; simp only [h]; rfl
def ixTO (o : Option AO) (ys : List AV) (A : AH) : Res AV := match o with
  | some (.dT kvs) => match mapO keyOf ys with
    | some ks => resI (valA kvs ks) A
    | none => .er
  | some (.lk kvs) => match mapO keyOf ys with
    | some ks => resI (valA kvs ks) A
    | none => .er
  | _ => .er
theorem gIx_objT : gIx (.obj n) (.tup ys) A = ixTO A[n]? ys A := by
  unfold gIx dGet gIxS ixTO
  simp only
  all_goals
    rcases A[n]? with _ | o
    · rfl
    · cases o with
      | dT kvs => simp only; cases mapO keyOf ys with
        | none => rfl
        | some ks => simp only [Option.map_some, resI]; cases valA kvs ks <;> rfl
      | lk kvs => simp only; cases mapO keyOf ys with
        | none => rfl
        | some ks => simp only [Option.map_some, resI]; cases valA kvs ks <;> rfl
      | _ => rfl
theorem ixTO_dT : ixTO (some (.dT kts)) ys A = (match mapO keyOf ys with | some ks => resI (valA kts ks) A | none => .er) := (rfl)
theorem ixTO_lk : ixTO (some (.lk kts)) ys A = (match mapO keyOf ys with | some ks => resI (valA kts ks) A | none => .er) := (rfl)
/-! in -/
def inIO (neg : Bool) (o : Option AO) (i : Int) (A : AH) : Res AV := match o with
  | some (.dK kvs) => .ok (.bl (if neg = true then !(valA kvs (.inl i)).isSome else (valA kvs (.inl i)).isSome)) A
  | some (.lst xs) => if xs.all AV.flat = true then .ok (.bl (if neg = true then !(xs.any fun z => z.eqF (.int i)) else xs.any fun z => z.eqF (.int i))) A else .er
  | _ => .er
theorem gIn_obj : gIn (.int i) (.obj n) A = inIO false A[n]? i A := by
  unfold gIn dGet inIO gInS seqAt
  simp only
  all_goals
    rcases A[n]? with _ | o
    · rfl
    · cases o with
      | lst xs => simp only [AV.flat, true_and] <;> rfl
      | _ => rfl
theorem gNotIn_obj : gNotIn (.int i) (.obj n) A = inIO true A[n]? i A := by
  unfold gNotIn dGet inIO gInS seqAt
  simp only
  all_goals
    rcases A[n]? with _ | o
    · rfl
    · cases o with
      | lst xs => simp only [AV.flat, true_and] <;> rfl
      | _ => rfl
theorem inIO_dN {β : Type} {f : β → AV} {L : List (Nat × β)} : inIO false (some (.dK (dN f L))) ((k : Nat) : Int) A = .ok (.bl (lk L k).isSome) A := by
  unfold inIO
  simp only [valA_dN, Option.isSome_map]
  rfl
theorem notInIO_dN {β : Type} {f : β → AV} {L : List (Nat × β)} : inIO true (some (.dK (dN f L))) ((k : Nat) : Int) A = .ok (.bl (!(lk L k).isSome)) A := by
  unfold inIO
  simp only [valA_dN, Option.isSome_map]
  rfl
theorem inIO_nats {l : List Nat} : inIO false (some (.lst (l.map en))) ((k : Nat) : Int) A = .ok (.bl (decide (k ∈ l))) A := by
  unfold inIO
  simp only
  rw [if_pos flat_ints, inS_ints]
  rfl
theorem notInIO_nats {l : List Nat} : inIO true (some (.lst (l.map en))) ((k : Nat) : Int) A = .ok (.bl (!decide (k ∈ l))) A := by
  unfold inIO
  simp only
  rw [if_pos flat_ints, inS_ints]
  rfl
theorem ix_dN {β : Type} {f : β → AV} {L : List (Nat × β)} {w : β} (h : lk L k = some w) : resI (valA (dN f L) (.inl ((k : Nat) : Int))) A = .ok (f w) A := by
  rw [valA_dN, h]
  rfl
theorem valA_dNs {β : Type} {f : β → AV} {L : List (Nat × β)} : resI (valA (dN f L) (.inl ((k : Nat) : Int))) A = resI ((lk L k).map f) A := by rw [valA_dN]
/-! stores -/
def dPutO (o : Option AO) (n : Nat) (y z : AV) (A : AH) : Option AH := match o with
  | some (.dK kvs) => if kvs.length < big then (keyOf y).map fun k => A.set n (.dK (putA kvs k z)) else none
  | some (.dT kvs) => match y with
    | .tup ys => if kvs.length < big then (mapO keyOf ys).map fun k => A.set n (.dT (putA kvs k z)) else none
    | _ => none
  | some (.lst xs) => match y with
    | .int i => (ixN xs.length i).map fun j => A.set n (.lst (xs.set j z))
    | _ => none
  | _ => none
def kSub3 (ρ : Rho) (z x : AV) (y : AV) (A : AH) : SRes := match dPut A x y z with
  | some A' => .nx ρ A'
  | none => match setL A x y z with
    | some A' => .nx ρ A'
    | none => .er
def kSub2 (ρ : Rho) (z : AV) (fi : FE) (x : AV) (A : AH) : SRes := (fi ρ A).s ρ (kSub3 ρ z x)
def kSub (ρ : Rho) (fo fi : FE) (z : AV) (A : AH) : SRes := (fo ρ A).s ρ (kSub2 ρ z fi)
theorem x_sub {fv fo fi : FE} : fSub fv fo fi ρ A = (fv ρ A).s ρ (kSub ρ fo fi) := (rfl)
theorem a_sub {fo fi : FE} : kSub ρ fo fi z A = (fo ρ A).s ρ (kSub2 ρ z fi) := (rfl)
theorem a_sub2 {fi : FE} : kSub2 ρ z fi x A = (fi ρ A).s ρ (kSub3 ρ z x) := (rfl)
theorem dPut_e : dPut A (.obj n) y z = (match A[n]? with
    | some (.dK kvs) => if kvs.length < big then (keyOf y).map fun k => A.set n (.dK (putA kvs k z)) else none
    | some (.dT kvs) => match y with
      | .tup ys => if kvs.length < big then (mapO keyOf ys).map fun k => A.set n (.dT (putA kvs k z)) else none
      | _ => none
    | _ => none) := rfl
theorem setL_e : setL A (.obj n) y z = (match y with
    | .int i => match A[n]? with
      | some (.lst xs) => (ixN xs.length i).map fun j => A.set n (.lst (xs.set j z))
      | _ => none
    | _ => none) := by cases y <;> rfl
theorem kSub3_eq : (match dPut A (.obj n) y z with
  | some A' => SRes.nx ρ A'
  | none => match setL A (.obj n) y z with
    | some A' => .nx ρ A'
    | none => .er) = stO ρ (dPutO A[n]? n y z A) := by
  rw [dPut_e, setL_e]
  unfold dPutO
  rcases A[n]? with _ | o
  · cases y <;> rfl
  · cases o with
    | lst xs => cases y with
      | int i => simp only; cases ixN xs.length i <;> rfl
      | _ => rfl
    | dK kvs =>
      simp only
      cases (if kvs.length < big then (keyOf y).map fun k => A.set n (.dK (putA kvs k z)) else none) with
      | none => cases y <;> rfl
      | some B => rfl
    | dT kvs =>
      simp only
      cases y with
      | tup ys =>
        simp only
        cases (if kvs.length < big then (mapO keyOf ys).map fun k => A.set n (.dT (putA kvs k z)) else none) with
        | none => rfl
        | some B => rfl
      | _ => rfl
    | _ => cases y <;> rfl
theorem a_sub3 : kSub3 ρ z (.obj n) y A = stO ρ (dPutO A[n]? n y z A) := kSub3_eq
theorem ixN_nat {m : Nat} (h : k < m) : ixN m ((k : Nat) : Int) = some k := by
  unfold ixN
  rw [if_pos (by omega), if_pos (by omega)]
  simp
theorem put_lst {ys : List AV} (h : k < ys.length) : dPutO (some (.lst ys)) n (.int ((k : Nat) : Int)) z A = some (A.set n (.lst (ys.set k z))) := by
  unfold dPutO
  simp only [ixN_nat h, Option.map_some]
theorem put_dN {β : Type} [Enc β] {L : List (Nat × β)} {w : β} (hl : L.length < 1000000) : dPutO (some (.dK (dN en L))) n (.int ((k : Nat) : Int)) (en w) A = some (A.set n (.dK (dN en (pt L k w)))) := by
  unfold dPutO
  simp only
  rw [if_pos (by unfold dN; rw [List.length_map]; exact hl)]
  simp only [keyOf, Option.map_some, putA_dN]
/-- the value is an int -/
theorem put_dNi {L : List (Nat × Nat)} {w : Nat} (hl : L.length < 1000000) : dPutO (some (.dK (dN en L))) n (.int ((k : Nat) : Int)) (.int ((w : Nat) : Int)) A = some (A.set n (.dK (dN en (pt L k w)))) := put_dN (w := w) hl
/-! methods of lists and dicts -/
def isLO (o : Option AO) : Bool := match o with
  | some (.lst _) => true
  | _ => false
def isDkO (o : Option AO) : Bool := match o with
  | some (.dK _) => true
  | some (.dT _) => true
  | _ => false
theorem isL_obj : isL A (.obj n) = isLO A[n]? := by
  show (match A[n]? with | some (.lst _) => true | _ => false) = _
  unfold isLO
  rcases A[n]? with _ | o
  · rfl
  · cases o <;> rfl
theorem isDk_obj : isDk A (.obj n) = isDkO A[n]? := by
  show (match A[n]? with | some (.dK _) => true | some (.dT _) => true | _ => false) = _
  unfold isDkO
  rcases A[n]? with _ | o
  · rfl
  · cases o <;> rfl
theorem isLO_lst : isLO (some (.lst xs)) = true := (rfl)
theorem isDkO_dK : isDkO (some (.dK kvs)) = true := (rfl)
theorem isDkO_dT : isDkO (some (.dT kts)) = true := (rfl)
def appO (o : Option AO) (n : Nat) (y : AV) (A : AH) : Res AV := match o with
  | some (.lst xs) => if xs.length < big then .ok .non (A.set n (.lst (xs ++ [y]))) else .er
  | _ => .er
theorem gAppend_obj : gAppend (.obj n) [y] A = appO A[n]? n y A := by
  unfold gAppend appO
  simp only
  all_goals
    rcases A[n]? with _ | o
    · rfl
    · cases o <;> rfl
theorem appO_lst : appO (some (.lst xs)) n y A = if xs.length < big then .ok .non (A.set n (.lst (xs ++ [y]))) else .er := (rfl)
def lstO (o : Option AO) : Option (List AV) := match o with
  | some (.lst xs) => some xs
  | _ => none
theorem lstO_lst : lstO (some (.lst xs)) = some xs := (rfl)
theorem lstAt_obj : lstAt A (.obj n) = lstO A[n]? := by
  show (match A[n]? with | some (.lst xs) => some xs | _ => none) = _
  unfold lstO
  rcases A[n]? with _ | o
  · rfl
  · cases o <;> rfl
def extO (o : Option AO) (p : Option (List AV)) (n : Nat) (A : AH) : Res AV := match o, p with
  | some (.lst xs), some zs => if xs.length + zs.length < big then .ok .non (A.set n (.lst (xs ++ zs))) else .er
  | _, _ => .er
theorem gExtend_obj : gExtend (.obj n) [.obj k] A = extO A[n]? (lstO A[k]?) n A := by
  unfold gExtend
  simp only [lstAt_obj]
  all_goals
    unfold extO
    rcases A[n]? with _ | o
    · rfl
    · cases o with
      | lst xs => cases lstO A[k]? <;> rfl
      | _ => rfl
theorem extO_lst : extO (some (.lst xs)) (some ys) n A = if xs.length + ys.length < big then .ok .non (A.set n (.lst (xs ++ ys))) else .er := (rfl)
def updO (o p : Option AO) (n k : Nat) (A : AH) : Res AV := match o, p with
  | some (.dK kvs), some (.dK more) => if n ≠ k ∧ kvs.length + more.length < big then .ok .non (A.set n (.dK (mergeA kvs more))) else .er
  | _, _ => .er
theorem gUpd_obj : gUpd (.obj n) [.obj k] A = updO A[n]? A[k]? n k A := by
  unfold gUpd updO
  simp only
  all_goals
    rcases A[n]? with _ | o
    · rfl
    · cases o with
      | dK xs => rcases A[k]? with _ | p
                 · rfl
                 · cases p <;> rfl
      | _ => rfl
theorem updO_dK {more : List (Key × AV)} : updO (some (.dK kvs)) (some (.dK more)) n k A = if n ≠ k ∧ kvs.length + more.length < big then .ok .non (A.set n (.dK (mergeA kvs more))) else .er := (rfl)
theorem merge_dN {β : Type} {f : β → AV} : ∀ {L M : List (Nat × β)}, mergeA (dN f L) (dN f M) = dN f (M.foldl (fun acc p => pt acc p.1 p.2) L)
  | L, [] => rfl
  | L, p :: M => by
    have := merge_dN (f := f) (L := pt L p.1 p.2) (M := M)
    rw [← putA_dN] at this
    exact this
def popO (o : Option AO) (n : Nat) (A : AH) : Res AV := match o with
  | some (.lst xs) => match xs[xs.length - 1]? with
    | some y => .ok y (A.set n (.lst xs.dropLast))
    | none => .er
  | _ => .er
theorem gPop_obj : gPop (.obj n) [] A = popO A[n]? n A := by
  unfold gPop popO
  simp only
  all_goals
    rcases A[n]? with _ | o
    · rfl
    · cases o <;> rfl
theorem popO_app : popO (some (.lst (xs ++ [y]))) n A = .ok y (A.set n (.lst xs)) := by
  unfold popO
  simp
def popAtO (o : Option AO) (n : Nat) (i : Int) (A : AH) : Res AV := match o with
  | some (.lst xs) => if rngB i = true then match seqIndex? i xs.length with
      | some k => match xs[k]? with
        | some y => .ok y (A.set n (.lst (xs.eraseIdx k)))
        | none => .er
      | none => .er
    else .er
  | _ => .er
theorem gPopAt_obj : gPopAt (.obj n) [.int i] A = popAtO A[n]? n i A := by
  unfold gPopAt popAtO
  simp only
  all_goals
    rcases A[n]? with _ | o
    · rfl
    · cases o <;> rfl
theorem popAtO_ok {xs : List AV} (hk : xs[k]? = some y) (hb : k < 1000000) : popAtO (some (.lst xs)) n ((k : Nat) : Int) A = .ok y (A.set n (.lst (xs.eraseIdx k))) := by
  have hl := (List.getElem?_eq_some_iff.mp hk).1
  have h1 : rngB ((k : Nat) : Int) = true := by
    unfold rngB
    rw [decide_eq_true (by omega), decide_eq_true (by omega)]
    rfl
  have h2 : seqIndex? ((k : Nat) : Int) xs.length = some k := by
    unfold seqIndex?
    simp
    omega
  unfold popAtO
  simp only [h1, if_true, h2, hk]
/-! what is walked -/
def kList (x : AV) (A : AH) : Res Src := match x with
  | .obj n => match A[n]? with
    | some (.lst _) => .ok (.live n fun _ y => y) A
    | _ => .er
  | .scr ns => .ok (.fix (ns.map AV.int)) A
  | .tup xs => .ok (.fix xs) A
  | _ => .er
def kListO (o : Option AO) (n : Nat) (A : AH) : Res Src := match o with
  | some (.lst _) => .ok (.live n fun _ y => y) A
  | _ => .er
theorem x_list {f : FE} : fList f ρ A = (f ρ A).bind kList := (rfl)
theorem kList_obj : kList (.obj n) A = kListO A[n]? n A := by
  show (match A[n]? with | some (.lst _) => Res.ok (Src.live n fun _ y => y) A | _ => .er) = _
  unfold kListO
  rcases A[n]? with _ | o
  · rfl
  · cases o <;> rfl
theorem kListO_lst : kListO (some (.lst xs)) n A = .ok (.live n fun _ y => y) A := (rfl)
theorem kList_tup : kList (.tup xs) A = .ok (.fix xs) A := (rfl)
theorem kList_scr {ns : List Int} : kList (.scr ns) A = .ok (.fix (ns.map AV.int)) A := (rfl)
def kEnum (x : AV) (A : AH) : Res Src := match x with
  | .obj n => match A[n]? with
    | some (.lst _) => .ok (.live n pairI) A
    | _ => .er
  | .scr ns => .ok (.fix (enumF 0 (ns.map AV.int))) A
  | .tup xs => .ok (.fix (enumF 0 xs)) A
  | _ => .er
def kEnumO (o : Option AO) (n : Nat) (A : AH) : Res Src := match o with
  | some (.lst _) => .ok (.live n pairI) A
  | _ => .er
theorem x_enum {f : FE} : fEnum f ρ A = (f ρ A).bind kEnum := (rfl)
theorem kEnum_obj : kEnum (.obj n) A = kEnumO A[n]? n A := by
  show (match A[n]? with | some (.lst _) => Res.ok (Src.live n pairI) A | _ => .er) = _
  unfold kEnumO
  rcases A[n]? with _ | o
  · rfl
  · cases o <;> rfl
theorem kEnumO_lst : kEnumO (some (.lst xs)) n A = .ok (.live n pairI) A := (rfl)
theorem kEnum_tup : kEnum (.tup xs) A = .ok (.fix (enumF 0 xs)) A := (rfl)
theorem enumF_map {α : Type} {f : α → AV} : ∀ (l : List α) (k : Nat), enumF k (l.map f) = (l.zipIdx k).map fun p => pairI p.2 (f p.1)
  | [], _ => rfl
  | x :: l, k => by
    rw [List.map_cons, enumF, List.zipIdx_cons, List.map_cons, enumF_map l (k + 1)]
def kRange1 (xs : List AV) (A : AH) : Res Src := match xs with
  | [.int j] => if rngB j = true then .ok (.fix (rngL 0 j.toNat)) A else .er
  | _ => .er
def kRange2 (xs : List AV) (A : AH) : Res Src := match xs with
  | [.int i, .int j] => if rngB i = true ∧ rngB j = true then .ok (.fix (rngL i (j - i).toNat)) A else .er
  | _ => .er
theorem x_range1 {f : FA} : fRange1 f ρ A = (f ρ A).bind kRange1 := (rfl)
theorem x_range2 {f : FA} : fRange2 f ρ A = (f ρ A).bind kRange2 := (rfl)
theorem rngB_nat (h : k < 1000000) : rngB ((k : Nat) : Int) = true := by
  unfold rngB
  rw [decide_eq_true (by omega), decide_eq_true (by omega)]
  rfl
theorem rngL_0 : rngL 0 k = (List.range k).map en := by
  unfold rngL
  apply List.map_congr_left
  intro x _
  show AV.int (0 + ((x : Nat) : Int)) = .int (x : Nat)
  rw [Int.zero_add]
theorem kRange1_nat (h : k < 1000000) : kRange1 [.int ((k : Nat) : Int)] A = .ok (.fix ((List.range k).map en)) A := by
  unfold kRange1
  simp only [rngB_nat h, if_true, Int.toNat_natCast, rngL_0]
theorem rngL_from {a : Nat} : rngL ((a : Nat) : Int) k = ((List.range k).map fun i => a + i).map en := by
  unfold rngL
  rw [List.map_map]
  apply List.map_congr_left
  intro x _
  show AV.int (((a : Nat) : Int) + ((x : Nat) : Int)) = .int ((a + x : Nat) : Int)
  congr 1
theorem kRange2_nat {a : Nat} (h : k < 1000000) (h2 : a < 1000000) : kRange2 [.int ((a : Nat) : Int), .int ((k : Nat) : Int)] A = .ok (.fix (((List.range (k - a)).map fun i => a + i).map en)) A := by
  unfold kRange2
  simp only [rngB_nat h, rngB_nat h2, and_self, if_true]
  have : (((k : Nat) : Int) - ((a : Nat) : Int)).toNat = k - a := by omega
  rw [this, rngL_from]
def kLRg (x : AV) (A : AH) : Res AV := match x with
  | .int j => if 0 ≤ j ∧ j < 1000000 then .ok (.obj A.length) (A ++ [.lst (rngL 0 j.toNat)]) else .er
  | _ => .er
theorem x_lrg {f : FE} : fLRg f ρ A = (f ρ A).bind kLRg := (rfl)
theorem kLRg_nat (h : k < 1000000) : kLRg (.int ((k : Nat) : Int)) A = .ok (.obj A.length) (A ++ [.lst ((List.range k).map en)]) := by
  unfold kLRg
  simp only
  rw [if_pos ⟨by omega, by omega⟩, Int.toNat_natCast, rngL_0]
/-! built-ins -/
def seqO (o : Option AO) : Option (List AV) := lstO o
def gTupO (o : Option (List AV)) (A : AH) : Res AV := match o with
  | some ys => .ok (.tup ys) A
  | none => .er
theorem gTuple_obj : gTuple [.obj n] A = gTupO (lstO A[n]?) A := by
  unfold gTuple seqAt lstO gTupO
  simp only
  all_goals
    rcases A[n]? with _ | o
    · rfl
    · cases o <;> rfl
theorem gTupO_some : gTupO (some xs) A = .ok (.tup xs) A := (rfl)
def gLenO (o : Option AO) (A : AH) : Res AV := match o with
  | some (.lst xs) => .ok (.int (xs.length : Nat)) A
  | some (.dK kvs) => .ok (.int (kvs.length : Nat)) A
  | some (.dT kvs) => .ok (.int (kvs.length : Nat)) A
  | _ => .er
theorem gLen_obj : gLen [.obj n] A = gLenO A[n]? A := by
  unfold gLen seqAt gLenO
  simp only
  all_goals
    rcases A[n]? with _ | o
    · rfl
    · cases o <;> rfl
theorem gLenO_lst : gLenO (some (.lst xs)) A = .ok (.int (xs.length : Nat)) A := (rfl)
theorem gLenO_dK : gLenO (some (.dK kvs)) A = .ok (.int (kvs.length : Nat)) A := (rfl)
theorem gLenO_dT : gLenO (some (.dT kts)) A = .ok (.int (kts.length : Nat)) A := (rfl)
def gListO (o : Option AO) (A : AH) : Res AV := match o with
  | some (.lst ys) => .ok (.obj A.length) (A ++ [.lst ys])
  | some (.dK kvs) => .ok (.obj A.length) (A ++ [.lst (kvs.map fun kv => kA kv.1)])
  | some (.dT kvs) => .ok (.obj A.length) (A ++ [.lst (kvs.map fun kv => .tup (kv.1.map kA))])
  | _ => .er
theorem gList_obj : gList [.obj n] A = gListO A[n]? A := by
  unfold gList seqAt gListO
  simp only
  all_goals
    rcases A[n]? with _ | o
    · rfl
    · cases o <;> rfl
theorem gListO_lst : gListO (some (.lst xs)) A = .ok (.obj A.length) (A ++ [.lst xs]) := (rfl)
theorem keys_dN {β : Type} {f : β → AV} {L : List (Nat × β)} : (dN f L).map (fun kv => kA kv.1) = (L.map (·.1)).map en := by
  unfold dN
  rw [List.map_map, List.map_map]
  rfl
theorem gListO_dK : gListO (some (.dK kvs)) A = .ok (.obj A.length) (A ++ [.lst (kvs.map fun kv => kA kv.1)]) := (rfl)
theorem gListO_dT : gListO (some (.dT kts)) A = .ok (.obj A.length) (A ++ [.lst (kts.map fun kv => .tup (kv.1.map kA))]) := (rfl)
def sortO (o : Option (List AV)) (A : AH) : Res AV := match o with
  | some ys => match mapO asI ys with
    | some ns => .ok (.obj A.length) (A ++ [.lst ((srtI ns).map AV.int)])
    | none => match mapO asP ys with
      | some ps => .ok (.obj A.length) (A ++ [.lst ((srtP ps).map pA)])
      | none => .er
  | none => .er
theorem gSorted_obj : gSorted [.obj n] A = sortO (lstO A[n]?) A := by
  unfold gSorted lsAt lstO sortO
  simp only
  all_goals
    rcases A[n]? with _ | o
    · rfl
    · cases o <;> rfl
theorem sortO_nats {l : List Nat} : sortO (some (l.map en)) A = .ok (.obj A.length) (A ++ [.lst ((srtN l).map en)]) := by
  unfold sortO
  simp only [asI_nats, srtI_cast, List.map_map]
  rfl
def ilO (o : Option (List AV)) : Option (List Int) := o.bind (mapO asI)
def sumO (o : Option (List Int)) (A : AH) : Res AV := match o with
  | some ns => .ok (.int ns.sum) A
  | none => .er
theorem lsAt_obj : lsAt A (.obj n) = lstO A[n]? := by
  show (match A[n]? with | some (.lst xs) => some xs | _ => none) = _
  unfold lstO
  rcases A[n]? with _ | o
  · rfl
  · cases o <;> rfl
theorem gSum_obj : gSum [.obj n] A = sumO (ilO (lstO A[n]?)) A := by
  unfold gSum ilAt ilO sumO
  simp only [lsAt_obj]
  all_goals
    cases (lstO A[n]?).bind (mapO asI) <;> rfl
theorem sumO_nats {l : List Nat} : sumO (ilO (some (l.map en))) A = .ok (.int (l.sum : Nat)) A := by
  unfold sumO ilO
  simp only [Option.bind_some, asI_nats, sum_cast]
theorem sumO_ints {l : List Int} : sumO (ilO (some (l.map en))) A = .ok (.int l.sum) A := by
  unfold sumO ilO
  simp only [Option.bind_some, asI_ints]
def anyO (o : Option (List AV)) (A : AH) : Res AV := match o.bind (mapO asBo) with
  | some ns => .ok (.bl (ns.any id)) A
  | none => .er
def allO (o : Option (List AV)) (A : AH) : Res AV := match o.bind (mapO asBo) with
  | some ns => .ok (.bl (ns.all id)) A
  | none => .er
theorem gAny_obj : gAny [.obj n] A = anyO (lstO A[n]?) A := by
  unfold gAny blAt anyO
  simp only [lsAt_obj]
  all_goals
    cases (lstO A[n]?).bind (mapO asBo) <;> rfl
theorem gAll_obj : gAll [.obj n] A = allO (lstO A[n]?) A := by
  unfold gAll blAt allO
  simp only [lsAt_obj]
  all_goals
    cases (lstO A[n]?).bind (mapO asBo) <;> rfl
theorem anyO_bools {l : List Bool} : anyO (some (l.map en)) A = .ok (.bl (l.any id)) A := by
  unfold anyO
  simp only [Option.bind_some, asBo_bools]
theorem allO_bools {l : List Bool} : allO (some (l.map en)) A = .ok (.bl (l.all id)) A := by
  unfold allO
  simp only [Option.bind_some, asBo_bools]
/-! == of lists -/
def cmpO (neg : Bool) (o p : Option AO) (n k : Nat) (A : AH) : Res AV := if neg = true then gNe (.obj n) (.obj k) A else gEq (.obj n) (.obj k) A
/-! making objects, methods -/
def kMake2 (n : Nat) (v : AV) (B : AH) : Res AV := match v with
  | .non => .ok (.obj n) B
  | _ => .er
def kMake (o0 : AO) (n : Nat) (G : FD) (as : List AV) (A : AH) : Res AV := if as.length + 1 = n then (G (.obj A.length :: as) (A ++ [o0])).bind (kMake2 A.length) else .er
theorem x_make {o0 : AO} {G : FD} {fa : FA} : fMake o0 n G fa ρ A = (fa ρ A).bind (kMake o0 n G) := (rfl)
theorem a_make {o0 : AO} {G : FD} {as : List AV} : kMake o0 n G as A = if as.length + 1 = n then (G (.obj A.length :: as) (A ++ [o0])).bind (kMake2 A.length) else .er := (rfl)
theorem a_make2 : kMake2 n .non B = .ok (.obj n) B := (rfl)
def kMth2 (k n : Nat) (G : FD) (as : List AV) (A : AH) : Res AV := if as.length + 1 = n then G (.obj k :: as) A else .er
def mthO (o : Option AO) (ρ : Rho) (c n : Nat) (G : FD) (fa : FA) (k : Nat) (A : AH) : Res AV := match o with
  | some (.ins c' _) => if c' = c then (fa ρ A).bind (kMth2 k n G) else .er
  | _ => .er
def kMth (ρ : Rho) (c n : Nat) (G : FD) (fa : FA) (x : AV) (A : AH) : Res AV := match x with
  | .obj k => match A[k]? with
    | some (.ins c' _) => if c' = c then (fa ρ A).bind fun as A => if as.length + 1 = n then G (.obj k :: as) A else .er else .er
    | _ => .er
  | _ => .er
theorem x_mth {G : FD} {fo : FE} {fa : FA} : fMth c n G fo fa ρ A = (fo ρ A).bind (kMth ρ c n G fa) := (rfl)
theorem kMth_obj {G : FD} {fa : FA} : kMth ρ c n G fa (.obj k) A = mthO A[k]? ρ c n G fa k A := by
  show (match A[k]? with
    | some (.ins c' _) => if c' = c then (fa ρ A).bind fun as A => if as.length + 1 = n then G (.obj k :: as) A else .er else .er
    | _ => .er) = _
  unfold mthO
  rcases A[k]? with _ | o
  · rfl
  · cases o <;> rfl
theorem mthO_ins {G : FD} {fa : FA} {c' : Nat} : mthO (some (.ins c' fs)) ρ c n G fa k A = if c' = c then (fa ρ A).bind (kMth2 k n G) else .er := (rfl)
theorem a_mth2 {G : FD} {as : List AV} : kMth2 k n G as A = if as.length + 1 = n then G (.obj k :: as) A else .er := (rfl)
def mthSO (o : Option AO) (ρ : Rho) (c n : Nat) (G : FD) (fa : FA) (k : Nat) (A : AH) : Res AV := match o with
  | some (.slt c' _) => if c' = c then (fa ρ A).bind (kMth2 k n G) else .er
  | _ => .er
def kMthS (ρ : Rho) (c n : Nat) (G : FD) (fa : FA) (x : AV) (A : AH) : Res AV := match x with
  | .obj k => match A[k]? with
    | some (.slt c' _) => if c' = c then (fa ρ A).bind fun as A => if as.length + 1 = n then G (.obj k :: as) A else .er else .er
    | _ => .er
  | _ => .er
theorem x_mthS {G : FD} {fo : FE} {fa : FA} : fMthS c n G fo fa ρ A = (fo ρ A).bind (kMthS ρ c n G fa) := (rfl)
theorem kMthS_obj {G : FD} {fa : FA} : kMthS ρ c n G fa (.obj k) A = mthSO A[k]? ρ c n G fa k A := by
  show (match A[k]? with
    | some (.slt c' _) => if c' = c then (fa ρ A).bind fun as A => if as.length + 1 = n then G (.obj k :: as) A else .er else .er
    | _ => .er) = _
  unfold mthSO
  rcases A[k]? with _ | o
  · rfl
  · cases o <;> rfl
theorem mthSO_slt {G : FD} {fa : FA} {c' : Nat} : mthSO (some (.slt c' fo)) ρ c n G fa k A = if c' = c then (fa ρ A).bind (kMth2 k n G) else .er := (rfl)
def kPropR (r : Res AV) : Res AV := match r with
  | .ok v B => .ok v B
  | _ => .er
def propO (o : Option AO) (c : Nat) (G : FD) (k : Nat) (A : AH) : Res AV := match o with
  | some (.ins c' _) => if c' = c then kPropR (G [.obj k] A) else .er
  | _ => .er
def kProp (c : Nat) (G : FD) (x : AV) (A : AH) : Res AV := match x with
  | .obj k => match A[k]? with
    | some (.ins c' _) => if c' = c then match G [.obj k] A with
      | .ok v B => .ok v B
      | _ => .er
      else .er
    | _ => .er
  | _ => .er
theorem x_prop {G : FD} {fo : FE} : fProp c G fo ρ A = (fo ρ A).bind (kProp c G) := (rfl)
theorem kProp_obj {G : FD} : kProp c G (.obj k) A = propO A[k]? c G k A := by
  show (match A[k]? with
    | some (.ins c' _) => if c' = c then match G [.obj k] A with
      | .ok v B => Res.ok v B
      | _ => Res.er
      else Res.er
    | _ => Res.er) = _
  unfold propO kPropR
  rcases A[k]? with _ | o
  · rfl
  · cases o <;> rfl
theorem propO_ins {G : FD} {c' : Nat} : propO (some (.ins c' fs)) c G k A = if c' = c then kPropR (G [.obj k] A) else .er := (rfl)
theorem kPropR_ok : kPropR (.ok v A) = .ok v A := (rfl)
end
end Dn

set_option maxRecDepth 100000
set_option maxHeartbeats 1000000
/-! Dn, part Y: more staged steps: displays, op=, get, del, slices, dict comprehensions, named arguments. -/
namespace Dn
open PySem L2 PyProof.Rows Enc
section
variable {ρ : Rho} {A B : AH} {n k m : Nat} {i j : Int} {xs ys : List AV} {v x y z : AV} {o : Option AO} {kvs : List (Key × AV)} {kts : List (List Key × AV)} {fs : List AV} {fo : List (Option AV)} {c : Nat}
/-! displays of dicts -/
def kFp3 (x y : AV) (ps : List (AV × AV)) (A : AH) : Res (List (AV × AV)) := .ok ((x, y) :: ps) A
def kFp2 (ρ : Rho) (f : FP) (x : AV) (y : AV) (A : AH) : Res (List (AV × AV)) := (f ρ A).bind (kFp3 x y)
def kFp (ρ : Rho) (v : FE) (f : FP) (x : AV) (A : AH) : Res (List (AV × AV)) := (v ρ A).bind (kFp2 ρ f x)
theorem x_fpNil : fpNil ρ A = .ok [] A := (rfl)
theorem x_fpCons {k v : FE} {f : FP} : fpCons k v f ρ A = (k ρ A).bind (kFp ρ v f) := (rfl)
theorem a_fp {v : FE} {f : FP} : kFp ρ v f x A = (v ρ A).bind (kFp2 ρ f x) := (rfl)
theorem a_fp2 {f : FP} : kFp2 ρ f x y A = (f ρ A).bind (kFp3 x y) := (rfl)
theorem a_fp3 {ps : List (AV × AV)} : kFp3 x y ps A = .ok ((x, y) :: ps) A := (rfl)
def dispO (o : Option (List (Key × AV))) (p : Option AO) (m n : Nat) (B : AH) : Res AV := match o, p with
  | some kvs, some (.dK []) => if m ≤ 15 then .ok (.obj n) (B.set n (.dK (mergeA [] kvs))) else .er
  | _, _ => .er
def kDisp (n : Nat) (ps : List (AV × AV)) (B : AH) : Res AV := dispO (keysA ps) B[n]? ps.length n B
theorem x_disp {f : FP} : fDisp f ρ A = (f ρ (A ++ [.dK []])).bind (kDisp A.length) := (rfl)
theorem a_disp {ps : List (AV × AV)} : kDisp n ps B = dispO (keysA ps) B[n]? ps.length n B := (rfl)
theorem dispO_ok : dispO (some kvs) (some (.dK [])) m n B = if m ≤ 15 then .ok (.obj n) (B.set n (.dK (mergeA [] kvs))) else .er := (rfl)
theorem keysA_nil : keysA [] = some [] := (rfl)
def kOpt (k : Key) (y : AV) (o : Option (List (Key × AV))) : Option (List (Key × AV)) := match o with
  | some r => some ((k, y) :: r)
  | none => none
theorem keysA_int {ps : List (AV × AV)} : keysA ((.int i, y) :: ps) = kOpt (.inl i) y (keysA ps) := by
  rw [keysA]
  simp only [keyOf]
  cases keysA ps <;> rfl
theorem keysA_str {s : Str} {ps : List (AV × AV)} : keysA ((.str s, y) :: ps) = kOpt (.inr s) y (keysA ps) := by
  rw [keysA]
  simp only [keyOf]
  cases keysA ps <;> rfl
theorem kOpt_some {q : Key} {r : List (Key × AV)} : kOpt q y (some r) = some ((q, y) :: r) := (rfl)
theorem merge_one {p : Key × AV} : mergeA [] [p] = [p] := (rfl)
theorem dN_one {w : Nat} {s : Nat} : [((.inl ((s : Nat) : Int) : Key), AV.int ((w : Nat) : Int))] = dN en [(s, w)] := (rfl)
theorem dN_one0 {s : Nat} : [((.inl ((s : Nat) : Int) : Key), AV.int 0)] = dN en [(s, 0)] := (rfl)
/-! xs[a:b] -/
def kOpt2 (x : AV) (lo : Option Int) (hi : Option Int) (A : AH) : Res AV := match x with
  | .tup xs => .ok (.tup (cutA xs lo hi)) A
  | .str z => if z.length < big then .ok (.str (cutS z lo hi)) A else .er
  | _ => match seqAt A x with
    | some xs => .ok (.obj A.length) (A ++ [.lst (cutA xs lo hi)])
    | none => .er
def kSl2 (ρ : Rho) (x : AV) (fh : FO) (lo : Option Int) (A : AH) : Res AV := (fh ρ A).bind (kOpt2 x lo)
def kSl (ρ : Rho) (fl fh : FO) (x : AV) (A : AH) : Res AV := (fl ρ A).bind (kSl2 ρ x fh)
theorem x_slice {fa : FE} {fl fh : FO} : fSlice fa fl fh ρ A = (fa ρ A).bind (kSl ρ fl fh) := (rfl)
theorem a_sl {fl fh : FO} : kSl ρ fl fh x A = (fl ρ A).bind (kSl2 ρ x fh) := (rfl)
theorem a_sl2 {fh : FO} {lo : Option Int} : kSl2 ρ x fh lo A = (fh ρ A).bind (kOpt2 x lo) := (rfl)
theorem x_onone : foNone ρ A = .ok none A := (rfl)
def kOs (x : AV) (A : AH) : Res (Option Int) := match x with
  | .int i => .ok (some i) A
  | _ => .er
theorem x_osome {f : FE} : foSome f ρ A = (f ρ A).bind kOs := (rfl)
theorem a_os : kOs (.int i) A = .ok (some i) A := (rfl)
theorem sl_tup {lo hi : Option Int} : kOpt2 (.tup xs) lo hi A = .ok (.tup (cutA xs lo hi)) A := (rfl)
def slO (o : Option (List AV)) (lo hi : Option Int) (A : AH) : Res AV := match o with
  | some xs => .ok (.obj A.length) (A ++ [.lst (cutA xs lo hi)])
  | none => .er
theorem sl_obj {lo hi : Option Int} : kOpt2 (.obj n) lo hi A = slO (lstO A[n]?) lo hi A := by
  show (match seqAt A (.obj n) with | some xs => Res.ok (AV.obj A.length) (A ++ [AO.lst (cutA xs lo hi)]) | none => Res.er) = _
  have : seqAt A (.obj n) = lstO A[n]? := by
    show (match A[n]? with | some (.lst xs) => some xs | _ => none) = _
    unfold lstO
    rcases A[n]? with _ | o
    · rfl
    · cases o <;> rfl
  rw [this]
  unfold slO
  cases lstO A[n]? <;> rfl
theorem slO_some {lo hi : Option Int} : slO (some xs) lo hi A = .ok (.obj A.length) (A ++ [.lst (cutA xs lo hi)]) := (rfl)
theorem cut_take : cutA xs none (some ((k : Nat) : Int)) = xs.take k := by
  unfold cutA HT.sIx
  simp only
  rw [if_neg (by omega), Int.toNat_natCast, List.drop_zero, Nat.sub_zero]
  by_cases h : k ≤ xs.length
  · rw [Nat.min_eq_left h]
  · rw [Nat.min_eq_right (by omega), List.take_of_length_le (Nat.le_refl _), List.take_of_length_le (by omega)]
theorem cut_drop : cutA xs (some ((k : Nat) : Int)) none = xs.drop k := by
  unfold cutA HT.sIx
  simp only
  rw [if_neg (by omega), Int.toNat_natCast]
  by_cases h : k ≤ xs.length
  · rw [Nat.min_eq_left h, List.take_of_length_le (by rw [List.length_drop]; exact Nat.le_refl _)]
  · rw [Nat.min_eq_right (by omega), Nat.sub_self, List.take_zero, List.drop_eq_nil_of_le (by omega)]
theorem cut_map {α : Type} {f : α → AV} {l : List α} {lo hi : Option Int} : cutA (l.map f) lo hi = ((l.drop (HT.sIx l.length 0 lo)).take (HT.sIx l.length l.length hi - HT.sIx l.length 0 lo)).map f := by
  unfold cutA
  rw [List.length_map, ← List.map_drop, ← List.map_take]
/-! dict comprehensions -/
/-- a dict comprehension over data, keys that are places -/
theorem rp_dcomp {fi : FI} {g : FG} {ft : FT} {fk fv : FE} {own : List Nat} {ρ : Rho} {A A1 : AH} {K : AV → AH → Prop} {X : Ex → AH → Prop} {β γ : Type} [Enc γ] (ys : List β) (en' : β → AV) (hi : fi ρ A = .ok (.fix (ys.map en')) A1) (hl : ys.length < 1000000) (ki : β → Nat) (vi : β → γ)
    (hs : ∀ y ∈ ys, ∀ (L : List (Nat × γ)), elemC g ft (f2 (fun a b A => .ok (.tup [a, b]) A) fk fv) (en' y) (wipeR ρ own) (A1 ++ [.dK (dN en L)]) = .ok (some (.tup [.int (ki y : Nat), en (vi y)])) (A1 ++ [.dK (dN en L)]))
    (hf : K (.obj A1.length) (A1 ++ [.dK (dN en (ys.foldl (fun L y => pt L (ki y) (vi y)) []))])) : RP (fDComp fi g ft fk fv own ρ A) K X := by
  unfold fDComp
  rw [hi]
  show RP (dcF g ft fk fv A1.length (wipeR ρ own) (ys.map en') (A1 ++ [.dK []])) K X
  have step : ∀ (zs : List β) (L : List (Nat × γ)), L.length + zs.length < 1000000 → (∀ y ∈ zs, y ∈ ys) → K (.obj A1.length) (A1 ++ [.dK (dN en (zs.foldl (fun L y => pt L (ki y) (vi y)) L))]) →
      RP (dcF g ft fk fv A1.length (wipeR ρ own) (zs.map en') (A1 ++ [.dK (dN en L)])) K X := by
    intro zs
    induction zs with
    | nil => exact fun L _ _ h => h
    | cons y zs ih =>
      intro L hl hm hk
      rw [List.map_cons]
      have h1 := hs y (hm y List.mem_cons_self) L
      unfold dcF turnC
      unfold elemC at h1
      cases e : g (en' y) (wipeR ρ own) (A1 ++ [.dK (dN en L)]) with
      | nx ρ1 A1' =>
        rw [e] at h1
        simp only at h1 ⊢
        cases e2 : ft ρ1 A1' with
        | ok b A2 =>
          rw [e2] at h1
          simp only [Res.bind_ok] at h1 ⊢
          cases b with
          | false => simp at h1
          | true =>
            simp only [if_true] at h1 ⊢
            unfold f2 at h1
            unfold pushD
            cases e3 : fk ρ1 A2 with
            | ok u A3 =>
              rw [e3] at h1
              simp only [Res.bind_ok] at h1 ⊢
              cases e4 : fv ρ1 A3 with
              | ok w A4 =>
                rw [e4] at h1
                simp only [Res.bind_ok] at h1 ⊢
                injection h1 with h2 h3
                injection h2 with h2
                injection h2 with h2
                injection h2 with h4 h5
                injection h5 with h5 _
                subst h3 h4 h5
                simp only [keyOf, h_at0, List.getElem?_cons_zero]
                have hl' : (dN en L).length < big := by
                  unfold dN
                  rw [List.length_map]
                  simp only [List.length_cons] at hl
                  show L.length < 1000000
                  omega
                rw [if_pos hl', h_set0, putA_dN]
                refine ih _ ?_ (fun z hz => hm z (List.mem_cons_of_mem _ hz)) hk
                simp only [List.length_cons] at hl
                unfold pt
                split
                · rw [List.length_map]; omega
                · rw [List.length_append]; simp only [List.length_cons, List.length_nil]; omega
              | exc _ _ => rw [e4] at h1; simp at h1
              | er => rw [e4] at h1; simp at h1
            | exc _ _ => rw [e3] at h1; simp at h1
            | er => rw [e3] at h1; simp at h1
        | exc _ _ => rw [e2] at h1; simp at h1
        | er => rw [e2] at h1; simp at h1
      | _ => rw [e] at h1; simp at h1
  exact step ys [] (by simpa using hl) (fun _ h => h) hf
/-! comprehensions that leave the heap as it is -/
/-- a comprehension over data whose items change nothing -/
theorem comp_pure {fi : FI} {g : FG} {ft : FT} {fe : FE} {own : List Nat} {ρ : Rho} {A A1 : AH} {β : Type} (ys : List β) (en' : β → AV) (hi : fi ρ A = .ok (.fix (ys.map en')) A1) (hl : ys.length < 1000000) (f : β → Option AV)
    (hs : ∀ y ∈ ys, ∀ zs : List β, elemC g ft fe (en' y) (wipeR ρ own) (A1 ++ [.lst (zs.filterMap f)]) = .ok (f y) (A1 ++ [.lst (zs.filterMap f)])) :
    fComp fi g ft fe own ρ A = .ok (.obj A1.length) (A1 ++ [.lst (ys.filterMap f)]) := by
  have key : RP (fComp fi g ft fe own ρ A) (fun v B => v = .obj A1.length ∧ B = A1 ++ [.lst (ys.filterMap f)]) (fun _ _ => False) := by
    refine rp_comp ys en' hi hl (fun i acc B => acc = (ys.take i).filterMap f ∧ B = A1 ++ [.lst acc]) ⟨rfl, rfl⟩ (fun j y acc B e _ h => ?_) (fun acc B _ h => ?_)
    · obtain ⟨h1, rfl⟩ := h
      rw [h1, hs y (List.mem_of_getElem? e) _]
      rw [← h1]
      refine ⟨by rw [h_at0]; rfl, ?_, by rw [h_set0]; rfl⟩
      rw [List.take_add_one, e, List.filterMap_append, ← h1]
      cases hf : f y with
      | none => simp [addO, hf]
      | some z => simp [addO, hf]
    · rw [List.take_length] at h
      exact ⟨rfl, by rw [h.2, h.1]⟩
  cases e : fComp fi g ft fe own ρ A with
  | ok v B =>
    rw [e] at key
    obtain ⟨rfl, rfl⟩ := key
    rfl
  | exc _ _ => rw [e] at key; exact key.elim
  | er => rw [e] at key; exact key.elim
/-- the same over a list -/
theorem comp_pureL {fi : FI} {g : FG} {ft : FT} {fe : FE} {own : List Nat} {ρ : Rho} {A A1 : AH} {n : Nat} {fl : Nat → AV → AV} {β : Type} (ys : List β) (en' : β → AV) (hi : fi ρ A = .ok (.live n fl) A1) (hx : A1[n]? = some (.lst (ys.map en'))) (hl : ys.length < 1000000) (f : Nat → β → Option AV)
    (hs : ∀ i y, ys[i]? = some y → ∀ zs : List (β × Nat), elemC g ft fe (fl i (en' y)) (wipeR ρ own) (A1 ++ [.lst (zs.filterMap fun p => f p.2 p.1)]) = .ok (f i y) (A1 ++ [.lst (zs.filterMap fun p => f p.2 p.1)])) :
    fComp fi g ft fe own ρ A = .ok (.obj A1.length) (A1 ++ [.lst (ys.zipIdx.filterMap fun p => f p.2 p.1)]) := by
  have key : RP (fComp fi g ft fe own ρ A) (fun v B => v = .obj A1.length ∧ B = A1 ++ [.lst (ys.zipIdx.filterMap fun p => f p.2 p.1)]) (fun _ _ => False) := by
    refine rp_compL ys en' hi hl (fun i acc B => acc = (ys.zipIdx.take i).filterMap (fun p => f p.2 p.1) ∧ B = A1 ++ [.lst acc]) ⟨rfl, rfl⟩ (fun i acc B _ _ h => by rw [h.2]; exact h_get hx _) (fun j y acc B e _ h => ?_) (fun acc B _ h => ?_)
    · obtain ⟨h1, rfl⟩ := h
      rw [h1, hs j y e _]
      rw [← h1]
      refine ⟨by rw [h_at0]; rfl, ?_, by rw [h_set0]; rfl⟩
      have e1 : ys.zipIdx[j]? = some (y, j) := by
        rw [List.getElem?_zipIdx, e]
        simp
      rw [List.take_add_one, e1, List.filterMap_append, ← h1]
      cases hf : f j y with
      | none => simp [addO, hf]
      | some z => simp [addO, hf]
    · rw [List.take_of_length_le (by rw [List.length_zipIdx]; exact Nat.le_refl _)] at h
      exact ⟨rfl, by rw [h.2, h.1]⟩
  cases e : fComp fi g ft fe own ρ A with
  | ok v B =>
    rw [e] at key
    obtain ⟨rfl, rfl⟩ := key
    rfl
  | exc _ _ => rw [e] at key; exact key.elim
  | er => rw [e] at key; exact key.elim
theorem filterMap_all {β : Type} {γ : Type} [Enc γ] {f : β → γ} (l : List β) : l.filterMap (fun y => some (en (f y))) = (l.map f).map en := by
  induction l with
  | nil => rfl
  | cons x l ih => simp [ih]
theorem filterMap_some {β : Type} {p : β → Bool} {γ : Type} [Enc γ] {f : β → γ} (l : List β) : l.filterMap (fun y => if p y = true then some (en (f y)) else none) = ((l.filter p).map f).map en := by
  induction l with
  | nil => rfl
  | cons x l ih =>
    rw [List.map_map] at ih ⊢
    cases h : p x <;> simp [h] <;> exact ih
theorem nat_add1 {a : Nat} : ((a : Nat) : Int) + 1 = ((a + 1 : Nat) : Int) := (rfl)
theorem nat_1add {a : Nat} : 1 + ((a : Nat) : Int) = ((1 + a : Nat) : Int) := by omega
theorem nat_add {a b : Nat} : ((a : Nat) : Int) + ((b : Nat) : Int) = ((a + b : Nat) : Int) := (rfl)
theorem nat_mod2 {a : Nat} : ((a : Nat) : Int) % 2 = ((a % 2 : Nat) : Int) := (rfl)
theorem nat_mul {a b : Nat} : ((a : Nat) : Int) * ((b : Nat) : Int) = ((a * b : Nat) : Int) := (rfl)
theorem wipe_nil : wipeR ρ [] = ρ := (rfl)
theorem wipe_cons {vs : List Nat} {q : Nat} : wipeR ρ (q :: vs) = (wipeR ρ vs).set q none := (rfl)
end
end Dn

set_option maxRecDepth 100000
set_option maxHeartbeats 1000000
/-! Dn, part Ya: walks over a tuple or a list alike; order of pairs. -/
namespace Dn
open PySem L2 PyProof.Rows Enc
/-- x is a tuple or a list of these -/
inductive SeqIs (A : AH) (x : AV) (xs : List AV) : Prop
  | tup (h : x = .tup xs) : SeqIs A x xs
  | lst (n : Nat) (h : x = .obj n) (hA : A[n]? = some (.lst xs)) : SeqIs A x xs
section
variable {A A1 B : AH} {x : AV} {xs : List AV} {ρ : Rho} {Q : Ps} {β : Type} {g : FG} {b : FS} {f : FE} {K : AV → AH → Prop} {X : Ex → AH → Prop}
theorem SeqIs.app (h : SeqIs A x xs) (B : AH) : SeqIs (A ++ B) x xs := by
  cases h with
  | tup h => exact .tup h
  | lst n h hA => exact .lst n h (h_get hA B)
theorem SeqIs.refl : SeqIs A (.tup xs) xs := .tup rfl
theorem SeqIs.len (h : SeqIs A x xs) : gLen [x] A = .ok (.int (xs.length : Nat)) A := by
  cases h with
  | tup h => subst h; rfl
  | lst n h hA => subst h; rw [gLen_lst hA]
theorem SeqIs.isl (h : SeqIs A x xs) : kIsi2 "list" "tuple" x A = .ok (.bl true) A := by
  cases h with
  | tup h => subst h; rfl
  | lst n h hA => subst h; rw [kIsi2_obj, hA]; rfl
theorem SeqIs.tuple (h : SeqIs A x xs) : gTuple [x] A = .ok (.tup xs) A := by
  cases h with
  | tup h => subst h; rfl
  | lst n h hA => subst h; rw [gTuple_lst hA]
theorem SeqIs.ix (h : SeqIs A x xs) {i : Int} : gIx x (.int i) A = resI (atI xs i) A := by
  cases h with
  | tup h => subst h; exact gIx_tup
  | lst n h hA => subst h; exact gIx_lst hA
theorem wp_enum (ys : List β) (e : β → AV) (hf : f ρ A = .ok x A1) (h : SeqIs A1 x (ys.map e)) (hl : ys.length < 1000000) (I : Nat → Rho → AH → Prop) (h0 : I 0 ρ A1) (hx : ∀ i ρ A, I i ρ A → SeqIs A x (ys.map e))
    (hs : ∀ i y ρ A, ys[i]? = some y → I i ρ A → WP ((g (pairI i (e y)) ρ A).at b) (turnP (I (i + 1)) Q)) (hfin : ∀ ρ A, I ys.length ρ A → Q.nx ρ A) : WP (fFor (fEnum f) g b ρ A) Q := by
  cases h with
  | tup h =>
    subst h
    refine wp_for (A1 := A1) ys.zipIdx (fun p => pairI p.2 (e p.1)) (by rw [x_enum, hf, Res.bind_ok, kEnum_tup, enumF_map]) I h0 (fun i y ρ A ey hI => ?_) fun ρ A hI => hfin ρ A (by rw [List.length_zipIdx] at hI; exact hI)
    rw [List.getElem?_zipIdx] at ey
    cases e2 : ys[i]? with
    | none => rw [e2] at ey; cases ey
    | some z =>
      rw [e2] at ey
      cases ey
      simp only [Nat.zero_add]
      exact hs i z ρ A e2 hI
  | lst n h hA =>
    subst h
    exact wp_forL ys e (by rw [x_enum, hf, Res.bind_ok, kEnum_obj, hA, kEnumO_lst]) hl I h0 (fun i ρ A _ hI => by
      cases hx i ρ A hI with
      | tup h => cases h
      | lst m h hB => cases h; exact hB) hs hfin
theorem wp_list (ys : List β) (e : β → AV) (hf : f ρ A = .ok x A1) (h : SeqIs A1 x (ys.map e)) (hl : ys.length < 1000000) (I : Nat → Rho → AH → Prop) (h0 : I 0 ρ A1) (hx : ∀ i ρ A, I i ρ A → SeqIs A x (ys.map e))
    (hs : ∀ i y ρ A, ys[i]? = some y → I i ρ A → WP ((g (e y) ρ A).at b) (turnP (I (i + 1)) Q)) (hfin : ∀ ρ A, I ys.length ρ A → Q.nx ρ A) : WP (fFor (fList f) g b ρ A) Q := by
  cases h with
  | tup h =>
    subst h
    exact wp_for (A1 := A1) ys e (by rw [x_list, hf, Res.bind_ok, kList_tup]) I h0 hs hfin
  | lst n h hA =>
    subst h
    exact wp_forL ys e (by rw [x_list, hf, Res.bind_ok, kList_obj, hA, kListO_lst]) hl I h0 (fun i ρ A _ hI => by
      cases hx i ρ A hI with
      | tup h => cases h
      | lst m h hB => cases h; exact hB) hs hfin
/-- a comprehension that changes nothing, over a tuple or a list -/
theorem comp_seq {ft : FT} {fe : FE} {own : List Nat} (ys : List β) (e : β → AV) (hf : f ρ A = .ok x A1) (h : SeqIs A1 x (ys.map e)) (hl : ys.length < 1000000) (o : β → Option AV)
    (hs : ∀ y ∈ ys, ∀ zs : List β, elemC g ft fe (e y) (wipeR ρ own) (A1 ++ [.lst (zs.filterMap o)]) = .ok (o y) (A1 ++ [.lst (zs.filterMap o)])) : fComp (fList f) g ft fe own ρ A = .ok (.obj A1.length) (A1 ++ [.lst (ys.filterMap o)]) := by
  cases h with
  | tup h =>
    subst h
    exact comp_pure ys e (by rw [x_list, hf, Res.bind_ok, kList_tup]) hl o hs
  | lst n h hA =>
    subst h
    have := comp_pureL (fi := fList f) (ρ := ρ) (A := A) (g := g) (ft := ft) (fe := fe) (own := own) (fl := fun _ y => y) ys e (by rw [x_list, hf, Res.bind_ok, kList_obj, hA, kListO_lst]) hA hl (fun _ y => o y) fun i y ey zs => by
      have e2 : (zs.filterMap fun p => o p.1) = (zs.map (·.1)).filterMap o := by rw [List.filterMap_map]; rfl
      rw [e2]
      exact hs y (List.mem_of_getElem? ey) _
    rw [this]
    congr 4
    have e1 : ∀ (l : List β) (k : Nat), (l.zipIdx k).filterMap (fun p => o p.1) = l.filterMap o := by
      intro l
      induction l with
      | nil => intro k; rfl
      | cons y l ih =>
        intro k
        rw [List.zipIdx_cons, List.filterMap_cons, List.filterMap_cons, ih]
    exact e1 ys 0
end
theorem cons_at {α : Type} {x : α} {l : List α} {k : Nat} : (x :: l)[1 + k]? = l[k]? := by rw [Nat.add_comm, List.getElem?_cons_succ]
theorem cons_set {α : Type} {x y : α} {l : List α} {k : Nat} : (x :: l).set (1 + k) y = x :: l.set k y := by rw [Nat.add_comm, List.set_cons_succ]
theorem cons_at2 {α : Type} {x y : α} {l : List α} {k : Nat} : (x :: y :: l)[2 + k]? = l[k]? := by rw [Nat.add_comm, List.getElem?_cons_succ, List.getElem?_cons_succ]
theorem cons_set2 {α : Type} {x y z : α} {l : List α} {k : Nat} : (x :: y :: l).set (2 + k) z = x :: y :: l.set k z := by rw [Nat.add_comm, List.set_cons_succ, List.set_cons_succ]
theorem cons_at3 {α : Type} {x y z : α} {l : List α} {k : Nat} : (x :: y :: z :: l)[3 + k]? = l[k]? := by rw [Nat.add_comm, List.getElem?_cons_succ, List.getElem?_cons_succ, List.getElem?_cons_succ]
theorem cons_set3 {α : Type} {x y z u : α} {l : List α} {k : Nat} : (x :: y :: z :: l).set (3 + k) u = x :: y :: z :: l.set k u := by rw [Nat.add_comm, List.set_cons_succ, List.set_cons_succ, List.set_cons_succ]
theorem cons_atA {α : Type} {x : α} {l : List α} {a k : Nat} : (x :: l)[a + (k + 1)]? = l[a + k]? := by rw [← Nat.add_assoc, List.getElem?_cons_succ]
theorem cons_setA {α : Type} {x y : α} {l : List α} {a k : Nat} : (x :: l).set (a + (k + 1)) y = x :: l.set (a + k) y := by rw [← Nat.add_assoc, List.set_cons_succ]
theorem cons_atB {α : Type} {x : α} {l : List α} {a b k : Nat} : (x :: l)[a + (b + (k + 1))]? = l[a + (b + k)]? := by rw [← Nat.add_assoc b, ← Nat.add_assoc, List.getElem?_cons_succ]
theorem cons_setB {α : Type} {x y : α} {l : List α} {a b k : Nat} : (x :: l).set (a + (b + (k + 1))) y = x :: l.set (a + (b + k)) y := by rw [← Nat.add_assoc b, ← Nat.add_assoc, List.set_cons_succ]
/-! pairs in order -/
section
variable {A : AH} {a b c d : Int}
theorem cmp_pair {f : PyData → PyData → Bool} : gCmpD f (.tup [.int a, .int b]) (.tup [.int c, .int d]) A = .ok (.bl (f (.tuple [.int a, .int b]) (.tuple [.int c, .int d]))) A := rfl
theorem gGeA_pair : gGeA (.tup [.int a, .int b]) (.tup [.int c, .int d]) A = .ok (.bl (!decide (a < c ∨ (a = c ∧ b < d)))) A := by
  have h : gGeA (.tup [.int a, .int b]) (.tup [.int c, .int d]) A = gCmpD (fun d e => !PySem.W.dataLt d e) (.tup [.int a, .int b]) (.tup [.int c, .int d]) A := rfl
  rw [h, cmp_pair, PySem.W.dataLt_ii]
theorem gLtA_pair : gLtA (.tup [.int a, .int b]) (.tup [.int c, .int d]) A = .ok (.bl (decide (a < c ∨ (a = c ∧ b < d)))) A := by
  have h : gLtA (.tup [.int a, .int b]) (.tup [.int c, .int d]) A = gCmpD PySem.W.dataLt (.tup [.int a, .int b]) (.tup [.int c, .int d]) A := rfl
  rw [h, cmp_pair, PySem.W.dataLt_ii]
end
/-! sorted pairs of places -/
def leNN (p q : Nat × Nat) : Bool := decide (p.1 < q.1) || (decide (p.1 = q.1) && decide (p.2 ≤ q.2))
def insNN (x : Nat × Nat) : List (Nat × Nat) → List (Nat × Nat)
  | [] => [x]
  | y :: ys => if leNN x y = true then x :: y :: ys else y :: insNN x ys
def srtNN : List (Nat × Nat) → List (Nat × Nat)
  | [] => []
  | x :: xs => insNN x (srtNN xs)
def cNN (p : Nat × Nat) : Int × Int := (((p.1 : Nat) : Int), ((p.2 : Nat) : Int))
theorem leP_cast (p q : Nat × Nat) : leP (cNN p) (cNN q) = leNN p q := by
  unfold leP leNN cNN
  simp only [Int.ofNat_lt, Int.ofNat_le, Int.natCast_inj]
theorem insP_cast (x : Nat × Nat) : ∀ l : List (Nat × Nat), insP (cNN x) (l.map cNN) = (insNN x l).map cNN
  | [] => rfl
  | y :: l => by
    rw [List.map_cons, insP, insNN, leP_cast, insP_cast x l]
    split <;> rfl
theorem srtP_cast : ∀ l : List (Nat × Nat), srtP (l.map cNN) = (srtNN l).map cNN
  | [] => rfl
  | x :: l => by rw [List.map_cons, srtP, srtNN, srtP_cast l, insP_cast]
theorem asP_pairs (l : List (Nat × Nat)) : mapO asP (l.map en) = some (l.map cNN) := mapO_map (f := asP) (fun _ => rfl) l
theorem asI_pairs {p : Nat × Nat} {l : List (Nat × Nat)} : mapO asI ((p :: l).map en) = none := rfl
theorem sortO_pairs {A : AH} {l : List (Nat × Nat)} (h : l ≠ []) : sortO (some (l.map en)) A = .ok (.obj A.length) (A ++ [.lst ((srtNN l).map en)]) := by
  cases l with
  | nil => exact absurd rfl h
  | cons p l =>
    unfold sortO
    simp only [asI_pairs, asP_pairs, srtP_cast, List.map_map]
    rfl
/-- of none as well -/
theorem sortO_pairs' {A : AH} {l : List (Nat × Nat)} : sortO (some (l.map en)) A = .ok (.obj A.length) (A ++ [.lst ((srtNN l).map en)]) := by
  by_cases h : l = []
  · subst h
    rfl
  · exact sortO_pairs h
def ltNN (p q : Nat × Nat) : Prop := p.1 < q.1 ∨ (p.1 = q.1 ∧ p.2 < q.2)
theorem insNN_perm (x : Nat × Nat) : ∀ l : List (Nat × Nat), (insNN x l).Perm (x :: l)
  | [] => .refl _
  | y :: l => by
    unfold insNN
    split
    · exact .refl _
    · exact ((insNN_perm x l).cons y).trans (.swap x y l)
theorem srtNN_perm : ∀ l : List (Nat × Nat), (srtNN l).Perm l
  | [] => .refl _
  | x :: l => (insNN_perm x _).trans ((srtNN_perm l).cons x)
theorem insNN_srt (x : Nat × Nat) : ∀ {l : List (Nat × Nat)}, l.Pairwise ltNN → x ∉ l → (insNN x l).Pairwise ltNN
  | [], _, _ => by simp [insNN]
  | y :: l, h, hx => by
    unfold insNN
    rw [List.pairwise_cons] at h
    have ne : x ≠ y := fun e => hx (by rw [e]; exact List.mem_cons_self)
    have tot : leNN x y = true → ltNN x y := fun h => by
      unfold leNN at h
      unfold ltNN
      simp at h
      rcases h with h | ⟨h1, h2⟩
      · exact .inl h
      · refine .inr ⟨h1, ?_⟩
        have : x.2 ≠ y.2 := fun e => ne (Prod.ext h1 e)
        omega
    have tot2 : ¬ leNN x y = true → ltNN y x := fun h => by
      unfold leNN at h
      unfold ltNN
      simp at h
      omega
    split
    · rename_i hle
      rw [List.pairwise_cons]
      refine ⟨fun z hz => ?_, List.pairwise_cons.mpr h⟩
      rw [List.mem_cons] at hz
      rcases hz with rfl | hz
      · exact tot hle
      · have h1 := tot hle
        have h2 := h.1 z hz
        unfold ltNN at *
        omega
    · rename_i hle
      rw [List.pairwise_cons]
      refine ⟨fun z hz => ?_, insNN_srt x h.2 fun h => hx (List.mem_cons_of_mem _ h)⟩
      have := (insNN_perm x l).mem_iff.mp hz
      rw [List.mem_cons] at this
      rcases this with rfl | hz
      · exact tot2 hle
      · exact h.1 z hz
theorem srtNN_srt : ∀ {l : List (Nat × Nat)}, l.Nodup → (srtNN l).Pairwise ltNN
  | [], _ => .nil
  | x :: l, h => by
    rw [List.nodup_cons] at h
    exact insNN_srt x (srtNN_srt h.2) fun hx => h.1 ((srtNN_perm l).mem_iff.mp hx)
end Dn

set_option maxRecDepth 100000
set_option maxHeartbeats 1000000
/-! Dn, part Z: repr. Its answer hangs on what is being shown already: nothing is, where a law begins, and no def of a law is called from within a showing.
FnG: a def's promise where nothing is being shown. -/
namespace Dn
open PySem PySem.Spec L2 PyProof.Rows

/-- a promise where nothing is being shown -/
structure FnG (P : Program) (w : World) (K : PySem.W.Frag) (mg : Str → Option Value) (base : Heap) (T : CXT) (k : Nat) (fa : Addr) (fd : FuncData) (ps : List Str) (pr : Sp) : Prop where
  long : ∀ xs H Q E, pr xs H Q E → xs.length = ps.length
  go : ∀ (B : Around) (out : List Env) (sh : Shared) (H : Hp) (gs : Args) (ws : List Value) (xs : List V) (Q : VK) (E : XK), B.guards = some [] → Room k B → Env0 P w K mg base B out sh H →
    BindsTo sh fd gs (ps.zip ws) → Vals xs ws → pr xs H Q E → codeAny (model P w) B (.call (.ref fa) gs) (CR T out P w H sh Q E) sh
section
variable {P : Program} {w : World} {K : PySem.W.Frag} {mg : Str → Option Value} {base : Heap} {T : CXT}
theorem FnG.imp {k : Nat} {fa : Addr} {fd : FuncData} {ps : List Str} {pr pr' : Sp} (F : FnG P w K mg base T k fa fd ps pr) (h : ∀ xs H Q E, pr' xs H Q E → pr xs H Q E) : FnG P w K mg base T k fa fd ps pr' :=
  ⟨fun xs H Q E q => F.long xs H Q E (h _ _ _ _ q), fun B out sh H gs ws xs Q E hg hr he hb hv hs => F.go B out sh H gs ws xs Q E hg hr he hb hv (h _ _ _ _ hs)⟩
theorem fnG_of {k : Nat} {fa : Addr} {nm qu : Str} {pms : Arguments} {sts : List Stmt} {sc : Scope} {d1 d2 d3 d4 d5 d6 oc : Value} {an od : Option Addr} {osl : Array (Option Value)} {N ps : List Str} {pr : Sp}
    (lk : K.lookup fa = some ⟨oc, od, .func (PySem.W.fnOf nm qu pms sts sc d1 d2 d3 d4 an d5 d6), osl⟩) (hcd : PySem.W.codeIn K d5 qu = true) (S : FnScope N ps sc) (len : ∀ xs H Q E, pr xs H Q E → xs.length = ps.length)
    (hb : ∀ (B : Around) (out : List Env) (sh : Shared) (H : Hp) (xs : List V) (Q : VK) (E : XK), B.guards = some [] → Room k (B.deeper (envOfC qu sc sh.heap.objs.size fa d5)) → pr xs H Q E →
      ∃ t, PSs (cxOf T P w K mg base N qu sc fa d5 B out sh H E) sts t ∧ t { nx := fun _ H' => Q .non H', rt := Q } (start N xs) H) :
    FnG P w K mg base T (k + 1) fa (PySem.W.fnOf nm qu pms sts sc d1 d2 d3 d4 an d5 d6) ps pr := by
  refine ⟨len, ?_⟩
  intro B out sh H gs ws xs Q E hg hr z hbt rv hpr
  have hl := len _ _ _ _ hpr
  have inK : K.In sh.heap := z.mod.kin.keeps (fun b o e => (z.bs b o e).1)
  have nl : sh.heap.NoLimit := z.mod.nolimit.keeps (fun b o e => (z.bs b o e).1)
  have kinds : ∀ y ∈ ps.zip ws, sc.names.lookup y.1 = some .local ∨ (sc.names.lookup y.1 = some .cell ∧ ((cellsFrom (sh.heap.objs.size + 1) sc.names []).lookup y.1).isSome = true) := by
    rintro ⟨a, u⟩ hy
    cases S.par a (List.of_mem_zip hy).1 with
    | inl q => exact Or.inl q
    | inr q => exact Or.inr ⟨q, PySem.W.cellsFrom_some _ _ _ (Or.inl q)⟩
  refine codeAny_call_function hr.depth (inK _ _ lk) rfl S.co S.gen rfl (PySem.W.codeRec_of inK hcd) (hbt _ _ _ _ ?_)
  refine wpAny_newFunctionEnv_cells S.kind kinds ?_
  intro env he s1 x
  subst he
  refine And.intro (nl.keeps x.toInCall.keep) (codeAny_func ?_)
  obtain ⟨t, ht, hq⟩ := hb B out sh H xs Q E hg (hr.deeper _) hpr
  have J0 : Inv (cxOf T P w K mg base N qu sc fa d5 B out sh H E) [] (start N xs) H s1 := inv_start S hr.hd z hl rv x
  refine wpAny_mono (ht.run [] s1 (start N xs) H _ J0 hq) ?_ (fun e s' hs => hs)
  intro fl s' hs
  cases fl with
  | next =>
    obtain ⟨σ', H', J, q⟩ := hs
    exact ⟨V.non, H', J.os, J.bare, J.base, J.hok, (rfl : Value.none = Value.none), q⟩
  | ret u =>
    obtain ⟨v, σ', H', J, rv, q⟩ := hs
    exact ⟨v, H', J.os, J.bare, J.base, J.hok, rv, q⟩
  | cont =>
    obtain ⟨σ', H', J, q⟩ := hs
    exact (show False from q).elim
  | brk =>
    obtain ⟨σ', H', J, q⟩ := hs
    exact (show False from q).elim
end
/-- a call of such a def -/
theorem pe_callG {X : Cx} {k : Nat} {fa : Addr} {fd : FuncData} {ps : List Str} {pr : Sp} {E : L2.St → XK} {x : Str} {p pos : Pos} {e : Expr} {es : List Expr} {t : TA} (F : FnG X.prog X.w X.K X.mg X.base (L2.CX X.prog X.w) k fa fd ps pr) (hgu : X.A.guards = some []) (hr : Room k X.A) (hg : Gl X x) (hm : X.mg x = some (.ref fa)) (hk : PySem.W.keepIn X.K (.ref fa) = true)
    (hb : Binds X.K fd ps []) (hx : ∀ σ, PassesAt (L2.CX X.prog X.w) X σ (E σ)) (ha : PA X (e :: es) t) (hdb : (x == ("__debug__" : Str)) = false) (he : starEach (e :: es) X.env = (false, eval e X.env) :: starEach es X.env) (hpl : (backTo pos (starEach es X.env)).any (·.1) = false) :
    PE X (.Call (.Name x p) (e :: es) [] pos) (tCallS pr E t) := by
  refine ⟨?_⟩
  intro pins s σ H Q I h
  refine wpAny_Call_Name_kw (ld_glob I hg hm ?_ hdb)
  refine PySem.W.callWith_K (h₀ := X.base) I.ok.mod.kin hk (thn (ha.run pos pins s σ H _ I h) ?_) he hpl
  rintro us s1 ⟨vs, H1, I1, r, q⟩
  refine ⟨I1.kIn, ?_⟩
  have hl : us.length = ps.length := r.length.symm.trans (F.long _ _ _ _ q)
  have bt := hb s1 us I1.kIn (by rw [List.append_nil]; exact hl)
  rw [List.append_nil] at bt
  refine wpAny_call (codeAny_mono (F.go X.A X.stack s1 H1 ⟨us, []⟩ us vs Q (E σ) hgu hr I1.env0 bt r q) ?_)
  intro r s' hq
  cases r with
  | ok fl =>
    cases fl with
    | ret u => exact I1.after hq
    | next => exact (show False from hq).elim
    | brk => exact (show False from hq).elim
    | cont => exact (show False from hq).elim
  | error e => exact hx σ pins H1 s1 e s' I1 hq
/-! ### repr -/
def topI : PyData → Bool
  | .int i => decide (i.natAbs.log2 < 1920)
  | _ => true
def okR (d : PyData) : Bool := topI d && d.showable && !d.hasDict && d.leavesShort 100 && decide (d.bulk < 20000) && decide (d.depth ≤ 16)
def rRepr (K : PySem.W.Frag) : List V → Hp → VK → Prop := fun vs H Q => ∃ v d, vs = [v] ∧ Dp K H v d ∧ okR d = true ∧ Q (.str d.shown) H
theorem cr_repr {X : Cx} (hg : X.A.guards = some []) (hu : X.A.units + 64 < cLine) : CallR X (.builtin "repr") (rRepr X.K) := by
  intro pins s σ H xs us Q I r h
  obtain ⟨v, d, rfl, hd, ho, q⟩ := h
  unfold okR at ho
  simp only [Bool.and_eq_true, decide_eq_true_eq, Bool.not_eq_true'] at ho
  obtain ⟨⟨⟨⟨⟨h0, h1⟩, h2⟩, h3⟩, h4⟩, h5⟩ := ho
  have hsz : d.shown.length ≤ sizeLine := by
    have := PyData.shown_le_bulk 100 (by decide) d h3
    rw [sizeLine_eq]
    have h6 : (100 + 2) * d.bulk ≤ (100 + 2) * 20000 := Nat.mul_le_mul_left _ (by omega)
    omega
  obtain ⟨u, rfl, ru⟩ := vals1 r
  obtain ⟨as, rd⟩ := Dp.reads I d v u hd ru
  have fin : ∀ (h' : Heap) (t : Tok) (tk : Nat), (∀ b o, s.heap.get? b = some o → h'.get? b = some o) → EP X pins σ Q (.str d.shown t) { s with heap := h', toks := tk } := fun h' t tk hk => ⟨.str d.shown, H, I.kept hk, ⟨t, rfl⟩, q⟩
  have big : isDisplay d = true → wpAny (model X.prog X.w) X.A (call (.builtin "repr") [u]) (EP X pins σ Q) X.xe s := fun hdis => by
    obtain ⟨a, rfl⟩ := isRef_of_reads rd hdis
    exact repr_of_reads' rd h1 (fun z => by rw [h2] at z; cases z) hg (by omega) (fun _ _ e => e) (fun h' t tk hk => fin h' t tk hk) hsz
  cases rd with
  | none => exact PySem.P.repr_of_none (fin s.heap _ _ fun _ _ e => e)
  | bool b => exact PySem.P.repr_of_bool (fin s.heap _ _ fun _ _ e => e)
  | int i t => exact PySem.P.repr_of_int (of_decide_eq_true h0) (fin s.heap _ _ fun _ _ e => e)
  | str x t => exact PySem.P.repr_of_str (fin s.heap _ _ fun _ _ e => e) hsz
  | list a b c d => exact big rfl
  | tuple a b c d => exact big rfl
  | dict a b c d e => rw [PyData.hasDict] at h2; cases h2
def gRepr : FD := fun xs A => match xs with
  | [x] => match AV.toP A 16 x with
    | some d => if okR d = true then .ok (.str d.shown) A else .er
    | none => .er
  | _ => .er
section
variable {cf : Cfg} {X : Cx} {W : WX}
theorem ok_repr : CbOk cf (rRepr cf.K) gRepr := fun W m H A σ Q xs vs S r P => by
  unfold gRepr at P
  split at P
  · rename_i x
    obtain ⟨v, rfl, rv⟩ := r.one
    split at P
    · rename_i d hd
      split at P
      · rename_i ho
        exact ⟨v, d, rfl, toP_ok S 16 x d v hd rv, ho, P m H _ (Go.refl S) (.str _)⟩
      · exact P.elim
    · exact P.elim
  · exact P.elim
/-! == of two texts -/
def gEqS : F2 := fun x y A => match x, y with
  | .str i, .str j => .ok (.bl (decide (i = j))) A
  | _, _ => gEq x y A
def gNeS : F2 := fun x y A => match x, y with
  | .str i, .str j => .ok (.bl (!decide (i = j))) A
  | _, _ => gNe x y A
abbrev rEqS (K : PySem.W.Frag) : R2 := fun x y H Q => rEqD K x y H Q ∨ rEq x y H Q
abbrev rNeS (K : PySem.W.Frag) : R2 := fun x y H Q => rNeD K x y H Q ∨ rNe x y H Q
theorem op_eqS (hu : X.A.units + 64 < cLine) : OpR X (compareOp .Eq) (rEqS X.K) := fun pins s σ H x y u v Q I rx ry h => h.elim (op_eqD hu pins s σ H x y u v Q I rx ry) (op_eq pins s σ H x y u v Q I rx ry)
theorem op_neS (hu : X.A.units + 64 < cLine) : OpR X (compareOp .NotEq) (rNeS X.K) := fun pins s σ H x y u v Q I rx ry h => h.elim (op_neD hu pins s σ H x y u v Q I rx ry) (op_ne pins s σ H x y u v Q I rx ry)
theorem ok_eqS : R2Ok cf (rEqS cf.K) gEqS := fun W m H A σ Q x y v w S rx ry P => by
  unfold gEqS at P
  split at P
  · rename_i i j
    rw [rx.to_str, ry.to_str]
    right
    refine ⟨rfl, ?_⟩
    have := P m H (.bl (decide (i = j))) (Go.refl S) (.bl _)
    have e : (decide ((V.str i) = V.str j)) = decide (i = j) := by simp
    rw [e]
    exact this
  · exact .inl (ok_eq W m H A σ Q x y v w S rx ry P)
theorem ok_neS : R2Ok cf (rNeS cf.K) gNeS := fun W m H A σ Q x y v w S rx ry P => by
  unfold gNeS at P
  split at P
  · rename_i i j
    rw [rx.to_str, ry.to_str]
    right
    refine ⟨rfl, ?_⟩
    have := P m H (.bl (!decide (i = j))) (Go.refl S) (.bl _)
    have e : (decide ((V.str i) = V.str j)) = decide (i = j) := by simp
    rw [e]
    exact this
  · exact .inl (ok_ne W m H A σ Q x y v w S rx ry P)
end
/-! ### defs that hold where nothing is being shown -/
structure DfG (P : Program) (w : World) (cf : Cfg) (mg : Str → Option Value) (base : Heap) (x : Str) (st : Stmt) (ps : List Str) (k : Nat) (G : FD) : Prop where
  ex : ∃ fa fd, Fun cf.K x x st fa fd ∧ mg x = some (.ref fa) ∧ FnG P w cf.K mg base (L2.CX P w) k fa fd ps (spOf cf ps.length G)
theorem dfG_of {P : Program} {w : World} {cf : Cfg} {mg : Str → Option Value} {base : Heap} {x : Str} {st : Stmt} {N ps : List Str} {k : Nat} {fs : FS} {G : FD} (R : Raw cf mg x st) (S : FnScope N ps (defScope st)) (hG : RunOf N.length fs G)
    (hbody : ∀ (f : Addr) (cdv : Value) (A : Around) (outer : List Env) (s : Shared) (H : Hp) (E : XK), A.guards = some [] → Room k (A.deeper (envOfC x (defScope st) s.heap.objs.size f cdv)) →
      CB cf (cxOf (L2.CX P w) P w cf.K mg base N x (defScope st) f cdv A outer s H E) (WD E) (defBody st) fs) : DfG P w cf mg base x st ps (k + 1) G := by
  obtain ⟨fa, fd, F, hm⟩ := R.ex
  refine ⟨fa, fd, F, hm, ?_⟩
  obtain ⟨oc, od, kV, doc, pm, an, cdv, ct, osl, rfl, lk, hcd⟩ := F.ex
  refine fnG_of lk hcd S (fun vs H Q E h => ?_) fun B out sh H vs Q E hg hr h => ?_
  · obtain ⟨m, A, as, _, r, hl, _⟩ := h
    rw [← r.length, hl]
  · obtain ⟨t, p, o⟩ := (hbody fa cdv B out sh H E hg hr).ex
    obtain ⟨m, A1, as, S1, r, hl, P1⟩ := h
    exact ⟨t, p, o _ _ m H A1 _ S1 (loc_start r N.length) (body_ok hG S1 P1)⟩
theorem c_dfG {cf : Cfg} {X : Cx} {W : WX} {x : Str} {st : Stmt} {p pos : Pos} {e : Expr} {es : List Expr} {k j : Nat} {ps : List Str} {G : FD} {f : FA} (D : DfG X.prog X.w cf X.mg X.base x st ps k G) (hb : BindsT x x st ps) (hK : X.K = cf.K) (hgu : X.A.guards = some []) (hr : Room j X.A) (hj : k ≤ j) (tk : Takes X W) (ha : CA cf X W (e :: es) f)
    (hg : Gl X x := by rfl) (hdb : (x == ("__debug__" : Str)) = false := by decide) (he : starEach (e :: es) X.env = (false, eval e X.env) :: starEach es X.env := by rfl) (hpl : (backTo pos (starEach es X.env)).any (·.1) = false := by rfl) :
    CE cf X W (.Call (.Name x p) (e :: es) [] pos) (fCall ps.length G f) := by
  obtain ⟨fa, fd, F, hm, O⟩ := D.ex
  have hk := F.kp
  have hbn := F.binds hb
  rw [← hK] at O hk hbn
  obtain ⟨t, q, o⟩ := ha.ex
  have O' : FnG X.prog X.w X.K X.mg X.base (L2.CX X.prog X.w) j fa fd ps (spOf cf ps.length G) := ⟨O.long, fun B out sh H gs ws xs Q E h1 h2 => O.go B out sh H gs ws xs Q E h1 (h2.mono hj)⟩
  exact ⟨_, pe_callG O' hgu hr hg hm hk hbn (fun σ => passAt tk σ) q hdb he hpl, ok_call o⟩
end Dn

set_option maxRecDepth 100000
set_option maxHeartbeats 1000000
/-! Dn, part Za: a law's end where the law is a def that shows (FnG). -/
namespace Dn
open PySem PySem.Spec L2 PyProof.Rows
/-- the law's call, nothing being shown -/
theorem law_runG {P : Program} {w : World} {K : PySem.W.Frag} {mg mb : Str → Option Value} {T : CXT} {k : Nat} {fa q : Addr} {fd : FuncData} {x : Str} {pr : Sp} {sh : Shared} {vs : List Value} {ns : List Int}
    (KX : K.In sh.heap) (gns : sh.heap.Ns mainGlobals mg) (bns : sh.heap.Ns builtinsNs mb) (bb : ∀ x : Str, x ≠ "__name__" → mb x = bootBuiltins x) (nl : sh.heap.NoLimit) (gz : sh.gens = #[])
    (hq : sh.heap.get? q = some { cls := .type "list", data := .seq vs.toArray }) (hi : IntsAre vs ns) (hl : ns.length ≤ sizeLine) (hr : Room k callerA)
    (F : ∀ base : Heap, K.In base → base.Ns mainGlobals mg → FnG P w K mg base T k fa fd [x] pr) (hbt : ∀ (s : Shared) (u : Value), BindsTo s fd ⟨[u], []⟩ [(x, u)])
    (hpr : ∀ H : Hp, Only H → SqL K H q (ns.map V.int) → pr [.ref q] H (fun v _ => v = .bl true) fun _ _ _ => False) (hT : ∀ H e s', T [] H sh (fun _ _ _ => False) e s' → False) :
    codeAny (model P w) callerA (.call (.ref fa) ⟨[.ref q], []⟩) (fun r s' => r = .ok (.ret (.bool true)) ∧ OldK sh.heap s'.heap ∧ s'.os = sh.os ∧ AllBare s'.gens) sh := by
  have run : ∀ H : Hp, Only H → SqL K H q (ns.map V.int) → HOk P w H sh.heap → (∀ b, H b ≠ none → b = q ∧ K.lookup q = none) →
      codeAny (model P w) callerA (.call (.ref fa) ⟨[.ref q], []⟩) (fun r s' => r = .ok (.ret (.bool true)) ∧ OldK sh.heap s'.heap ∧ s'.os = sh.os ∧ AllBare s'.gens) sh := by
    intro H only sq hok hA
    have outside : ∀ {b : Addr}, (b = q → False) → H b = none := fun {b} z => by
      cases h : H b with
      | none => rfl
      | some u => exact (z (hA b (by rw [h]; exact fun z => nomatch z)).1).elim
    have dictOut : ∀ {b : Addr} {o : Obj} {es : Array DictEntry} {ep : Nat}, sh.heap.get? b = some o → o.data = .dict es ep → H b = none := by
      intro b o es ep e d
      refine outside fun z => ?_
      subst z
      rw [hq] at e
      cases e
      exact nomatch (show Data.seq vs.toArray _ = Data.dict es ep from d)
    have nsB : ∀ {b : Addr} {m : Str → Option Value}, sh.heap.Ns b m → (hidT sh.heap H).Ns b m := by
      rintro b m ⟨o, es, ep, e, d, r⟩
      exact ⟨o, es, ep, hidT_get e (dictOut e d), d, r⟩
    have inB : K.In (hidT sh.heap H) := by
      intro b o e
      refine hidT_get (KX b o e) ?_
      cases h : H b with
      | none => rfl
      | some u =>
        have z := hA b (by rw [h]; exact fun z => nomatch z)
        rw [z.1, z.2] at e
        cases e
    have md : Mod K mg (hidT sh.heap H) := by
      obtain ⟨mc, h1, h2⟩ := nl
      exact ⟨inB, nsB gns, ⟨mb, nsB bns, bb⟩, ⟨mc, nsB h1, h2⟩⟩
    have z0 : Env0 P w K mg (hidT sh.heap H) callerA [] sh H := by
      refine ⟨rfl, md, fun b o e => of_hidT e, Nat.le_of_eq (hidT_size _ _), trivial, fun b hb => ?_, hok, .of_eq gz⟩
      exact nomatch (show b ∈ ([] : List Addr) from hb)
    have go := (F _ inB (nsB gns)).go callerA [] sh H ⟨[.ref q], []⟩ [.ref q] [.ref q] _ _ rfl hr z0 (hbt sh (.ref q)) (.cons rfl .nil) (hpr H only sq)
    refine codeAny_mono go ?_
    intro r s' h
    cases r with
    | error e => exact (hT H e s' h).elim
    | ok fl =>
      cases fl with
      | cont => exact (show False from h).elim
      | brk => exact (show False from h).elim
      | next => exact (show False from h).elim
      | ret u =>
        obtain ⟨v, H', os, bare, un, hok', rv, e⟩ := h
        have e : v = .bl true := e
        subst e
        have e : u = Value.bool true := rv
        subst e
        refine ⟨rfl, OldK.of_keep ?_, os, bare⟩
        intro b o e
        cases hb : H b with
        | none => exact un.keep b o e hb (fun z => nomatch (show b ∈ ([] : List Addr) from z)) (fun z => nomatch z)
        | some u =>
          cases only b with
          | inl z => rw [hb] at z; cases z
          | inr z =>
            obtain ⟨ob, xs, z⟩ := z
            have z2 := un.frzs b ob _ z
            obtain ⟨e1, _⟩ := hok b _ z
            obtain ⟨e2, _⟩ := hok' b _ z2
            rw [e] at e1
            cases e1
            exact e2
  have rv := vals_ints hi
  have len := hi.length
  cases hk : K.lookup q with
  | none =>
    refine run (fun b => if b = q then some (.frz { cls := .type "list", data := .seq vs.toArray } (.lst (ns.map V.int))) else none) ?_ (Or.inl (Or.inr ⟨{ cls := .type "list", data := .seq vs.toArray }, if_pos rfl⟩)) ?_ ?_
    · intro b
      by_cases hb : b = q
      · exact Or.inr ⟨_, _, if_pos hb⟩
      · exact Or.inl (if_neg hb)
    · intro b u z
      by_cases hb : b = q
      · have z' := (if_pos hb).symm.trans z
        cases z'
        subst hb
        exact ⟨hq, by rw [List.length_map]; exact hl, vs, _, rv, hq⟩
      · have z' := (if_neg hb).symm.trans z
        cases z'
    · intro b z
      refine ⟨?_, hk⟩
      by_cases hb : b = q
      · exact hb
      · exact absurd (if_neg hb) z
  | some o =>
    have e := KX q o hk
    rw [hq] at e
    cases e
    refine run (fun _ => none) (fun _ => Or.inl rfl) (Or.inr ⟨_, vs.toArray, _, hk, rfl, rfl, rfl, ?_, ?_⟩) ?_ ?_
    · rw [List.size_toArray, len]
      exact hl
    · simpa using rv
    · intro b u z
      have z : (none : Option HO) = some u := z
      cases z
    · exact fun b z => absurd rfl z
theorem walk_ofG {l : PySem.W.OpenLaw} {n k : Nat} {q : Program} {loose : List Str} {XP : (Str → Option Value) → Heap → Prop} {YP : World → Heap → Prop} {d : DefRec} {K : Params → PySem.W.Frag} {T : World → CXT} {pr : World → Sp} {x : Str}
    (hn : l.most = some n) (hn2 : n ≤ sizeLine) (hdf : d.params.defaults = []) (hr : Room k callerA) (hY : ∀ (w : World) (h : Heap), YP w h → (K w.params).In h)
    (F : ∀ (w : World) (mg : Str → Option Value) (fa : Addr) (h : Heap), (K w.params).In h → h.Ns mainGlobals mg → mg d.name = some (.ref fa) →
      ∃ fd : FuncData, (∀ (s : Shared) (u : Value), BindsTo s fd ⟨[u], []⟩ [(x, u)]) ∧ ∀ base : Heap, (K w.params).In base → base.Ns mainGlobals mg → FnG l.prog w (K w.params) mg base (T w) k fa fd [x] (pr w))
    (hpr : ∀ (w : World) (H : Hp) (a : Addr) (ns : List Int), ns.length ≤ n → Only H → SqL (K w.params) H a (ns.map V.int) → pr w [.ref a] H (fun v _ => v = .bl true) fun _ _ _ => False)
    (hT : ∀ (w : World) (H : Hp) (s : Shared) (e : Value) (s' : Shared), T w [] H s (fun _ _ _ => False) e s' → False) : PySem.W.WalkO q loose XP YP l.row.toRowW d [] (fun f vs => PySem.call f vs) := by
  refine Att.attach_call hn hdf ?_
  intro w s₀ sh mg mb fa o pm cd doc a vs ns G Y ho hd hcd hmg hobj hints hlen hg
  have KX := hY w _ Y
  obtain ⟨fd, hbt, hF⟩ := F w mg fa _ KX G.T.g hmg
  exact law_runG KX G.T.g G.T.b G.T.builtins G.T.nolimit hg hobj hints (Nat.le_trans hlen hn2) hr hF hbt (fun H h1 h2 => hpr w H a ns hlen h1 h2) (fun H e s' => hT w H sh e s')
theorem law_ofG {P : Program} {w : World} {cf : Cfg} {mg : Str → Option Value} {base : Heap} {st : Stmt} {p : Str} {k : Nat} {G : FD} (D : DfG P w cf mg base "law" st [p] k G) (hG : ∀ ns : List Int, ns.length ≤ 63 → isTrueR (G [.scr ns] []) = true) (hT : cf.lam = [] := by rfl) :
    ∃ fa fd, mg "law" = some (.ref fa) ∧ Fun cf.K "law" "law" st fa fd ∧ FnG P w cf.K mg base (L2.CX P w) k fa fd [p] (spLaw cf.K) := by
  obtain ⟨fa, fd, F, hm, O⟩ := D.ex
  refine ⟨fa, fd, hm, F, O.imp fun vs H Q E h => ?_⟩
  obtain ⟨a, ns, rfl, hs, hl, q⟩ := h
  obtain ⟨A, e⟩ := isTrueR_ok (hG ns hl)
  refine ⟨[], [], [.scr ns], ⟨rfl, .nil, fun n a o h => by simp at h, by unfold Cfg.tab; rw [hT]; exact fun p hp => nomatch hp⟩, .cons (.scr hs) .nil, rfl, ?_⟩
  rw [e]
  intro m' H' v g r
  rw [RelA.to_bl r]
  exact q H'
end Dn

set_option maxRecDepth 100000
set_option maxHeartbeats 4000000
/-! Dn, part Xa: an own exception whose __init__ says super().__init__(text) and perhaps stores its argument: made. Any own classes above, ValueError or OverflowError above these. -/
namespace Dn
open PySem PyProof.Rows
section
open Builtin.ObjectAttr PySem.W
variable {prog : Program} {w : World} {A : Around} {K : Frag} {C : Addr} {B newId initId : String} {bmB : List Value}

/-- super().__init__(text) called: only e's args change -/
theorem xa_call {E : Value → Shared → Prop} {h : Heap} {g : Array GenState} {d : Drawn} {t : Nat} {os : OsState} {u x t0 : Addr} {c2 : Value} {rest : List Value} {Q : Value → Shared → Prop} (X : K.In h) (FB : ExcBaseFacts B newId initId bmB) (q : excInitIn K C bmB newId = true)
    (hu : h.get? u = some (kxs_mw initId x)) (he : h.get? x = some (excObj C t0 none c2)) (hz : rest.length ≤ sizeLine)
    (hq : ∀ h' t1, (∀ b o, b ≠ x → h.get? b = some o → h'.get? b = some o) → h'.get? x = some (excObj C t1 none c2) → Q .none ⟨h', g, d, t, os⟩) :
    wpAny (model prog w) A (call (.ref u) rest) Q E ⟨h, g, d, t, os⟩ := by
  obtain ⟨nm, N', qn, bs, bm, hdct, sn, sub, ab, col, dd, k0, k1, k2, k3, k5, hC, hT⟩ := excInit_of X q
  refine wpAny_call (codeAny_of_tree ?_)
  show wpAny _ A.in1 (callAny (.ref u) ⟨rest, []⟩) _ _ _
  simp only [callAny]
  refine wpAny_bind (wpAny_load hu ?_)
  have e1 : (Value.type "method-wrapper" == Value.type "method" || Value.type "method-wrapper" == Value.type "builtin_function_or_method" || Value.type "method-wrapper" == Value.type "method-wrapper") = true := by decide
  simp only [kxs_mw, e1, if_true]
  refine KFB.if_so (by decide) ?_
  refine wpAny_bind (check_bound_init FB.toExcCallFacts hC he rfl ?_)
  refine wpAny_bind (wpAny_pure (wpAny_pure ?_))
  refine ⟨plainId_quiet FB.init.plain _, codeAny_builtin FB.initEntry ?_⟩
  exact exc_init_tree (cls := .ref C) (t0 := t0) (dv := none) (c2 := c2) (c3 := .none) (b4 := .bool false) he hz fun h' k e' _ => hq h' _ k e'

/-- self.f = v, the exception without a dict as yet -/
theorem xa_set {E : Value → Shared → Prop} {h : Heap} {g : Array GenState} {d : Drawn} {t : Nat} {os : OsState} {x t0 : Addr} {c2 v : Value} {name : Str} {Q : Unit → Shared → Prop} (X : K.In h) (SF : StoreFacts B bmB "object.__setattr__" "object") (he : h.get? x = some (excObj C t0 none c2))
    (hs : findIn K (.ref C) "__setattr__" = some (some (.builtin "object.__setattr__"))) (hp : excOver K C bmB = true) (ht : takerIn K C name = some none) (hh : hasDictIn K C = true)
    (hq : ∀ h' tk dx, (∀ b o, b ≠ x → h.get? b = some o → h'.get? b = some o) → h.objs.size ≤ dx → dx ≠ x → h'.get? x = some (excObj C t0 (some dx) c2) → h'.Ns1 dx (fun y => if y = name then some v else none) → Q () ⟨h', g, d, tk, os⟩) :
    wpAny (model prog w) A (setAttr (.ref x) name v) Q E ⟨h, g, d, t, os⟩ := by
  have hxs : x ≠ h.objs.size := Nat.ne_of_lt (Heap.lt_size he)
  obtain ⟨cd, hc, hd'⟩ := any_some hh
  refine set_plain (od := none) X ⟨he, rfl, rfl, trivial⟩ hs (osa_openX (od := none) SF X ⟨he, rfl, rfl, trivial⟩ hp ht fun b => ?_)
  refine wpAny_bind (wpAny_pure (wpAny_bind (instanceDict_exc he (looks_clsIn X hc) hd' ?_)))
  show wpAny _ _ (storeInDict h.objs.size (.str name t) name v) _ _ _
  refine HandSPX.store_in_new ?_ ?_
  · exact ⟨_, #[], _, (Heap.get?_update_ne _ _ _ _ hxs.symm).trans (Heap.get?_push_at rfl rfl), rfl, fun e he => absurd he (by simp), fun _ => rfl⟩
  · intro h' tk' hn' hs'
    have hx₁ : (h.push (dictOf [] 0)).get? x = some (excObj C t0 none c2) := Heap.get?_push_of_some _ he
    refine hq h' tk' h.objs.size (fun b o hb ho => ?_) (Nat.le_refl _) hxs.symm ?_ hn'
    · exact (hs'.2 b (Nat.ne_of_lt (Heap.lt_size ho))).trans ((Heap.get?_update_ne _ _ _ _ hb).trans (Heap.get?_push_of_some _ ho))
    · exact (hs'.2 x hxs).trans (Heap.get?_update_self _ hx₁ rfl)

/-- what the written part says of such a class -/
structure XCls (prog : Program) (K : Frag) (mg : Str → Option Value) (C : Addr) (B newId initId : String) (bmB : List Value) : Prop where
  q : excInitIn K C bmB newId = true
  over : excOver K C bmB = true
  sa : findIn K (.ref C) "__setattr__" = some (some (.builtin "object.__setattr__"))
  hd : hasDictIn K C = true
  sup : ks_superIn K C C "__init__" = some (some (.builtin initId))
  subB : subIn K (.ref C) (.type B) = some true
  own : mroIn K C (.ref C) = some true
  op : nsIn K cStatics "thirdparty.any" = some none
  nosup : mg "super" = none
  top : (prog.main.scope.names.lookup ("super" : Str)).isSome = false
/-- .. of its __init__ -/
structure XIni (prog : Program) (K : Frag) (C fI cc cda : Addr) (qual : Str) (params : Arguments) (body : List Stmt) (scope : Scope) : Prop where
  hi : findIn K (.ref C) "__init__" = some (some (.ref fI))
  hf : isFn K (.ref fI) = true
  lk : ∃ (oc : Value) (od an : Option Addr) (osl : Array (Option Value)) (kV doc pm ct : Value), K.lookup fI = some ⟨oc, od, .func (fnX "__init__" qual params body scope [("__class__", cc)] .none kV doc pm an (.ref cda) ct), osl⟩
  hcd : codeIn K (.ref cda) qual = true
  code : ∃ (ccl : Value) (cdd : Option Addr) (vs : Array Value) (ccs : Array (Option Value)) (file : Str) (tf : Tok), K.lookup cda = some ⟨ccl, cdd, .fields vs, ccs⟩ ∧ vs[2]? = some (.str file tf) ∧ ((prog.main.file : Str) == file) = true
  cell : ∃ (cl : Value) (cld : Option Addr) (csl : Array (Option Value)), K.lookup cc = some ⟨cl, cld, .cell (some (.ref C)), csl⟩
/-- the names of its scope -/
structure XSc (scope : Scope) : Prop where
  sup : scope.names.lookup ("super" : Str) = some .globalImplicit
  cls : scope.names.lookup ("__class__" : Str) = some .free
  self : scope.names.lookup ("self" : Str) = some .local
  cell : ∀ x ∈ scope.names, x.2 ≠ .cell
  co : scope.isCoroutine = false
  gen : scope.isGenerator = false
  kind : scope.kind = .function
abbrev xEnv (qual : Str) (scope : Scope) (L fI cda cc : Addr) : Env := envX qual scope L fI (.ref cda) [("__class__", cc)]
section
variable {mg mb : Str → Option Value} {fI cc cda : Addr} {qual : Str} {params : Arguments} {body : List Stmt} {scope : Scope}
/-- super().__init__(text) -/
abbrev xSup (text : Str) (j : Nat) (p0 p1 p2 p3 p4 : Pos) : Expr := .Call (.Attribute (.Call (.Name "super" p0) [] [] p1) "__init__" p2) [.Constant (.str text) j p3] [] p4
/-- its places are such that the method is called at once -/
def XHc (text : Str) (j : Nat) (p0 p1 p2 p3 p4 : Pos) : Prop := ∀ env : Env, ∃ pl : Sem Bool, eval (xSup text j p0 p1 p2 p3 p4) env = (do
  let ov ← attributeBase (.Call (.Name "super" p0) [] [] p1) "__init__" env (eval (.Call (.Name "super" p0) [] [] p1) env)
  standAt p2.atName
  let (f, first) ← holding [ov] (getMethod ov "__init__" pl)
  callWith p4 f first (backTo p4 (starEach [.Constant (.str text) j p3] env)) [])
/-- super().__init__(text), as a statement -/
theorem xa_stmt {E : Value → Shared → Prop} {s : Shared} {L x t0 : Addr} {c2 : Value} {text : Str} {j : Nat} {p0 p1 p2 p3 p4 p5 : Pos} {ar : Arg} {m : Str → Option Value} {Q : Flow → Shared → Prop} (T : XCls prog K mg C B newId initId bmB) (FB : ExcBaseFacts B newId initId bmB) (KF : KxsFacts B initId)
    (N : XIni prog K C fI cc cda qual params body scope) (S : XSc scope) (hc : XHc text j p0 p1 p2 p3 p4) (hpar : (params.posonlyargs ++ params.args).head? = some ar) (har : ar.arg = "self") (X : K.In s.heap) (hg : s.heap.Ns mainGlobals mg) (hb : s.heap.Ns builtinsNs mb) (hbs : mb "super" = some (.type "super"))
    (he : s.heap.get? x = some (excObj C t0 none c2)) (hns : s.heap.Ns L m) (hv : m "self" = some (.ref x))
    (hq : ∀ h' t1 tk, (∀ b o, b ≠ x → s.heap.get? b = some o → h'.get? b = some o) → h'.get? x = some (excObj C t1 none c2) → Q .next { s with heap := h', toks := tk }) :
    _root_.PySem.wpAt (model prog w) A (.func body (xEnv qual scope L fI cda cc)) (exec (.Expr (xSup text j p0 p1 p2 p3 p4) p5) (xEnv qual scope L fI cda cc)) Q E s := by
  obtain ⟨oc, od, an, osl, kV, doc, pm, ct, lk⟩ := N.lk
  obtain ⟨ccl, cdd, vs, ccs, file, tf, hcode, hvs, hfile⟩ := N.code
  obtain ⟨cl, cld, csl, hcell⟩ := N.cell
  obtain ⟨cdD, hD, _⟩ := any_some T.hd
  obtain ⟨oD, hD1, hD2⟩ : ∃ oD, s.heap.get? C = some oD ∧ oD.data = .cls cdD := by
    unfold clsIn at hD
    split at hD
    · rename_i c d cd' sl ho
      cases hD
      exact ⟨_, X _ _ ho, rfl⟩
    · cases hD
  have I : InstAt s.heap x (excObj C t0 none c2) C none := ⟨he, rfl, rfl, trivial⟩
  have hxC := ks_ne X I hD
  have hm := T.sup
  unfold ks_superIn at hm
  rw [hD] at hm
  obtain ⟨hh, g, d, t, os⟩ := s
  have hi : interactive (xEnv qual scope L fI cda cc) = false := by
    unfold interactive
    show (scope.kind == .module && _) = false
    rw [S.kind]
    rfl
  refine ks_wpAt_Expr_any ?_ hi
  obtain ⟨pl, hc⟩ := hc (xEnv qual scope L fI cda cc)
  refine ks_wpAt_MethodCall ?_ hc
  refine ks_wpAt_super_base (env := xEnv qual scope L fI cda cc) S.sup S.cls (by rfl) rfl (X _ _ lk) rfl hpar rfl (X _ _ hcode) rfl hvs hfile T.top ?_
  refine ks_loadName_global S.kind S.sup (Calls.loadGlobal_builtin (env := xEnv qual scope L fI cda cc) hg T.nosup hb hbs ⟨rfl, ?_⟩)
  refine wpAny_loadName_free S.kind S.cls rfl ⟨_, X _ _ hcell, rfl⟩ ?_
  rw [har]
  refine wpAny_loadName_local S.kind S.self hns hv ?_
  refine ks_wpAny_isType_cls hD1 hD2 ⟨rfl, ?_⟩
  refine ks_wpAny_call_super hD1 hD2 he rfl (fun c e => by cases e) (looks_mroIn X T.own) (fun h1 e1 k1 => ?_)
  have X1 := X.keeps k1
  refine kxs_getMethod KF e1 (looks_opaque X1 T.op) (l₀ := cdD.mro) (fun A Q E s k q => wpAny_bind ((looks_clsIn X1 hD) A _ E s k (wpAny_pure q))) rfl X1 hm ?_ hxC (by rfl) ?_
  · exact (InstAt.type (M := model prog w) (⟨k1 _ _ he, rfl, rfl, trivial⟩ : InstAt h1 x (excObj C t0 none c2) C none)).andThen (looks_subIn X1 T.subB)
  have k2 : ∀ b o, h1.get? b = some o → (h1.push (kxs_mw initId x)).get? b = some o := fun b o e => Heap.get?_push_of_some _ e
  have e2 : (h1.push (kxs_mw initId x)).get? h1.objs.size = some (kxs_mw initId x) := Heap.get?_push_size _ rfl
  show wpAny _ _ (callWith p4 (.ref h1.objs.size) [] (backTo p4 (starEach [.Constant (.str text) j p3] (xEnv qual scope L fI cda cc))) []) _ _ _
  refine kxs_callWith (i := initId) (x := x) rfl ?_
  refine Calls.evalArgs_plain ?_
  refine Calls.spliced_cons (Calls.Constant_str (k := j) (pos := p3) (Calls.spliced_nil ⟨e2, ?_⟩))
  refine xa_call (X1.keeps k2) FB T.q e2 (k2 _ _ (k1 _ _ he)) (by rw [sizeLine_eq]; exact Nat.le_of_ble_eq_true rfl) fun h' t1 k3 e3 => ?_
  exact hq h' t1 _ (fun b o hb e => k3 b o hb (k2 _ _ (k1 _ _ e))) e3

/-- the whole of __init__: with a field -/
theorem xa_body1 {E : Value → Shared → Prop} {s : Shared} {L x t0 : Addr} {c2 v : Value} {text f par : Str} {j : Nat} {p0 p1 p2 p3 p4 p5 q0 q1 q2 q3 : Pos} {ar : Arg} {m : Str → Option Value} {Q : Flow → Shared → Prop} (T : XCls prog K mg C B newId initId bmB) (FB : ExcBaseFacts B newId initId bmB) (SF : StoreFacts B bmB "object.__setattr__" "object") (KF : KxsFacts B initId)
    (ht : takerIn K C f = some none) (N : XIni prog K C fI cc cda qual params body scope) (S : XSc scope) (hc : XHc text j p0 p1 p2 p3 p4) (hpar : (params.posonlyargs ++ params.args).head? = some ar) (har : ar.arg = "self") (X : K.In s.heap) (hg : s.heap.Ns mainGlobals mg) (hb : s.heap.Ns builtinsNs mb) (hbs : mb "super" = some (.type "super"))
    (hxK : K.lookup x = none) (hpl : scope.names.lookup par = some .local) (hpd : (par == ("__debug__" : Str)) = false) (hxL : x ≠ L)
    (he : s.heap.get? x = some (excObj C t0 none c2)) (hns : s.heap.Ns L m) (hv : m "self" = some (.ref x)) (hw : m par = some v)
    (hq : ∀ h' t1 dx tk, (∀ b o, b ≠ x → s.heap.get? b = some o → h'.get? b = some o) → s.heap.get? dx = none → dx ≠ x → h'.get? x = some (excObj C t1 (some dx) c2) → h'.Ns1 dx (fun y => if y = f then some v else none) → Q .next { s with heap := h', toks := tk }) :
    _root_.PySem.wpAt (model prog w) A (.func body (xEnv qual scope L fI cda cc)) (execs [.Expr (xSup text j p0 p1 p2 p3 p4) p5, .Assign [.Attribute (.Name "self" q0) f q1] (.Name par q2) q3] (xEnv qual scope L fI cda cc)) Q E s := by
  refine ks_wpAt_execs_cons ?_
  refine xa_stmt T FB KF N S hc hpar har X hg hb hbs he hns hv fun h1 t1 tk k1 e1 => ?_
  have kp : ∀ {b : Addr} {m : Str → Option Value}, b ≠ x → s.heap.Ns b m → h1.Ns b m := fun {b m} hb ⟨o, es, ep, ho, r⟩ => ⟨o, es, ep, k1 _ _ hb ho, r⟩
  have X1 : K.In h1 := fun b o e => k1 b o (fun z => by
    rw [z, hxK] at e
    cases e) (X b o e)
  have hns1 := kp (Ne.symm hxL) hns
  refine ks_wpAt_execs_cons ?_
  refine ks_wpAt_Assign_Attr (wpAt_of_wpAny ?_)
  refine wpAny_Name (wpAny_loadName_local (env := xEnv qual scope L fI cda cc) S.kind hpl hns1 hw ?_) hpd
  refine wpAny_Name (wpAny_loadName_local (env := xEnv qual scope L fI cda cc) S.kind S.self hns1 hv ?_) (by decide)
  refine xa_set X1 SF e1 T.sa T.over ht T.hd fun h2 tk2 dx k2 hdx ne e2 n2 => ?_
  refine wpAt_of_wpAny (wpAny_execs_nil ?_)
  refine hq h2 t1 dx tk2 (fun b o hb e => k2 b o hb (k1 b o hb e)) ?_ ne e2 n2
  cases z : s.heap.get? dx with
  | none => rfl
  | some o => exact absurd (Nat.lt_of_lt_of_le (Heap.lt_size (k1 dx o ne z)) hdx) (Nat.lt_irrefl _)

/-- .. without a field -/
theorem xa_body0 {E : Value → Shared → Prop} {s : Shared} {L x t0 : Addr} {c2 : Value} {text : Str} {j : Nat} {p0 p1 p2 p3 p4 p5 : Pos} {ar : Arg} {m : Str → Option Value} {Q : Flow → Shared → Prop} (T : XCls prog K mg C B newId initId bmB) (FB : ExcBaseFacts B newId initId bmB) (KF : KxsFacts B initId)
    (N : XIni prog K C fI cc cda qual params body scope) (S : XSc scope) (hc : XHc text j p0 p1 p2 p3 p4) (hpar : (params.posonlyargs ++ params.args).head? = some ar) (har : ar.arg = "self") (X : K.In s.heap) (hg : s.heap.Ns mainGlobals mg) (hb : s.heap.Ns builtinsNs mb) (hbs : mb "super" = some (.type "super"))
    (he : s.heap.get? x = some (excObj C t0 none c2)) (hns : s.heap.Ns L m) (hv : m "self" = some (.ref x))
    (hq : ∀ h' t1 tk, (∀ b o, b ≠ x → s.heap.get? b = some o → h'.get? b = some o) → h'.get? x = some (excObj C t1 none c2) → Q .next { s with heap := h', toks := tk }) :
    _root_.PySem.wpAt (model prog w) A (.func body (xEnv qual scope L fI cda cc)) (execs [.Expr (xSup text j p0 p1 p2 p3 p4) p5] (xEnv qual scope L fI cda cc)) Q E s := by
  refine ks_wpAt_execs_cons ?_
  refine xa_stmt T FB KF N S hc hpar har X hg hb hbs he hns hv fun h1 t1 tk k1 e1 => ?_
  exact wpAt_of_wpAny (wpAny_execs_nil (hq h1 t1 tk k1 e1))
/-- C(..): the object is laid, then __init__ -/
theorem xa_make {E : Value → Shared → Prop} {s : Shared} {us : List Value} {binds : List (Str × Value)} {Q : Value → Shared → Prop} (T : XCls prog K mg C B newId initId bmB) (FB : ExcBaseFacts B newId initId bmB) (N : XIni prog K C fI cc cda qual params body scope) (S : XSc scope) (X : K.In s.heap)
    (hlim : s.heap.NoLimit) (hroom : A.depth + 1 < recursionLimit) (hz : us.length ≤ sizeLine) (hbind : ∀ (x : Addr) (kV doc pm ct : Value) (an : Option Addr), bindArgs (fnX "__init__" qual params body scope [("__class__", cc)] .none kV doc pm an (.ref cda) ct) ⟨.ref x :: us, []⟩ = pure ((("self" : Str), Value.ref x) :: binds)) (hbl : ∀ y ∈ binds, scope.names.lookup y.1 = some .local)
    (hq : ∀ (A' : Around) (E' : Value → Shared → Prop) (R : Flow → Shared → Prop) (s' : Shared) (L x t0 : Addr), K.lookup x = none → s.heap.get? x = none → x ≠ L → s'.heap.get? x = some (excObj C t0 none .none) → s'.heap.Ns L (fun y => ((("self" : Str), Value.ref x) :: binds).reverse.lookup y) → (∀ b o, s.heap.get? b = some o → s'.heap.get? b = some o) →
      (∀ h' tk, Q (.ref x) { s with heap := h', toks := tk } → R .next { s' with heap := h', toks := tk }) →
      s'.gens = s.gens ∧ s'.drawn = s.drawn ∧ s'.os = s.os →
      _root_.PySem.wpAt (model prog w) A' (.func body (xEnv qual scope L fI cda cc)) (execs body (xEnv qual scope L fI cda cc)) R E' s') :
    wpAny (model prog w) A (call (.ref C) us) Q E s := by
  obtain ⟨nm, N', qn, bs, bm, hdct, sn, sub, ab, col, dd, k0, k1, k2, k3, k5, hC, hT⟩ := excInit_of X T.q
  obtain ⟨oI, hoI, hcI⟩ : ∃ oI, s.heap.get? fI = some oI ∧ oI.cls = .type "function" := by
    obtain ⟨o, ho, hc⟩ := Option.map_eq_some_iff.mp (show (K.lookup fI).map (·.cls) = some (.type "function") from beq_iff_eq.mp N.hf)
    exact ⟨o, X _ _ ho, hc⟩
  obtain ⟨oc, od, an, osl, kV, doc, pm, ct, lk⟩ := N.lk
  obtain ⟨hp, g, d, tk, os⟩ := s
  refine wpAny_call (PX.call_own FB hT hC (looks_findIn X N.hi) (fun self => exc_bind hoI hcI self) hz ?_)
  have kk : ∀ b o, hp.get? b = some o → ((hp.push (kdv_tup us)).push (excObj C hp.objs.size none .none)).get? b = some o := fun b o e => Heap.get?_push_of_some _ (Heap.get?_push_of_some _ e)
  have hget : ((hp.push (kdv_tup us)).push (excObj C hp.objs.size none .none)).get? (hp.objs.size + 1) = some (excObj C hp.objs.size none .none) := by heap_get
  have hxK : K.lookup (hp.objs.size + 1) = none := by
    cases z : K.lookup (hp.objs.size + 1) with
    | none => rfl
    | some o => exact absurd (Heap.lt_size (X _ _ z)) (Nat.not_lt.mpr (Nat.le_succ _))
  have hx0 : hp.get? (hp.objs.size + 1) = none := Heap.get?_none_of_le (Nat.le_succ _)
  refine ks_codeAny_call_defAt (s := ⟨(hp.push (kdv_tup us)).push (excObj C hp.objs.size none .none), g, d, tk, os⟩) (fd := fnX "__init__" qual params body scope [("__class__", cc)] .none kV doc pm an (.ref cda) ct) (body := body) (binds := (("self" : Str), Value.ref (hp.objs.size + 1)) :: binds)
    (by rw [L2.make_depth]; exact hroom) (kk _ _ (X _ _ lk)) rfl (hlim.keeps kk) (codeRec_of (X.keeps kk) N.hcd) rfl (.of_eq (hbind _ _ _ _ _ _)) S.cell (fun y hy => ?_) (fun h₁ hns hk₁ => ?_) S.co S.gen S.kind
  · rcases List.mem_cons.mp hy with rfl | hy
    · exact S.self
    · exact hbl y hy
  · have hL : (hp.objs.size + 1 : Nat) ≠ ((hp.push (kdv_tup us)).push (excObj C hp.objs.size none .none)).objs.size := Nat.ne_of_lt (Heap.lt_size hget)
    exact hq _ _ _ ⟨h₁, g, d, _, os⟩ _ (hp.objs.size + 1) hp.objs.size hxK hx0 hL (hk₁ _ _ hget) hns (fun b o e => hk₁ b o (kk b o e)) (fun h' tk z => ⟨rfl, z⟩) ⟨rfl, rfl, rfl⟩
end
end
end Dn

set_option maxRecDepth 100000
set_option maxHeartbeats 2000000
/-! Dn, part Xb: own exceptions made and raised. -/
namespace Dn
open PySem L2 PyProof.Rows
/-- an own exception class with one field f, made of the field's value: x its name, c its number -/
structure XMk1 (P : Program) (cf : Cfg) (mg : Str → Option Value) (x : Str) (c : Nat) (f : Str) : Prop where
  gl : mg x = some (.ref (cf.cls c))
  keep : PySem.W.keepIn cf.K (.ref (cf.cls c)) = true
  sub : PySem.W.subIn cf.K (.ref (cf.cls c)) (.type "BaseException") = some true
  ty : PySem.W.typeIn cf.K (.ref (cf.cls c)) = some (.type "type")
  nam : cf.nam c = [f]
  ex : ∃ (B newId initId : String) (bmB : List Value) (fI cc cda : Addr) (qual par text : Str) (params : Arguments) (scope : Scope) (j : Nat) (p0 p1 p2 p3 p4 p5 q0 q1 q2 q3 : Pos) (ar : Arg),
    XCls P cf.K mg (cf.cls c) B newId initId bmB ∧ PySem.ExcBaseFacts B newId initId bmB ∧ PySem.StoreFacts B bmB "object.__setattr__" "object" ∧ PySem.W.KxsFacts B initId ∧ PySem.W.takerIn cf.K (cf.cls c) f = some none ∧
    XIni P cf.K (cf.cls c) fI cc cda qual params [.Expr (xSup text j p0 p1 p2 p3 p4) p5, .Assign [.Attribute (.Name "self" q0) f q1] (.Name par q2) q3] scope ∧ XSc scope ∧ XHc text j p0 p1 p2 p3 p4 ∧
    (params.posonlyargs ++ params.args).head? = some ar ∧ ar.arg = "self" ∧ scope.names.lookup par = some .local ∧ (par == ("__debug__" : Str)) = false ∧ (par == ("self" : Str)) = false ∧
    (∀ (cc cda : Addr) (x : Addr) (v : Value) (kV doc pm ct : Value) (an : Option Addr), bindArgs (PySem.W.fnX "__init__" qual params [.Expr (xSup text j p0 p1 p2 p3 p4) p5, .Assign [.Attribute (.Name "self" q0) f q1] (.Name par q2) q3] scope [("__class__", cc)] .none kV doc pm an (.ref cda) ct) ⟨[.ref x, v], []⟩ = pure [(("self" : Str), Value.ref x), (par, v)])
structure XMk0 (P : Program) (cf : Cfg) (mg : Str → Option Value) (x : Str) (c : Nat) : Prop where
  gl : mg x = some (.ref (cf.cls c))
  keep : PySem.W.keepIn cf.K (.ref (cf.cls c)) = true
  sub : PySem.W.subIn cf.K (.ref (cf.cls c)) (.type "BaseException") = some true
  ty : PySem.W.typeIn cf.K (.ref (cf.cls c)) = some (.type "type")
  ex : ∃ (B newId initId : String) (bmB : List Value) (fI cc cda : Addr) (qual text : Str) (params : Arguments) (scope : Scope) (j : Nat) (p0 p1 p2 p3 p4 p5 : Pos) (ar : Arg),
    XCls P cf.K mg (cf.cls c) B newId initId bmB ∧ PySem.ExcBaseFacts B newId initId bmB ∧ PySem.W.KxsFacts B initId ∧
    XIni P cf.K (cf.cls c) fI cc cda qual params [.Expr (xSup text j p0 p1 p2 p3 p4) p5] scope ∧ XSc scope ∧ XHc text j p0 p1 p2 p3 p4 ∧
    (params.posonlyargs ++ params.args).head? = some ar ∧ ar.arg = "self" ∧
    (∀ (cc cda : Addr) (x : Addr) (kV doc pm ct : Value) (an : Option Addr), bindArgs (PySem.W.fnX "__init__" qual params [.Expr (xSup text j p0 p1 p2 p3 p4) p5] scope [("__class__", cc)] .none kV doc pm an (.ref cda) ct) ⟨[.ref x], []⟩ = pure [(("self" : Str), Value.ref x)])
section
variable {cf : Cfg} {X : Cx} {x : Str} {c k : Nat} {f : Str} {e : Expr} {p pos : Pos}
/-- what MkP asks, of a heap that has the exception at a, its dict at dx -/
theorem mkp_of {pins : List (Addr × Obj)} {σ : L2.St} {H1 : Hp} {s1 : Shared} {h' : Heap} {a dx C t1 : Addr} {v : V} {u : Value} {Q : XK} {tk : Nat} (I1 : Inv X pins σ H1 s1) (ha : s1.heap.get? a = none) (hd : s1.heap.get? dx = none) (ne : dx ≠ a)
    (k : ∀ b o, b ≠ a → s1.heap.get? b = some o → h'.get? b = some o) (he : h'.get? a = some (PySem.W.excObj C t1 (some dx) .none)) (hn : h'.Ns1 dx (fun y => if y = f then some u else none)) (r : RelV v u) (R : Raises X (.ref C))
    (q : Q (.ref C) (some dx) (upd H1 dx (.xd [(f, v)]))) : MkP X pins σ Q (.ref a) { s1 with heap := h', toks := tk } := by
  obtain ⟨G, g1, g2⟩ := restrict h' fun b => decide (b ≠ a)
  have gk : ∀ b, b ≠ a → G.get? b = h'.get? b := fun b hb => g1 b (decide_eq_true hb)
  have ga : G.get? a = none := g2 a (by simp)
  have na : H1 a = none := I1.hok.gone ha
  have nd : H1 dx = none := I1.hok.gone hd
  have J := I1.laidN (h' := G) (a := dx) (o := .xd [(f, v)]) (t' := tk) (fun b o z => by
    have hb : b ≠ a := fun y => by rw [y, ha] at z; cases z
    rw [gk b hb]
    exact k b o hb z) hd nd ⟨_, hn.at fun o y => (gk dx ne).trans y, fun g => by
      by_cases hg : g = f
      · rw [if_pos hg, hg]
        simp only [List.lookup, beq_self_eq_true]
        exact r
      · have z : (g == f) = false := by rw [beq_eq_false_iff_ne]; exact hg
        rw [if_neg hg]
        simp only [List.lookup, z]
        exact True.intro⟩
  refine ⟨a, _, _, _, _, .ref C, some dx, rfl, J, fun b o z => ?_, ga, he, ⟨rfl, rfl⟩, rfl, rfl, ?_, rfl, I1.bare, R, q⟩
  · by_cases hb : b = a
    · rw [hb, ga] at z
      cases z
    · rw [← gk b hb]
      exact z
  · rw [upd_ne (Ne.symm ne)]
    exact na
theorem pmk_x1 {ta : TA} (M : XMk1 X.prog cf X.mg x c f) (hK : X.K = cf.K) (hr : Room (k + 1) X.A) (hg : Gl X x) (ha : PA X [e] ta) (hdb : (x == ("__debug__" : Str)) = false := by decide) (hs : starEach [e] X.env = (false, eval e X.env) :: starEach [] X.env := by rfl) :
    PMk X (.Call (.Name x p) [e] [] pos) (fun σ H Q => ta σ H fun vs H1 => ∃ v, vs = [v] ∧ ∀ d, H1 d = none → Q (.ref (cf.cls c)) (some d) (upd H1 d (.xd [(f, v)]))) := by
  intro pins s σ H Q I h
  obtain ⟨B, newId, initId, bmB, fI, cc, cda, qual, par, text, params, scope, j, p0, p1, p2, p3, p4, p5, q0, q1, q2, q3, ar, T, FB, SF, KF, ht, N, S, hc, hpar, har, hpl, hpd, hps, hbind⟩ := M.ex
  refine wpAny_Call_Name_kw (ld_glob I hg M.gl ?_ hdb)
  refine PySem.W.callWith_K (h₀ := X.base) I.ok.mod.kin (by rw [hK]; exact M.keep) (thn (ha.run pos pins s σ H _ I h) fun us s1 ⟨vs, H1, I1, r1, v, ev, hq⟩ => ⟨I1.kIn, ?_⟩) hs (by rfl)
  subst ev
  obtain ⟨u, eu, ru⟩ : ∃ u, us = [u] ∧ RelV v u := by
    cases r1 with
    | cons a b => cases b; exact ⟨_, rfl, a⟩
  subst eu
  show wpAny _ _ (call (.ref (cf.cls c)) [u]) _ _ _
  have X1 : cf.K.In s1.heap := by rw [← hK]; exact I1.kIn
  obtain ⟨mb, hb1, hb2⟩ := I1.mod.blt
  refine xa_make (mg := X.mg) T FB N S X1 I1.nolimit (by have := hr.dp; omega) (by rw [sizeLine_eq]; exact Nat.le_of_ble_eq_true rfl) (fun x kV doc pm ct an => hbind cc cda x u kV doc pm ct an) (fun y hy => by
    rw [List.mem_singleton] at hy
    rw [hy]
    exact hpl) (fun A' E' R s' L a t0 aK a0 aL he hns kk hR hes => ?_)
  obtain ⟨es1, es2, es3⟩ := hes
  have KP : cf.K.In s'.heap := X1.keeps kk
  refine xa_body1 (v := u) T FB SF KF ht N S hc hpar har KP ((I1.mod.glob.keeps I1.bk).keeps kk) ((hb1.keeps I1.bk).keeps kk) ((hb2 _ (by decide)).trans PyProof.Rows.Boot.«super») aK hpl hpd aL he hns ?_ ?_ fun h' t1 dx tk k2 d0 ne e2 n2 => ?_
  · have hne : (("self" : Str) == par) = false := by
      rw [beq_eq_false_iff_ne] at hps ⊢
      exact Ne.symm hps
    simp [List.lookup, hne]
  · simp [List.lookup]
  · have z := hR h' tk (mkp_of I1 a0 (by
      cases z : s1.heap.get? dx with
      | none => rfl
      | some o =>
        rw [kk _ _ z] at d0
        cases d0) ne (fun b o hb z => k2 b o hb (kk b o z)) e2 n2 ru ?_ (hq dx (I1.hok.gone (by
      cases z : s1.heap.get? dx with
      | none => rfl
      | some o =>
        rw [kk _ _ z] at d0
        cases d0))))
    · exact z
    · exact raises_own (by rw [hK]; exact M.sub) (by rw [hK]; exact M.ty)
theorem mkp_of0 {pins : List (Addr × Obj)} {σ : L2.St} {H1 : Hp} {s1 : Shared} {h' : Heap} {a C t1 : Addr} {Q : XK} {tk : Nat} (I1 : Inv X pins σ H1 s1) (ha : s1.heap.get? a = none)
    (k : ∀ b o, b ≠ a → s1.heap.get? b = some o → h'.get? b = some o) (he : h'.get? a = some (PySem.W.excObj C t1 none .none)) (R : Raises X (.ref C))
    (q : Q (.ref C) none H1) : MkP X pins σ Q (.ref a) { s1 with heap := h', toks := tk } := by
  have kk : ∀ b o, s1.heap.get? b = some o → h'.get? b = some o := fun b o z => k b o (fun y => by
    rw [y, ha] at z
    cases z) z
  exact ⟨a, _, _, s1, H1, .ref C, none, rfl, I1, kk, ha, he, ⟨rfl, rfl⟩, rfl, rfl, I1.hok.gone ha, rfl, I1.bare, R, q⟩
theorem pmk_x0 (M : XMk0 X.prog cf X.mg x c) (hK : X.K = cf.K) (hr : Room (k + 1) X.A) (hg : Gl X x) (hdb : (x == ("__debug__" : Str)) = false := by decide) :
    PMk X (.Call (.Name x p) [] [] pos) (fun σ H Q => Q (.ref (cf.cls c)) none H) := by
  intro pins s σ H Q I h
  obtain ⟨B, newId, initId, bmB, fI, cc, cda, qual, text, params, scope, j, p0, p1, p2, p3, p4, p5, ar, T, FB, KF, N, S, hc, hpar, har, hbind⟩ := M.ex
  refine wpAny_Call_Name_kw (ld_glob I hg M.gl ?_ hdb)
  refine PySem.W.callWith_K0 (K := X.K) I.kIn (by rw [hK]; exact M.keep) ?_
  show wpAny _ _ (call (.ref (cf.cls c)) []) _ _ _
  have X1 : cf.K.In s.heap := by rw [← hK]; exact I.kIn
  obtain ⟨mb, hb1, hb2⟩ := I.mod.blt
  refine xa_make (mg := X.mg) (binds := []) T FB N S X1 I.nolimit (by have := hr.dp; omega) (by rw [sizeLine_eq]; exact Nat.le_of_ble_eq_true rfl) (fun x kV doc pm ct an => hbind cc cda x kV doc pm ct an) (fun y hy => by cases hy) (fun A' E' R s' L a t0 aK a0 aL he hns kk hR hes => ?_)
  obtain ⟨es1, es2, es3⟩ := hes
  have KP : cf.K.In s'.heap := X1.keeps kk
  refine xa_body0 T FB KF N S hc hpar har KP ((I.mod.glob.keeps I.bk).keeps kk) ((hb1.keeps I.bk).keeps kk) ((hb2 _ (by decide)).trans PyProof.Rows.Boot.«super») he hns ?_ fun h' t1 tk k2 e2 => ?_
  · simp [List.lookup]
  · refine hR h' tk (mkp_of0 I a0 (fun b o hb z => k2 b o hb (kk b o z)) e2 ?_ h)
    exact raises_own (by rw [hK]; exact M.sub) (by rw [hK]; exact M.ty)
/-! ### raise -/
def fRaise1 (c : Nat) (f : FE) : FS := fun ρ A => (f ρ A).s ρ fun x A => .exc ⟨c, [x]⟩ ρ A
def fRaise0 (c : Nat) : FS := fun ρ A => .exc ⟨c, []⟩ ρ A
variable {W : WX} {spos : Pos}
theorem cs_raise1 {f1 : FE} (M : XMk1 X.prog cf X.mg x c f) (hcl : X.calm = true) (hK : X.K = cf.K) (hr : Room (k + 1) X.A) (tk : Takes X W) (hf : CE cf X W e f1) (hg : Gl X x := by rfl) (hdb : (x == ("__debug__" : Str)) = false := by decide) (hs : starEach [e] X.env = (false, eval e X.env) :: starEach [] X.env := by rfl) :
    CS cf X W (.Raise (some (.Call (.Name x p) [e] [] pos)) none spos) (fRaise1 c f1) := by
  obtain ⟨t, pt, o⟩ := hf.ex
  refine ⟨_, ps_raise hcl tk (pmk_x1 M hK hr hg (pa_cons pt pa_nil hs) hdb hs), fun ρ σ m H A D S L P => ?_⟩
  refine o.thenS S L P fun v u m1 H1 A1 _ g L1 r P1 => ?_
  refine ⟨u, rfl, fun d hd => ?_⟩
  have gd := go_side (o := .xd [(f, u)]) g.sim hd
  refine P1 m1 _ σ _ (some d) gd (L1.mono gd.pre gd.fz) ⟨rfl, .inr ⟨d, [u], rfl, ?_, ?_, ?_⟩⟩
  · rw [M.nam, upd_same]
    rfl
  · rw [M.nam]
    exact Nat.le_refl _
  · exact .cons (r.mono gd.pre gd.fz) .nil
theorem cs_raise0 (M : XMk0 X.prog cf X.mg x c) (hcl : X.calm = true) (hK : X.K = cf.K) (hr : Room (k + 1) X.A) (tk : Takes X W) (hg : Gl X x := by rfl) (hdb : (x == ("__debug__" : Str)) = false := by decide) :
    CS cf X W (.Raise (some (.Call (.Name x p) [] [] pos)) none spos) (fRaise0 c) := by
  refine ⟨_, ps_raise hcl tk (pmk_x0 M hK hr hg hdb), fun ρ σ m H A D S L P => ?_⟩
  exact P m H σ _ none (Go.refl S) L ⟨rfl, .inl ⟨rfl, rfl⟩⟩
end
end Dn

set_option maxRecDepth 100000
set_option maxHeartbeats 2000000
/-! Dn, part Xc: lambdas without parameters, or with one that has a default and is not used. -/
namespace Dn
open PySem PySem.Spec PyProof.Rows L2 LamX
/-- the default's tuple, or none -/
def DvOk (fs : List Addr) (H : Hp) (h : Heap) (dv : List Int) : Value → Prop
  | .none => dv = []
  | .ref t => H t = none ∧ t ∉ fs ∧ ∃ us : List Value, Vals (dv.map V.int) us ∧ h.get? t = some (PySem.W.kdv_tup us)
  | _ => False
theorem DvOk.keep {fs : List Addr} {H H' : Hp} {h h' : Heap} {dv : List Int} {dV : Value} (d : DvOk fs H h dv dV) (k : ∀ t o, H t = none → t ∉ fs → h.get? t = some o → H' t = none ∧ h'.get? t = some o) : DvOk fs H' h' dv dV := by
  cases dV with
  | ref t =>
    obtain ⟨d1, d2, us, r, e⟩ := d
    obtain ⟨k1, k2⟩ := k t _ d1 d2 e
    exact ⟨k1, d2, us, r, k2⟩
  | none => exact d
  | _ => exact d.elim
section
variable {X : Cx} {pins : List (Addr × Obj)} {σ : L2.St} {H : Hp} {s : Shared}
/-- the function object is made: its code object is new, or found in the table -/
theorem lam_tail {T : List (Addr × Str)} {c P : Addr} {params : Arguments} {body : Expr} {scope : Scope} {pos : Pos} {fl : Nat} {dv : List Int} {dV : Value} {E : Value → Shared → Prop} {Q : Value → Shared → Prop} (I : Inv X pins σ H s) (TB : TabB X.base X.mg c P) (hcode : X.env.code = .ref c)
    (hm : (P, X.env.qual ++ "<lambda>") ∈ T) (hu : ∀ p ∈ T, p.1 = P → p.2 = X.env.qual ++ "<lambda>") (hT : Tabs T H) (hfree : ∀ y ∈ scope.names, y.2 = .free → ∃ c, X.env.cells.lookup y.1 = some c) (hd : DvOk (frs X.stack) H s.heap dv dV)
    (h : ∀ (f c' : Addr) (doc pm ctv : Value) (H1 : Hp) (s' : Shared), Inv X pins σ H1 s' → ExtN H H1 → Tabs T H1 →
      s'.heap.get? f = some (PySem.W.kdv_obj "<lambda>" (X.env.qual ++ "<lambda>") params (.expr body) scope (cloFrom X.env.cells scope.names []) dV doc pm c' ctv) → H1 f = none → f ∉ frs X.stack → H1 c' = some (CodeO c' (X.env.qual ++ "<lambda>")) → DvOk (frs X.stack) H1 s'.heap dv dV → Q (.ref f) s') :
    wpAny (model X.prog X.w) X.A (makeTail "<lambda>" (X.env.qual ++ "<lambda>") params (.expr body) scope X.env dV .none none pos fl) Q E s := by
  obtain ⟨ps, hP, ht, ha⟩ := hT _ hm
  have bP : s.heap.BuiltinsAt X.mg P := TB.bm.keeps I.bk
  have hP' : s.heap.get? P = some { cls := .none, data := .fields ps } := I.hok P _ hP
  have nofr : ∀ f, s.heap.objs.size ≤ f → f ∉ frs X.stack := fun f hf z => by
    rcases List.mem_cons.mp (I.stkSub _ z) with e | e
    · have h1 := I.lt
      rw [← e] at h1
      exact Nat.lt_irrefl _ (Nat.lt_of_lt_of_le h1 hf)
    · exact I.nofs hf e
  cases hc : codeAmong pos ps.toList with
  | none =>
    refine PySem.W.kdv_makeTail (mg := X.mg) (c := c) (P := P) (ps := ps) (closure_ok hfree) I.ok.glob (I.mod.glob.keeps I.bk) hcode (TB.code.keeps I.bk) hP' ht hc TB.gP bP fun c' ctv doc h' tk hx hge hlt hrec htb => ?_
    obtain ⟨c2, oc, vs, t, e2, hoc, hdd, hv⟩ := hrec
    cases e2
    have hsz : s.heap.objs.size ≤ h'.objs.size := Nat.le_trans hge (Nat.le_of_lt hlt)
    have nC : H c' = none := I.hok.fresh hge
    have I1 := inv_table (t' := tk) (more := #[rawInt pos.line, rawInt pos.col, .ref c']) (h' := h'.push (PySem.W.kdv_obj "<lambda>" (X.env.qual ++ "<lambda>") params (.expr body) scope (cloFrom X.env.cells scope.names []) dV doc ((X.mg "__name__").getD .none) c' ctv)) I hP
      (fun b o hb e => Heap.get?_push_of_some _ (hx b o hb e)) (Heap.get?_push_of_some _ htb) hge ⟨oc, vs, t, Heap.get?_push_of_some _ hoc, hdd, hv⟩
    have hE : ExtN H (upd (upd H P (.tbl (ps ++ #[rawInt pos.line, rawInt pos.col, .ref c']))) c' (CodeO c' (X.env.qual ++ "<lambda>"))) := fun b o e n => by
      rw [upd_ne (ne_of_none e nC), upd_ne (fun z => n ps (Option.some.inj (e.symm.trans (by rw [z]; exact hP))))]
      exact e
    have eL : (ps ++ #[rawInt pos.line, rawInt pos.col, .ref c']).toList = ps.toList ++ [rawInt pos.line, rawInt pos.col, .ref c'] := by simp
    refine h h'.objs.size c' doc ((X.mg "__name__").getD .none) ctv _ _ I1 hE (fun p hp => ?_) (Heap.get?_push_size _ rfl) ?_ (nofr _ hsz) upd_same (hd.keep fun t o n nf e => ⟨?_, ?_⟩)
    · by_cases hb : p.1 = P
      · rw [hu p hp hb, hb]
        refine ⟨_, by rw [upd_ne (ne_of_none hP nC), upd_same], by rw [eL]; exact PySem.TriplesOk_snoc _ _ _ _ ht, fun p' cv hcv => ?_⟩
        rw [eL] at hcv
        rcases among_app _ ht hcv with z | z
        · obtain ⟨c0, e1, e2⟩ := ha p' cv z
          exact ⟨c0, e1, hE _ _ e2 codeO_ne⟩
        · exact ⟨c', z, upd_same⟩
      · obtain ⟨ps', a1, a2, a3⟩ := hT p hp
        refine ⟨ps', by rw [upd_ne (ne_of_none a1 nC), upd_ne hb]; exact a1, a2, fun p' cv hcv => ?_⟩
        obtain ⟨c0, e1, e2⟩ := a3 p' cv hcv
        exact ⟨c0, e1, hE _ _ e2 codeO_ne⟩
    · have n1 : h'.objs.size ≠ c' := Nat.ne_of_gt hlt
      have n2 : h'.objs.size ≠ P := Nat.ne_of_gt (Nat.lt_of_lt_of_le (Heap.lt_size hP') hsz)
      rw [upd_ne n1, upd_ne n2]
      exact I.hok.fresh hsz
    · have n1 : t ≠ c' := fun z => by
        have := Heap.lt_size e
        rw [z] at this
        exact absurd (Nat.lt_of_lt_of_le this hge) (Nat.lt_irrefl _)
      have n2 : t ≠ P := fun z => by
        rw [z, hP] at n
        cases n
      rw [upd_ne n1, upd_ne n2]
      exact n
    · have n2 : t ≠ P := fun z => by
        rw [z, hP] at n
        cases n
      exact Heap.get?_push_of_some _ (hx t o n2 e)
  | some cv =>
    obtain ⟨c', e, hco⟩ := ha pos cv hc
    subst e
    refine PySem.W.kdv_makeTailHit (mg := X.mg) (c := c) (P := P) (ps := ps) (closure_ok hfree) I.ok.glob (I.mod.glob.keeps I.bk) hcode (TB.code.keeps I.bk) hP' ht hc bP fun ctv doc h' tk hx hsz => ?_
    have I1 : Inv X pins σ H { s with heap := h'.push (PySem.W.kdv_obj "<lambda>" (X.env.qual ++ "<lambda>") params (.expr body) scope (cloFrom X.env.cells scope.names []) dV doc ((X.mg "__name__").getD .none) c' ctv), toks := tk } := I.kept fun b o e => Heap.get?_push_of_some _ (hx b o e)
    exact h h'.objs.size c' doc ((X.mg "__name__").getD .none) ctv H _ I1 (ExtN.refl H) hT (Heap.get?_push_size _ rfl) (I.hok.fresh hsz) (nofr _ hsz) hco (hd.keep fun t o n nf e => ⟨n, Heap.get?_push_of_some _ (hx t o e)⟩)
/-- what the lambda's parameters are: none, or one with a default that is a small number -/
inductive LamPar : Arguments → List Int → Prop
  | none {params : Arguments} (hdef : ∀ env, defaultsOf params env = ([], [])) : LamPar params []
  | one {params : Arguments} {i : Int} {j : Nat} {p : Pos} (hd : params.defaults = [.Constant (.int i) j p]) (hk : params.kw_defaults = []) : LamPar params [i]
/-- the lambda is made -/
theorem lam_eval {T : List (Addr × Str)} {c P : Addr} {params : Arguments} {body : Expr} {scope : Scope} {pos : Pos} {dv : List Int} {E : Value → Shared → Prop} {Q : Value → Shared → Prop} (LP : LamPar params dv) (I : Inv X pins σ H s) (TB : TabB X.base X.mg c P) (hcode : X.env.code = .ref c)
    (hm : (P, X.env.qual ++ "<lambda>") ∈ T) (hu : ∀ p ∈ T, p.1 = P → p.2 = X.env.qual ++ "<lambda>") (hT : Tabs T H) (hfree : ∀ y ∈ scope.names, y.2 = .free → ∃ c, X.env.cells.lookup y.1 = some c)
    (h : ∀ (f c' : Addr) (dV doc pm ctv : Value) (H1 : Hp) (s' : Shared), Inv X pins σ H1 s' → ExtN H H1 → Tabs T H1 →
      s'.heap.get? f = some (PySem.W.kdv_obj "<lambda>" (X.env.qual ++ "<lambda>") params (.expr body) scope (cloFrom X.env.cells scope.names []) dV doc pm c' ctv) → H1 f = none → f ∉ frs X.stack → H1 c' = some (CodeO c' (X.env.qual ++ "<lambda>")) → DvOk (frs X.stack) H1 s'.heap dv dV → Q (.ref f) s') :
    wpAny (model X.prog X.w) X.A (eval (.Lambda params body scope pos) X.env) Q E s := by
  cases LP with
  | none hdef =>
    refine PySem.W.kla_eval (hdef _) ?_
    rw [makeFunction_eq]
    simp only [List.zip_nil_right, List.filterMap_nil, List.isEmpty_nil, if_true, pure_bind]
    exact lam_tail (dV := .none) I TB hcode hm hu hT hfree (show DvOk (frs X.stack) H s.heap [] .none from rfl) fun f c' doc pm ctv H1 s' => h f c' .none doc pm ctv H1 s'
  | @one i j p hd hk =>
    refine PySem.W.kdv_lam (by rw [hd]; rfl) hk ?_
    rw [hd]
    refine PySem.W.kdv_all1 (wpAny_Constant_int (PySem.W.kdv_all0 ?_))
    rw [makeFunction_eq]
    simp only [List.zip_nil_right, List.filterMap_nil, List.isEmpty_nil, List.isEmpty_cons, Bool.false_eq_true, if_false, if_true, pure_bind]
    refine wpAny_bind (wpAny_newTextTuple ?_)
    have nt : ∀ t, s.heap.objs.size ≤ t → t ∉ frs X.stack := fun f hf z => by
      rcases List.mem_cons.mp (I.stkSub _ z) with e | e
      · have h1 := I.lt
        rw [← e] at h1
        exact Nat.lt_irrefl _ (Nat.lt_of_lt_of_le h1 hf)
      · exact I.nofs hf e
    have I1 := I.kept (h' := s.heap.push (PySem.W.kdv_tup [.int i s.toks])) (t' := s.toks + 1) fun b o e => Heap.get?_push_of_some _ e
    exact lam_tail (dV := .ref s.heap.objs.size) I1 TB hcode hm hu hT hfree ⟨I.hok.fresh (Nat.le_refl _), nt _ (Nat.le_refl _), [.int i s.toks], .cons ⟨_, rfl⟩ .nil, Heap.get?_push_size _ rfl⟩ fun f c' doc pm ctv H1 s' => h f c' _ doc pm ctv H1 s'
end
/-! ### the lambda's names -/
/-- captured names and globals; its own names are none of N's -/
structure LamS2 (N : List Str) (sc scope : Scope) : Prop where
  kind : scope.kind = .function
  co : scope.isCoroutine = false
  gen : scope.isGenerator = false
  nocell : ∀ y ∈ scope.names, y.2 ≠ .cell
  own : ∀ y ∈ scope.names, y.2 = .local → y.1 ∉ N
  free : ∀ y ∈ scope.names, y.2 = .free → sc.names.lookup y.1 = some .cell ∨ sc.names.lookup y.1 = some .free
def lamS2B (N : List Str) (sc scope : Scope) : Bool :=
  decide (scope.kind = .function) && !scope.isCoroutine && !scope.isGenerator && scope.names.all fun y => !decide (y.2 = .cell) && (!decide (y.2 = .local) || !decide (y.1 ∈ N)) && (!decide (y.2 = .free) || decide (sc.names.lookup y.1 = some .cell) || decide (sc.names.lookup y.1 = some .free))
theorem lamS2_by {N : List Str} {sc scope : Scope} (h : lamS2B N sc scope = true) : LamS2 N sc scope := by
  unfold lamS2B at h
  simp only [Bool.and_eq_true, Bool.or_eq_true, Bool.not_eq_true', decide_eq_true_eq, decide_eq_false_iff_not, List.all_eq_true] at h
  obtain ⟨⟨⟨h1, h2⟩, h3⟩, h4⟩ := h
  refine ⟨h1, h2, h3, fun y hy => (h4 y hy).1.1, fun y hy e => ?_, fun y hy e => ?_⟩
  · rcases (h4 y hy).1.2 with z | z
    · exact absurd e z
    · exact z
  · rcases (h4 y hy).2 with (z | z) | z
    · exact absurd e z
    · exact .inl z
    · exact .inr z
section
variable {X : Cx} {pins : List (Addr × Obj)} {σ : L2.St} {H HZ : Hp} {s s1 : Shared}
theorem LamS2.has {scope : Scope} (L : LamS2 X.N X.env.scope scope) (ok : X.Ok) : ∀ y ∈ scope.names, y.2 = .free → ∃ c, X.env.cells.lookup y.1 = some c := fun y hy e => by
  rcases L.free y hy e with k | k
  · exact ok.has _ (.inl k)
  · exact ok.has _ (.inr k)
theorem lam_startD {A : Around} {outer : List Env} {E : XK} {scope : Scope} {f c' : Addr} {h₁ : Heap} {tk : Nat} {binds : List (Str × Value)} (I : Inv X pins σ H s) (L : LamS2 X.N X.env.scope scope) (e0 : Env0 X.prog X.w X.K X.mg X.base A outer s1 HZ) (hd : A.handled = none)
    (un : Un (frs X.stack) [] H HZ s.heap s1.heap) (hns : h₁.Ns s1.heap.objs.size fun y => binds.reverse.lookup y) (kp : ∀ b o, s1.heap.get? b = some o → h₁.get? b = some o) :
    Inv (lamCx X A outer s1 HZ E scope f c') [] σ HZ { s1 with heap := h₁, toks := tk } := by
  have hfree := L.has I.ok
  have cm : ∀ {y c}, (cloFrom X.env.cells scope.names []).lookup y = some c → X.env.cells.lookup y = some c := fun {y c} e => by
    rcases cloFrom_mem (PySem.mem_of_lookup e) with hm | ⟨h1, h2⟩
    · cases hm
    · obtain ⟨c1, hc⟩ := hfree _ h1 rfl
      have hc : X.env.cells.lookup y = some c1 := hc
      have e2 : c = c1 := by
        rw [h2, hc] <;> rfl
      rw [e2]
      exact hc
  have look : ∀ {y}, scope.names.lookup y = some .free → ∃ c, (cloFrom X.env.cells scope.names []).lookup y = some c := fun {y} hl => by
    have hy : (y, NameKind.free) ∈ scope.names := PySem.mem_of_lookup hl
    exact mem_lookup (cloFrom_has (cells := X.env.cells) (acc := []) hy)
  have cellK : ∀ {c : Addr} {v : Option Value}, H c = none → s.heap.IsCell c v → h₁.IsCell c v := fun {c v} n ⟨o, ho, hd⟩ => by
    obtain ⟨sl, q⟩ := un.any ho n (by simp)
    exact ⟨_, kp _ _ q, hd⟩
  have noA : ∀ b : Addr, b ∉ (lamCx X A outer s1 HZ E scope f c').ex := fun b z => absurd (show b ∈ ([] : List Addr) from z) (by simp)
  refine ⟨⟨e0.mod, L.kind, rfl, rfl, Nat.le_refl _, fun y z c e1 e2 => I.ok.inj y z c (cm e1) (cm e2), fun y hy => ?_, fun y c z _ => ?_, fun _ => hd, Around.frames_deeper e0.frames, .inr ⟨rfl, rfl⟩, fun b z => absurd z (noA b), e0.bs, e0.bsz, fun b _ _ => noA b,
      fun b z => absurd z (noA b), e0.funs, e0.frf⟩,
    rfl, e0.bare, Un.kept kp, ⟨_, hns, fun i y v e1 e2 e3 => ?_⟩, fun y c e => ?_, e0.hok.fresh (Nat.le_refl _), fun y c e => ?_, fun q hq => absurd (show q ∈ ([] : List (Addr × Obj)) ++ [] from hq) (by simp), e0.hok.kept kp, I.len⟩
  · have hy : scope.names.lookup y = some .cell ∨ scope.names.lookup y = some .free := hy
    rcases hy with hy | hy
    · exact absurd rfl (L.nocell _ (PySem.mem_of_lookup hy))
    · exact look hy
  · have z : false = true := z
    cases z
  · have e3 : Vis scope y := e3
    rcases e3 with k | k | k
    · exact absurd (List.mem_of_getElem? e1) (L.own _ (PySem.mem_of_lookup k) rfl)
    · exact absurd rfl (L.nocell _ (PySem.mem_of_lookup k))
    · obtain ⟨m, hn, hl⟩ := I.loc
      have hvis : Vis X.env.scope y := (L.free _ (PySem.mem_of_lookup k) rfl).elim (fun k => .inr (.inl k)) (fun k => .inr (.inr k))
      obtain ⟨w', r, q⟩ := hl i y v e1 e2 hvis
      obtain ⟨c2, h2⟩ := look k
      refine ⟨w', r, .inr ⟨.inr k, c2, h2, ?_⟩⟩
      have c1 := cm h2
      rcases q with ⟨k', _⟩ | ⟨_, c3, e', z⟩
      · have k' : X.env.scope.names.lookup y = some .local := k'
        rcases L.free _ (PySem.mem_of_lookup k) rfl with k2 | k2 <;> rw [show X.env.scope.names.lookup y = _ from k2] at k' <;> cases k'
      · rw [c1] at e'
        cases e'
        exact cellK (I.freeC y _ c1) z
  · obtain ⟨w', z⟩ := I.cell y c (cm e)
    exact ⟨w', cellK (I.freeC y c (cm e)) z⟩
  · obtain ⟨v, o, ho, hd⟩ := I.cell y c (cm e)
    exact un.free c o ho (I.freeC y c (cm e)) (by simp)
/-- how the lambda binds: nothing, or its default -/
def LamBind (params : Arguments) (scope : Scope) (dv : List Int) : Prop := ∃ nms : List Str, nms.length = dv.length ∧ (∀ y ∈ nms, scope.names.lookup y = some .local) ∧
  ∀ (h : Heap) (s : Shared) (us : List Value) (dV : Value) (q : Str) (body : Expr) (cl : List (Str × Addr)) (doc pm cv ctv : Value), Vals (dv.map V.int) us → s.heap = h → (dV = .none ∧ us = [] ∨ ∃ t, dV = .ref t ∧ h.get? t = some (PySem.W.kdv_tup us)) →
    BindsTo s (PySem.W.kdv_fn "<lambda>" q params (.expr body) scope cl dV doc pm cv ctv) ⟨[], []⟩ (nms.zip us)
/-- x(), in the def that got the lambda -/
theorem pe_actD {CXg : CXT} {Eg : XK} {Ng : List Str} {qg : Str} {sg : Scope} {g f c' : Addr} {cdg pm ctv dV doc : Value} {dv : List Int} {params : Arguments} {body : Expr} {scope : Scope} {k i : Nat} {a : Str} {pn : List (Addr × Obj)} {xe : Value → Shared → Prop} {W : WX} {tb : XK → TE} {p1 p2 : Pos}
    (I : Inv X pins σ H s) (L : LamS2 X.N X.env.scope scope) (hf : s.heap.get? f = some (PySem.W.kdv_obj "<lambda>" (X.env.qual ++ "<lambda>") params (.expr body) scope (cloFrom X.env.cells scope.names []) dV doc pm c' ctv)) (hfn : H f = none) (hfr : f ∉ frs X.stack) (hdv : DvOk (frs X.stack) H s.heap dv dV)
    (hbind : LamBind params scope dv)
    (tk : Takes ((cxOf CXg X.prog X.w X.K X.mg X.base Ng qg sg g cdg X.A X.stack s H Eg).tr pn xe) W) (hr : Room (k + 1) (X.A.deeper (envOfC qg sg s.heap.objs.size g cdg)))
    (hbody : ∀ (E : XK) (A : Around) (outer : List Env) (s : Shared) (H : Hp), Room k (A.deeper (lamEnv X scope s.heap.objs.size f c')) → PE (lamCx X A outer s H E scope f c') body (tb E))
    (hN : Ng[i]? = some a) (hv : Vis sg a) (hd : (a == ("__debug__" : Str)) = false := by decide) (hcd : (a == ("__classdict__" : Str)) = false := by decide) :
    PE ((cxOf CXg X.prog X.w X.K X.mg X.base Ng qg sg g cdg X.A X.stack s H Eg).tr pn xe) (.Call (.Name a p1) [] [] p2)
      (fun σZ HZ Q => σZ[i]? = some (some (.ref f)) ∧ HZ c' = some (CodeO c' (X.env.qual ++ "<lambda>")) ∧ ∃ E : XK, (∀ cls d H', E cls d H' → W cls d σZ H') ∧ tb E σ HZ Q) := by
  refine ⟨fun pinsZ sZ σZ HZ Q IZ h => ?_⟩
  obtain ⟨hs, hc, E, hW, ht⟩ := h
  refine wpAny_Call_Name_kw (thn ((pe_var (pos := p1) (i := i) hN hv hd hcd).run pinsZ sZ σZ HZ (fun v H1 => v = .ref f ∧ H1 = HZ) IZ ⟨.ref f, hs, rfl, rfl⟩) fun u s1 ⟨v, H1, I1, r1, q1⟩ => ?_)
  obtain ⟨ev, eH⟩ := q1
  subst ev
  rw [eH] at I1
  obtain rfl : u = Value.ref f := r1
  have keep1 : ∀ b o, H b = none → b ∉ frs X.stack → s.heap.get? b = some o → s1.heap.get? b = some o := fun b o n nf e => I1.base.keep b o e n nf (fun z => nomatch (show b ∈ ([] : List Addr) from z))
  have of1 := keep1 f _ hfn hfr hf
  refine PySem.W.callWith_F0 ⟨_, _, _, _, of1⟩ ?_
  have un : Un (frs X.stack) [] H HZ s.heap s1.heap := I1.base
  obtain ⟨⟨oc, vs, t, hoc, hdc, hvc⟩, _, _⟩ := I1.hok c' _ hc
  obtain ⟨nms, nl, nloc, hb⟩ := hbind
  obtain ⟨us, ru, hdV⟩ : ∃ us : List Value, Vals (dv.map V.int) us ∧ (dV = .none ∧ us = [] ∨ ∃ t, dV = .ref t ∧ s1.heap.get? t = some (PySem.W.kdv_tup us)) := by
    cases dV with
    | none =>
      have e : dv = [] := hdv
      subst e
      exact ⟨[], .nil, .inl ⟨rfl, rfl⟩⟩
    | ref t =>
      obtain ⟨d1, d2, us, r, e⟩ := hdv
      exact ⟨us, r, .inr ⟨t, rfl, keep1 t _ d1 d2 e⟩⟩
    | _ => exact hdv.elim
  have rc : codeAny (model X.prog X.w) (X.A.deeper (envOfC qg sg s.heap.objs.size g cdg)) (.call (.ref f) ⟨[], []⟩) (CR (L2.CX X.prog X.w) (envOfC qg sg s.heap.objs.size g cdg :: X.stack) X.prog X.w HZ s1 Q E) s1 := by
    refine PySem.W.kla_callFunE hr.depth of1 rfl L.co L.gen rfl ⟨c', oc, vs, t, rfl, hoc, hdc, hvc⟩ ?_
    refine hb s1.heap s1 us dV _ _ _ _ _ _ _ ru rfl hdV _ _ _ _ ?_
    refine wpAny_newFunctionEnv (fun y hy => L.nocell y hy) (fun y hy => nloc _ (List.of_mem_zip hy).1) (fun h₁ hns hsb => ⟨I1.nolimit.fresh _ hsb, ?_⟩) L.kind
    show codeAny _ _ (.expr body (lamEnv X scope s1.heap.objs.size f c')) _ _
    have kp : ∀ b o, s1.heap.get? b = some o → h₁.get? b = some o := fun b o e => hsb.extBut b o (Nat.ne_of_lt (Heap.lt_size e)) (Heap.get?_push_of_some _ e)
    have J : Inv (lamCx X (X.A.deeper (envOfC qg sg s.heap.objs.size g cdg)) (envOfC qg sg s.heap.objs.size g cdg :: X.stack) s1 HZ E scope f c') [] σ HZ { s1 with heap := h₁, toks := s1.toks + (nms.zip us).length } :=
      lam_startD I L I1.env0 hr.hd un hns kp
    refine PySem.W.kla_codeExpr (wpAny_mono ((hbody E _ _ s1 HZ (hr.deeper _)).run [] _ _ HZ Q J ht) (fun v s' hq => ?_) fun e s' hq => hq)
    obtain ⟨w', H', J', rv, q⟩ := hq
    exact ⟨w', H', J'.os, J'.bare, J'.base, J'.hok, rv, q⟩
  refine wpAny_call (codeAny_mono rc fun r s' hq => ?_)
  cases r with
  | error e => exact tk e s' (XE.of_call I1 (fun cls d H' h => hW cls d H' h) hq)
  | ok fl =>
    cases fl with
    | ret u => exact I1.after hq
    | next => exact False.elim hq
    | brk => exact False.elim hq
    | cont => exact False.elim hq
end
end Dn

set_option maxRecDepth 100000
set_option maxHeartbeats 2000000
/-! Dn, part Xd: try: .. except (C1, C2) as e: z = e, the error kept as a thing. -/
namespace Dn
open PySem PySem.Spec PyProof.Rows L2
theorem flz_keeps {B h h' : Heap} {l : List Env} {a : Addr} {Z : Obj → Prop} (k : ∀ b o, h.get? b = some o → h'.get? b = some o) (x : HandSPX.FlyingZ B l a Z h) : HandSPX.FlyingZ B l a Z h' := by
  obtain ⟨x1, x2, x3, oe, vs, T, oT, ts, y1, y2, y3, y4, y5, y6, y7, y8, y9⟩ := x
  exact ⟨fun b o e => k b o (x1 b o e), x2, Heap.FunFrames.of_keeps (fun b o e _ => ⟨o, k b o e, rfl⟩) x3, oe, vs, T, oT, ts, k _ _ y1, y2, y3, y4, y5, y6, k _ _ y7, y8, y9⟩
section
variable {X : Cx} {pins : List (Addr × Obj)} {σ : L2.St} {H : Hp} {s : Shared}
/-- a thing that was not there at the entry, held by nothing else, is tracked from now on -/
theorem inv_track {a : Addr} {φ : Heap → Prop} {oe : Obj} (I : Inv X pins σ H s) (h0 : X.s_0.heap.get? a = none) (na : H a = none) (ha : s.heap.get? a = some oe) (nL : a ≠ X.env.locals) (ncell : ∀ v, oe.data ≠ .cell v) (np : ∀ p ∈ X.pn ++ pins, p.1 ≠ a)
    (hφ : φ s.heap) (hst : ∀ h1 h2 : Heap, φ h1 → (∀ o, h1.get? a = some o → h2.get? a = some o) → φ h2) : Inv X pins σ (upd H a (.ext φ)) s := by
  have n0 : ∀ b o, X.s_0.heap.get? b = some o → b ≠ a := fun b o e z => by
    rw [z, h0] at e
    cases e
  refine ⟨I.ok, I.os, I.bare, ⟨I.base.keep, I.base.slot, fun b o e n hx => ?_, I.base.there, fun b xs e => ?_, fun b o u e => ?_, fun b ps e => ?_⟩, I.loc, I.cell, ?_, fun y c e => ?_, fun p hp => ?_, fun b u e => ?_, I.len⟩
  · rw [upd_ne (n0 b o e)]
    exact I.base.free b o e n hx
  · have q := I.base.tups b xs e
    rw [upd_ne (ne_of_none q na)]
    exact q
  · have q := I.base.frzs b o u e
    rw [upd_ne (ne_of_none q na)]
    exact q
  · obtain ⟨m, q⟩ := I.base.tbls b ps e
    exact ⟨m, by rw [upd_ne (ne_of_none q na)]; exact q⟩
  · rw [upd_ne (Ne.symm nL)]
    exact I.free
  · rw [upd_ne (fun z => ?_)]
    · exact I.freeC y c e
    · obtain ⟨v, o, ho, hd⟩ := I.cell y c e
      rw [z, ha] at ho
      cases ho
      exact ncell _ hd
  · obtain ⟨p1, p2, p3, p4, p5⟩ := I.pin p hp
    exact ⟨p1, by rw [upd_ne (np p hp)]; exact p2, p3, p4, p5⟩
  · by_cases hb : b = a
    · subst hb
      rw [upd_same] at e
      cases e
      exact ⟨hφ, ⟨oe, ha⟩, fun h1 h2 z k => hst h1 h2 z k⟩
    · rw [upd_ne hb] at e
      exact (I.hok b u e).stay (fun c v _ q => q) (fun c q => by rw [upd_ne (ne_of_none q na)]; exact q) fun c xs q => by rw [upd_ne (ne_of_none q na)]; exact q
end
/-- what is wished of an error of the body: it is of C1 or C2, and goes on with the error in slot j, slot i (the clause's name) empty -/
def wKeep (K : PySem.W.Frag) (C1 C2 : Addr) (i j : Nat) (D : Ends) : WX := fun cls d σ H =>
  PySem.W.exmAny K cls [.ref C1, .ref C2] = some true ∧ ∀ a, H a = none → D.nx ((σ.set j (some (.ref a))).set i none) (upd H a (ExoH cls d a))
section
variable {X : Cx} {x1 x2 n y : Str} {C1 C2 : Addr} {i j kt : Nat} {body : List Stmt} {np1 np2 tp ap yp nq pos pos' : Pos} {tb : WX → TS}
theorem ps_try_keep (hs : X.stack = X.env :: X.outer) (hf : X.env.frame = some X.env.locals) (hN : X.N.Nodup) (hi : X.N[i]? = some n) (hj : X.N[j]? = some y) (hln : X.env.kindOf n = some .local) (hly : X.env.kindOf y = some .local)
    (g1 : Gl X x1) (m1 : X.mg x1 = some (.ref C1)) (d1 : (x1 == ("__debug__" : Str)) = false) (g2 : Gl X x2) (m2 : X.mg x2 = some (.ref C2)) (d2 : (x2 == ("__debug__" : Str)) = false) (ent : X.ex = [])
    (hsw : swapsWith (.Name n nq) (some (.Name y yp)) ap.line X.env = pure false) (hvd : (n == ("__debug__" : Str)) = false) (hvc : (n == ("__classdict__" : Str)) = false)
    (hb : ∀ (W : WX) (pn : List (Addr × Obj)) (xe : Value → Shared → Prop), Takes (X.tr pn xe) W → PassesOwn (model X.prog X.w) X.A X.env xe → PSs (X.tr pn xe) body (tb W)) :
    PS X (.Try body [.ExceptHandler (some (.Tuple [.Name x1 np1, .Name x2 np2] kt tp)) (some n) [.Assign [.Name y yp] (.Name n nq) ap] pos'] [] [] pos) (fun D σ H => tb (wKeep X.K C1 C2 i j D) D σ H) := by
  refine ⟨fun pins s σ H D I h => ?_⟩
  have ok := I.ok
  have hfr : X.A.frames = some (X.env :: X.outer) := by rw [ok.frames, hs]
  have hloc : L2.Loc X.env.scope n := .inl hln
  refine wpAny_Try_except ?_
  refine wpAny_mono ((hb (wKeep X.K C1 C2 i j D) (X.pn ++ pins) (fun e s₁ => wpAny (model X.prog X.w) X.A (noteFrame e X.env) (fun _ s₂ => wpAny (model X.prog X.w) X.A (setFlight e none) (fun _ s₃ =>
    wpAny (model X.prog X.w) X.A (handleBy e X.env [.ExceptHandler (some (.Tuple [.Name x1 np1, .Name x2 np2] kt tp)) (some n) [.Assign [.Name y yp] (.Name n nq) ap] pos']) (SP X pins D) X.xe s₃) X.xe s₂) X.xe s₁) (fun u s' xx => ?_) PassesOwn.looking).run [] s σ H D (I.toTry _) h) (fun f s1 hsp => ?_) (fun e s1 he => he)
  · -- the catch
    obtain ⟨a, B, sI, pins', σ', H', cls, d, rfl, J', nb, up, sky, na, os, ag, hb1, hyes⟩ := xx
    have J : Inv X pins σ' H' sI := J'.ofTry ok
    have sky' : Sky B (X.env :: X.outer) a (Zc cls d) X.env.locals s'.heap := by rw [← hs]; exact sky
    show wpAny (model X.prog X.w) X.A (noteFrame (.ref a) X.env) _ _ _
    refine Sky.land Zc.steady hfr hf sky' fun h3 fl3 up3 => ?_
    have J3 : Inv X pins σ' H' { s' with heap := h3 } := J.landed nb fl3.1 (up.trans up3) os ag
    obtain ⟨oe3, vs3, he3, hz3, hd3⟩ := fl3.there
    have notFr : ∀ {h : Heap} {o : Obj} {vs : Array Value}, h.FunFrames B (X.env :: X.outer) → h.get? a = some o → o.data = .fields vs → a ∉ frs (X.env :: X.outer) := fun {h o vs} ff e dd hm => by
      obtain ⟨_, o', e', hnf⟩ := ff.mem hm
      rw [e] at e'; cases e'
      exact hnf _ dd
    have nfr := notFr fl3.2.2.1 he3 hd3
    have nL : a ≠ X.env.locals := fun z => nfr (List.mem_filterMap.mpr ⟨X.env, List.mem_cons_self, by rw [hf, z]⟩)
    have nF : a ∉ X.fs := fun hm => by
      obtain ⟨e, he, q⟩ := List.mem_filterMap.mp hm
      exact nfr (List.mem_filterMap.mpr ⟨e, List.mem_cons_of_mem _ he, q⟩)
    have aI : sI.heap.get? a = none := by
      cases z : sI.heap.get? a with
      | none => rfl
      | some o =>
        have q := nb a o z (by rw [hs]; exact nfr)
        rw [fl3.2.1] at q
        cases q
    have a0 : X.s_0.heap.get? a = none := by
      cases z : X.s_0.heap.get? a with
      | none => rfl
      | some o =>
        obtain ⟨o', q⟩ := J.base.there a o z (by rw [ent]; exact fun z => nomatch z)
        rw [aI] at q
        cases q
    have np : ∀ p ∈ X.pn ++ pins, p.1 ≠ a := fun p hp z => by
      obtain ⟨q, _⟩ := J.pin p hp
      rw [z, aI] at q
      cases q
    have S3 := J3.suite he3 hd3 na nL nF
    refine wpAny_handleBy_cons (codeAny_handlers_test ?_) (by intro q; cases q)
    refine wpAny_Tuple_spliced ?_
    show wpAny _ _ (spliced [(false, eval (.Name x1 np1) X.env), (false, eval (.Name x2 np2) X.env)]) _ _ _
    refine Calls.spliced_cons (ld_glob (X := X.suite a ((a, oe3) :: (X.pn ++ pins))) S3 g1 m1 ?_ d1)
    refine Calls.spliced_cons (ld_glob (X := X.suite a ((a, oe3) :: (X.pn ++ pins))) S3 g2 m2 ?_ d2)
    refine Calls.spliced_nil ⟨by rw [sizeLine_eq]; exact Nat.le_of_ble_eq_true rfl, ?_⟩
    have kT : ∀ b o, h3.get? b = some o → (h3.push { cls := .type "tuple", data := .seq [Value.ref C1, .ref C2].toArray }).get? b = some o := fun b o e => Heap.get?_push_of_some _ e
    have LT : PySem.W.Looks (model X.prog X.w) (h3.push { cls := .type "tuple", data := .seq [Value.ref C1, .ref C2].toArray }) (typeOf (.ref a)) cls := fun A Q E s k q => wpAny_typeOf_ref (k _ _ (kT _ _ he3)) (by rw [hz3.1]; exact q)
    have LM := PySem.W.exm_tup2 (M := model X.prog X.w) (J3.kIn.keeps kT) LT (Heap.get?_push_size h3 rfl) hb1
    refine LM.here ?_
    refine codeAny_handlers_suite_as ?_
    have flT := flz_keeps kT fl3
    refine HandSPX.lands_againZ flT fun h4 fl4 up4 => ?_
    have J4 : Inv X pins σ' H' { s' with heap := h4 } := J.landed nb fl4.1 (((up.trans up3).trans (Heap.UpToSlots.of_keeps kT)).trans up4) os ag
    obtain ⟨oe4, vs4, he4, hz4, hd4⟩ := fl4.there
    have S4 := J4.suite he4 hd4 na nL nF
    refine store_ok (X := X.suite a ((a, oe4) :: (X.pn ++ pins))) (v := .ref a) S4 hN hi hloc rfl (fun s5 S5 => ?_) (.inr hln)
    refine wpAny_mono ((pss_one (ps_set (X := X.suite a ((a, oe4) :: (X.pn ++ pins))) hN hj (.inl hly) (pe_var (i := i) hi (.inl hln) hvd hvc) hsw (.inr hly))).run [] s5 _ H' { nx := fun σ6 H6 => σ6 = (σ'.set i (some (.ref a))).set j (some (.ref a)) ∧ H6 = H', rt := fun _ _ => False } S5 ?_) (fun f s6 hsp => ?_) (fun _ _ z => False.elim z)
    · have hl : i < σ'.length := by rw [J.len]; exact (List.getElem?_eq_some_iff.mp hi).1
      exact ⟨.ref a, List.getElem?_set_self hl, rfl, rfl⟩
    · cases f with
      | next =>
        obtain ⟨σ6, H6, S6, e6, e7⟩ := hsp
        subst e6 e7
        obtain ⟨pa, _⟩ := S6.pin (a, oe4) (List.mem_append_left _ List.mem_cons_self)
        have J6 := S6.unsuite ok
        have J7 := inv_track (φ := fun h => ∃ (oe : Obj) (vs : Array Value), h.get? a = some oe ∧ oe.cls = cls ∧ oe.dict = d ∧ oe.data = .fields vs) J6 a0 na pa nL (fun v z => by rw [hd4] at z; cases z) np ⟨oe4, vs4, pa, hz4.1, hz4.2, hd4⟩ (fun h1 h2 ⟨o, v, q1, q2⟩ k => ⟨o, v, k o q1, q2⟩)
        refine gone_ok J7 hN hi hln fun s7 J8 => ⟨_, _, J8, ?_⟩
        have el : (((σ'.set i (some (.ref a))).set j (some (.ref a))).set i none) = (σ'.set j (some (.ref a))).set i none := by
          by_cases z : i = j
          · subst z
            rw [List.set_set]
          · rw [List.set_comm _ _ (Ne.symm z), List.set_set, List.set_comm _ _ z]
        show D.nx _ _
        rw [el]
        exact hyes a na
      | brk => exact (show False from by obtain ⟨_, _, _, z⟩ := hsp; exact z).elim
      | cont => exact (show False from by obtain ⟨_, _, _, z⟩ := hsp; exact z).elim
      | ret u => exact (show False from by obtain ⟨_, _, _, _, _, z⟩ := hsp; exact z).elim
  · cases f with
    | next =>
      obtain ⟨σ', H', J', q⟩ := hsp
      exact wpAny_execs_nil ⟨σ', H', J'.ofTry ok, q⟩
    | brk =>
      obtain ⟨σ', H', J', q⟩ := hsp
      exact ⟨σ', H', J'.ofTry ok, q⟩
    | cont =>
      obtain ⟨σ', H', J', q⟩ := hsp
      exact ⟨σ', H', J'.ofTry ok, q⟩
    | ret u =>
      obtain ⟨v, σ', H', J', r, q⟩ := hsp
      exact ⟨v, σ', H', J'.ofTry ok, r, q⟩
end
end Dn

set_option maxRecDepth 100000
set_option maxHeartbeats 2000000
/-! Dn, part Xe: told(lambda: e): what e gives, alone in a list, or what is told of its error. -/
namespace Dn
open PySem PySem.Spec PyProof.Rows L2 LamX
/-- the body of the def that tells -/
def ToldBody (b : List Stmt) : Prop := ∃ (a1 a2 a3 a4 a5 a6 a7 b1 b2 b3 b4 b5 c1 c2 c3 c4 c5 c6 c7 d0 d1 d2 d3 d4 d5 d6 d7 d8 d9 : Pos) (k1 k2 k3 k4 k5 k6 : Nat), b =
  [.Assign [.Tuple [.Name "_law_found" a1, .Name "_law_error" a2] k1 a3] (.Tuple [.Constant .none k2 a4, .Constant .none k3 a5] k4 a6) a7,
   .Try [.Assign [.Name "_law_found" b1] (.Call (.Name "_law_call" b2) [] [] b3) b4]
     [.ExceptHandler (some (.Tuple [.Name "CoinError" c1, .Name "TooGreat" c2] k5 c3)) (some "e") [.Assign [.Name "_law_error" c4] (.Name "e" c5) c6] c7] [] [] b5,
   .Return (some (.IfExp (.Compare (.Name "_law_error" d0) [.Is] [.Constant .none k6 d1] d2) (.List [.Name "_law_found" d3] d4) (.Call (.Name "_law_class" d5) [.Name "_law_error" d6] [] d7) d8)) d9]
abbrev toldN : List Str := ["_law_call", "_law_found", "_law_error", "e"]
structure ToldSc (sc : Scope) : Prop where
  fn : FnScope toldN ["_law_call"] sc
  loc : ∀ y ∈ toldN, sc.names.lookup y = some .local
  g1 : sc.names.lookup ("CoinError" : Str) = some .globalImplicit
  g2 : sc.names.lookup ("TooGreat" : Str) = some .globalImplicit
  g3 : sc.names.lookup ("_law_class" : Str) = some .globalImplicit
/-- what is made of the lambda's reading -/
def tTold (K : PySem.W.Frag) (C1 C2 : Addr) (spc : Sp) (tl : XK → Hp → VK → Prop) (H : Hp) (Q : VK) : Prop := ∀ (E : XK) (Q' : VK),
  (∀ cls d H', (PySem.W.exmAny K cls [.ref C1, .ref C2] = some true ∧ ∀ a, H' a = none → spc [.ref a] (upd H' a (ExoH cls d a)) Q fun _ _ _ => False) → E cls d H') →
  (∀ v H', (∀ p, H' p = none → Q (.ref p) (upd H' p (.lst [v]))) → Q' v H') → tl E H Q'
/-- the stores of two written Nones are not swapped -/
theorem sw_non {x y : Str} {a1 a2 a3 a4 a5 a6 : Pos} {k1 k2 k3 k4 : Nat} {env : Env} : swappedStores [.Tuple [.Name x a1, .Name y a2] k1 a3] (.Tuple [.Constant .none k2 a4, .Constant .none k3 a5] k4 a6) env = pure none := by
  unfold swappedStores
  dsimp only [pure_bind]
  split
  · rfl
  · split
    · rfl
    · split
      · rfl
      · rfl
section
variable {X : Cx}
theorem told_body {fdc : FuncData} {g f c' fcl C1 C2 : Addr} {q : Str} {cdg : Value} {b : List Stmt} {sg : Scope} {s : Shared} {H : Hp} {Q : VK} {kc : Nat} {spc : Sp} {tl : XK → Hp → VK → Prop} (Hb : ToldBody b) (S : ToldSc sg) (m1 : X.mg "CoinError" = some (.ref C1)) (m2 : X.mg "TooGreat" = some (.ref C2))
    (Fc : FnOk X.prog X.w X.K X.mg X.base (L2.CX X.prog X.w) kc fcl fdc ["_law_error"] spc) (hmc : X.mg "_law_class" = some (.ref fcl)) (kpc : PySem.W.keepIn X.K (.ref fcl) = true) (bc : Binds X.K fdc ["_law_error"] [])
    (hr : Room kc (X.A.deeper (envOfC "_law_told" sg s.heap.objs.size g cdg)))
    (act : ∀ (W : WX) (pn : List (Addr × Obj)) (xe : Value → Shared → Prop) (p1 p2 : Pos), Takes ((cxOf (L2.CX X.prog X.w) X.prog X.w X.K X.mg X.base toldN "_law_told" sg g cdg X.A X.stack s H L2.E0).tr pn xe) W →
      PE ((cxOf (L2.CX X.prog X.w) X.prog X.w X.K X.mg X.base toldN "_law_told" sg g cdg X.A X.stack s H L2.E0).tr pn xe) (.Call (.Name "_law_call" p1) [] [] p2) (fun σZ HZ Q => σZ[0]? = some (some (.ref f)) ∧ HZ c' = some (CodeO c' q) ∧ ∃ E : XK, (∀ cls d H', E cls d H' → W cls d σZ H') ∧ tl E HZ Q))
    (hc : H c' = some (CodeO c' q)) (h : ∀ a, H a = none → tTold X.K C1 C2 spc tl (upd H a (.tup [.non, .non])) Q) :
    ∃ t, PSs (cxOf (L2.CX X.prog X.w) X.prog X.w X.K X.mg X.base toldN "_law_told" sg g cdg X.A X.stack s H L2.E0) b t ∧ t { nx := fun _ H' => Q .non H', rt := Q } (L2.start toldN [.ref f]) H := by
  obtain ⟨a1, a2, a3, a4, a5, a6, a7, b1, b2, b3, b4, b5, c1, c2, c3, c4, c5, c6, c7, d0, d1, d2, d3, d4, d5, d6, d7, d8, d9, k1, k2, k3, k4, k5, k6, rfl⟩ := Hb
  have l1 := S.loc "_law_found" (by decide)
  have l2 := S.loc "_law_error" (by decide)
  have l3 := S.loc "e" (by decide)
  have nd : toldN.Nodup := by decide
  have tk0 : Takes (cxOf (L2.CX X.prog X.w) X.prog X.w X.K X.mg X.base toldN "_law_told" sg g cdg X.A X.stack s H L2.E0) (fun _ _ _ _ => False) := LamX.takes0
  refine ⟨_, pss_cons (ps_asg (pe_tup (pa_cons pe_non (pa_cons pe_non pa_nil))) (pg_tup rfl (pgs_cons (pg_name (i := 1) nd rfl (.inl l1) (.inr l1)) (pgs_cons (pg_name (i := 2) nd rfl (.inl l2) (.inr l2)) pgs_nil))) (hw := sw_non)) (pss_cons (ps_try_keep (X := cxOf (L2.CX X.prog X.w) X.prog X.w X.K X.mg X.base toldN "_law_told" sg g cdg X.A X.stack s H L2.E0) (i := 3) (j := 2)
      (tb := fun W D σ H => σ[0]? = some (some (.ref f)) ∧ H c' = some (CodeO c' q) ∧ ∃ E : XK, (∀ cls d H', E cls d H' → W cls d σ H') ∧ tl E H fun v H' => D.nx (σ.set 1 (some v)) H')
      rfl rfl nd rfl rfl l3 l2 S.g1 m1 (by decide) S.g2 m2 (by decide) rfl (by rfl) (by decide) (by decide) ?_)
    (pss_one (ps_ret (pe_ifExp (pt_cmpR op_isN (pe_var (i := 2) rfl (.inl l2) (by decide) (by decide)) pe_non (by rfl)) (pe_lst (pa_cons (pe_var (i := 1) rfl (.inl l1) (by decide) (by decide)) pa_nil)) (pe_callS Fc hr S.g3 hmc kpc bc (fun σ => passAt tk0 σ) (pa_cons (pe_var (i := 2) rfl (.inl l2) (by decide) (by decide)) pa_nil)))))), ?_⟩
  · intro W pn xe tk _
    refine pss_one (ps_set (X := (cxOf (L2.CX X.prog X.w) X.prog X.w X.K X.mg X.base toldN "_law_told" sg g cdg X.A X.stack s H L2.E0).tr pn xe) (i := 1) nd rfl (.inl l1) (act W pn xe b2 b3 tk) (by rfl) (.inr l1))
  · refine ⟨by decide, fun a ha => ⟨a, [.non, .non], rfl, .inl (.inl upd_same), rfl, .non, [.non], rfl, .non, [], rfl, rfl, ?_⟩⟩
    refine ⟨rfl, by rw [upd_ne (ne_of_none hc ha)]; exact hc, _, fun cls d H' z => z, ?_⟩
    refine h a ha _ _ (fun cls d H' ⟨z1, z2⟩ => ⟨z1, fun a' na => ?_⟩) fun v H' z => ?_
    · refine ⟨.ref a', ?_, rfl, _, rfl, ?_⟩
      · rfl
      · exact ⟨.ref a', rfl, z2 a' na⟩
    · refine ⟨.non, rfl, rfl, _, rfl, v, rfl, (by decide : (1 : Nat) ≤ sizeLine), z⟩
end
/-! ### the rule -/
theorem Sim.extN {cf : Cfg} {m : List Addr} {H H1 : Hp} {A : AH} (S : Sim cf m H A) (e : ExtN H H1) (t : Tabs cf.tab H1) : Go cf m H m H1 A := by
  have fz : Fz H H1 := ⟨fun a xs h => e a _ h (fun _ z => by cases z), fun a o u h => e a _ h (fun _ z => by cases z)⟩
  refine ⟨Pre.refl m, fz, S.len, S.nd, fun n a o hm hA => ?_, t⟩
  have h := S.at_ n a o hm hA
  obtain ⟨w, hw, mw⟩ := h.main
  refine h.stay (Pre.refl m) fz (fun u hu => e a u hu fun ps z => ?_) fun c u hu z => e c u hu fun ps z' => ?_
  · rw [hw] at hu
    cases hu
    rw [z] at mw
    exact mw
  · rcases z with z | ⟨_, z⟩ <;> (rw [z] at z'; cases z')
/-- an error that is kept -/
theorem exn_obj {cf : Cfg} {m : List Addr} {H : Hp} {e : Ex} {cls : Value} {d : Option Addr} {a : Addr} (x : ExcR cf m H e cls d) (ha : H a = none) : ObjS cf (m ++ [a]) (upd H a (ExoH cls d a)) a (.exn e.c e.fs) := by
  obtain ⟨rfl, h⟩ := x
  rcases h with ⟨h1, rfl⟩ | ⟨dd, vs, rfl, h1, h2, h3⟩
  · exact .inl ⟨h1, upd_same⟩
  · have ne : dd ≠ a := ne_of_none h1 ha
    exact .inr ⟨dd, vs, ne, upd_same, by rw [upd_ne ne]; exact h1, h2, h3.mono (Pre.app m _) (fz_new ha)⟩
/-- told(lambda: f): its value alone in a list; of an error of one of cs what G says -/
def fTold (cs : List Nat) (f : FE) (G : FD) : FE := fun ρ A => match f ρ A with
  | .ok v A' => .ok (.obj A'.length) (A' ++ [.lst [v]])
  | .exc e A' => if e.c ∈ cs then (match G [.obj A'.length] (A' ++ [.exn e.c e.fs]) with
    | .ok v B => .ok v B
    | _ => .er) else .er
  | .er => .er
/-- the def that tells, in the text -/
structure ToldF (cf : Cfg) (mg : Str → Option Value) (C1 C2 : Addr) : Prop where
  ex : ∃ (g : Addr) (st : Stmt) (oc kV doc pm cdg ct : Value) (an od : Option Addr) (osl : Array (Option Value)),
    mg "_law_told" = some (.ref g) ∧ PySem.W.keepIn cf.K (.ref g) = true ∧ cf.K.lookup g = some ⟨oc, od, .func (PySem.W.fnOf "_law_told" "_law_told" (defArgs st) (defBody st) (defScope st) .none kV doc pm an cdg ct), osl⟩ ∧ PySem.W.codeIn cf.K cdg "_law_told" = true ∧
    ToldBody (defBody st) ∧ ToldSc (defScope st) ∧ BindsT "_law_told" "_law_told" st ["_law_call"]
  m1 : mg "CoinError" = some (.ref C1)
  m2 : mg "TooGreat" = some (.ref C2)
section
variable {cf : Cfg} {X : Cx}
theorem c_told {W : WX} {x : Str} {C1 C2 c P : Addr} {stc : Stmt} {Gc : FD} {k kc : Nat} {cs : List Nat} {params : Arguments} {body : Expr} {scope : Scope} {dv : List Int} {fb : FE} {p lpos pos : Pos}
    (T : ToldF cf X.mg C1 C2) (D : Df X.prog X.w cf X.mg X.base "_law_class" stc ["_law_error"] kc Gc) (hbc : BindsT "_law_class" "_law_class" stc ["_law_error"]) (hK : X.K = cf.K) (hcs : ∀ i ∈ cs, PySem.W.exmAny cf.K (.ref (cf.cls i)) [.ref C1, .ref C2] = some true)
    (hL : (x, c, P) ∈ cf.lam) (hu : ∀ q ∈ cf.lam, q.2.2 = P → q.1 = x) (TB : TabB X.base X.mg c P) (hcode : X.env.code = .ref c) (hq : X.env.qual ++ "<lambda>" = x ++ ".<locals>." ++ "<lambda>") (hr : Room (k + 2) X.A) (hkc : kc ≤ k + 1)
    (L : LamS2 X.N X.env.scope scope) (LP : LamPar params dv) (hbind : LamBind params scope dv)
    (hbody : ∀ (E : XK) (A : Around) (outer : List Env) (s : Shared) (H : Hp) (f c' : Addr), Room k (A.deeper (lamEnv X scope s.heap.objs.size f c')) → CE cf (lamCx X A outer s H E scope f c') (WD E) body fb)
    (hg : Gl X "_law_told" := by rfl) : CE cf X W (.Call (.Name "_law_told" p) [.Lambda params body scope lpos] [] pos) (fTold cs fb Gc) := by
  refine ⟨tF cf W (rA cf) (fTold cs fb Gc), ⟨fun pins s σ H Q I h => ?_⟩, ok_F⟩
  obtain ⟨ρ, m, A, S, LO, PO⟩ := h
  obtain ⟨g, st, oc, kV, doc, pm, cdg, ct, an, od, osl, hm, hk, lk, hcg, tb, ts, hb⟩ := T.ex
  obtain ⟨fc, fdc, Fc, hmc, Oc⟩ := D.ex
  have kpc := Fc.kp
  have bc := Fc.binds hbc
  have eq1 : X.env.qual ++ "<lambda>" = x ++ ".<locals>." ++ "<lambda>" := hq
  have hmT : (P, X.env.qual ++ "<lambda>") ∈ cf.tab := by
    rw [eq1]
    exact List.mem_map.mpr ⟨_, hL, rfl⟩
  have huT : ∀ q ∈ cf.tab, q.1 = P → q.2 = X.env.qual ++ "<lambda>" := fun q hq e => by
    obtain ⟨y, hy, rfl⟩ := List.mem_map.mp hq
    rw [eq1, ← hu y hy e]
  rw [← hK] at hk lk hcg kpc bc Oc hcs
  refine wpAny_Call_Name_kw (ld_glob I hg hm ?_ (by decide))
  refine PySem.W.callWith_K (h₀ := X.base) I.ok.mod.kin hk ?_ (by rfl) (by rfl)
  show wpAny _ _ (spliced ((false, eval (.Lambda params body scope lpos) X.env) :: backTo pos (starEach [] X.env))) _ _ s
  refine Calls.spliced_cons (lam_eval (T := cf.tab) LP I TB hcode hmT huT S.tab (L.has I.ok) fun f c' dV doc' pm' ctv H1 s' I1 eN T1 hf hfn hfr hco hdv => ?_)
  refine Calls.spliced_nil ⟨I1.kIn, ?_⟩
  have g1 := S.extN eN T1
  have L1 := LO.mono g1.pre g1.fz
  have hbt : BindsTo s' (PySem.W.fnOf "_law_told" "_law_told" (defArgs st) (defBody st) (defScope st) .none kV doc pm an cdg ct) ⟨[.ref f], []⟩ ([("_law_call" : Str)].zip [Value.ref f]) := by
    exact L2.Binds.all (K := X.K) (ps := ["_law_call"]) (hb kV doc pm an cdg ct) s' [.ref f] I1.kIn rfl
  have rc : codeAny (model X.prog X.w) X.A (.call (.ref g) ⟨[.ref f], []⟩) (CR (L2.CX X.prog X.w) X.stack X.prog X.w H1 s' Q L2.E0) s' := by
    refine run_ofS (N := toldN) (ps := ["_law_call"]) (us := [.ref f]) (vs := [.ref f]) lk hcg ts.fn hr I1.env0 hbt (.cons rfl .nil) rfl fun hr' => ?_
    refine told_body (tl := fun E H Q => tF cf (WD E) (rA cf) fb σ H Q) tb ts T.m1 T.m2 Oc hmc kpc bc (hr'.mono hkc)
      (fun W pn xe p1 p2 tk => pe_actD (i := 0) (a := "_law_call") I1 L hf hfn hfr hdv hbind tk hr' (fun E A outer s H hr2 => (hbody E A outer s H f c' hr2).pe) rfl (.inl (ts.loc _ (by decide))) (by decide) (by decide)) hco ?_
    intro a ha E Q' hE hQ
    have g2 := g1.trans (go_side (o := .tup [.non, .non]) g1.sim ha)
    refine ⟨ρ, m, A, g2.sim, LO.mono g2.pre g2.fz, ?_⟩
    have PO1 := Post.mono g2 PO
    revert PO1
    unfold fTold
    cases fb ρ A with
    | ok v A' =>
      intro PO1 m' H' u g3 r
      refine hQ u H' fun q hq => ?_
      exact PO1 _ _ _ (g3.trans (go_new (o := .lst [v]) g3.sim hq ⟨[u], upd_same, .cons (r.mono (Pre.app m' _) (fz_new hq)) .nil⟩)) (rel_new g3.sim)
    | exc e A' =>
      intro PO1 m' H' cls d g3 x
      obtain ⟨hm, PO2⟩ := post_if PO1
      refine hE cls d H' ⟨by rw [x.1]; exact hcs _ hm, fun a' ha' => ?_⟩
      have g4 := g3.trans (go_new (o := .exn e.c e.fs) g3.sim ha' (exn_obj x ha'))
      refine ⟨_, _, [.obj A'.length], g4.sim, .cons (rel_new g3.sim) .nil, rfl, ?_⟩
      have PO3 := Post.mono g4 PO2
      revert PO3
      cases Gc [.obj A'.length] (A' ++ [.exn e.c e.fs]) with
      | ok v B => exact fun PO3 => PO3
      | exc _ _ => exact fun PO3 => PO3.elim
      | er => exact fun PO3 => PO3.elim
    | er => exact fun PO1 => PO1.elim
  refine wpAny_call (codeAny_mono rc fun r s2 hq => ?_)
  cases r with
  | error e =>
    obtain ⟨_, _, _, _, _, _, _, _, _, _, _, _, z⟩ := hq
    exact z.elim
  | ok fl =>
    cases fl with
    | ret u => exact I1.after hq
    | next => exact False.elim hq
    | brk => exact False.elim hq
    | cont => exact False.elim hq
end
end Dn

set_option maxRecDepth 100000
set_option maxHeartbeats 2000000
/-! Dn, part Xf: kept errors asked and read; defs that make lambdas; the end with tables. -/
namespace Dn
open PySem PySem.Spec PyProof.Rows L2
/-! ### isinstance(e, C) of a kept error -/
/-- what isinstance asks of the error's class -/
structure XisC (K : PySem.W.Frag) (C : Addr) : Prop where
  xf : XfC K C
  si : SlX.SIsi K C
  cl : (PySem.W.clsIn K C).isSome = true
/-- the instance, of the heap -/
theorem exo_inst {X : Cx} {pins : List (Addr × Obj)} {σ : L2.St} {H : Hp} {s : Shared} {a C : Addr} {d : Option Addr} {fs : List (Str × V)} (I : L2.Inv X pins σ H s) (h : H a = some (ExoH (.ref C) d a)) (hd : ∀ dd, d = some dd → H dd = some (.xd fs)) :
    ∃ oe od, PySem.W.InstAt s.heap a oe C od := by
  obtain ⟨⟨oe, vs, e1, e2, e3, e4⟩, _, _⟩ := (show ObjOk X.prog X.w H s.heap a (ExoH (.ref C) d a) from I.hok a _ h)
  have no : PySem.W.notCls oe = true := by unfold PySem.W.notCls; rw [e4] <;> rfl
  cases d with
  | none => exact ⟨oe, none, e1, e2, no, by rw [e3]; exact True.intro⟩
  | some dd =>
    obtain ⟨mA, hns, _⟩ := (show ObjOk X.prog X.w H s.heap dd (.xd fs) from I.hok dd _ (hd _ rfl))
    obtain ⟨od, ho, _⟩ := lookIn_ns hns
    exact ⟨oe, some od, e1, e2, no, by rw [e3]; exact ho⟩
abbrev rIsiE (K : PySem.W.Frag) : List V → Hp → VK → Prop := fun xs H Q => ∃ (a C : Addr) (d : Option Addr) (fs : List (Str × V)) (c : V) (u : Value) (b : Bool), xs = [.ref a, c] ∧ ClsV c u ∧ H a = some (ExoH (.ref C) d a) ∧ (∀ dd, d = some dd → H dd = some (.xd fs)) ∧ XisC K C ∧
  PySem.W.kitOne K (.ref C) u = some b ∧ Q (.bl b) H
theorem call_isiE {X : Cx} : CallR X (.builtin "isinstance") (rIsiE X.K) := by
  intro pins s σ H xs us Q I r h
  obtain ⟨a, C, d, fs, c, u, b, rfl, k, hH, hd, F, e, q⟩ := h
  obtain ⟨u1, u2, rfl, r1, r2⟩ := vals2 r
  have e2 := k.eq r2
  subst e2
  cases (show u1 = Value.ref a from r1)
  obtain ⟨oe, od, J⟩ := exo_inst I hH hd
  exact PySem.W.kia_one (PySem.W.kitx_exc F.cl F.xf.ga F.xf.gg F.xf.exC F.si.ca F.si.cn F.si.ct F.si.cm) I.kIn J e (fun z => nomatch z) fun tk => ⟨.bl b, H, I.tok tk, rfl, q⟩
/-- isinstance(e, C) of a kept error, by its class -/
structure IsiE (cf : Cfg) (u : Value) (c : Nat) (b : Bool) : Prop where
  x : XisC cf.K (cf.cls c)
  kt : PySem.W.kitOne cf.K (.ref (cf.cls c)) u = some b
def fIsiE (rx : RelC) (fe : FE) : FE := fun ρ A => (fe ρ A).bind fun x A => match x with
  | .obj n => match A[n]? with
    | some (.exn c _) => match relAt rx c with
      | some b => .ok (.bl b) A
      | none => .er
    | _ => .er
  | _ => .er
section
variable {cf : Cfg} {X : Cx} {W : WX}
theorem exn_at {m : List Addr} {H : Hp} {a : Addr} {c : Nat} {fs : List AV} (h : ObjS cf m H a (.exn c fs)) : ∃ d vs, H a = some (ExoH (.ref (cf.cls c)) d a) ∧ (∀ dd, d = some dd → H dd = some (.xd ((cf.nam c).zip vs))) ∧ (∀ j : Nat, (fs[j]?).isSome = true → d.isSome = true) ∧ RelAs cf.K m H fs vs := by
  rcases h with ⟨rfl, e⟩ | ⟨dd, vs, _, e, e2, _, r⟩
  · exact ⟨none, [], e, fun _ z => (nomatch z), fun j hj => by simp at hj, .nil⟩
  · exact ⟨some dd, vs, e, fun _ z => by cases z; exact e2, fun _ _ => rfl, r⟩
theorem c_isiE {e : Expr} {xC : Str} {C : Addr} {p p2 pos : Pos} {fe : FE} (rx : RelC) (hK : X.K = cf.K) (hI : X.mg "isinstance" = none) (hm : X.mg xC = some (.ref C))
    (hx : ∀ q ∈ rx, IsiE cf (.ref C) q.1 q.2) (he : CE cf X W e fe) (hgI : Gl X "isinstance" := by rfl) (hg : Gl X xC := by rfl) (hd : (xC == ("__debug__" : Str)) = false := by decide)
    (hst : starEach [e, .Name xC p2] X.env = (false, eval e X.env) :: starEach [.Name xC p2] X.env := by rfl) (hs2 : starEach [.Name xC p2] X.env = (false, eval (.Name xC p2) X.env) :: starEach [] X.env := by rfl) (hpl : (backTo pos (starEach [.Name xC p2] X.env)).any (·.1) = false := by rfl) :
    CE cf X W (.Call (.Name "isinstance" p) [e, .Name xC p2] [] pos) (fIsiE rx fe) := by
  obtain ⟨t, q, o⟩ := he.ex
  have pC : PE X (.Name xC p2) (tC (.ref C)) := pe_glob (v := .ref C) hg hm rfl hd
  refine ⟨_, pe_callB call_isiE hgI hI boot_isinstance (pa_cons q (pa_cons pC pa_nil hs2) hst) (by decide) (by decide) hst hpl, fun ρ σ m H A Q S L P => ?_⟩
  refine o.then S L P fun x v m1 H1 A1 _ g1 L1 r P1 => ?_
  rw [hK]
  split at P1
  · rename_i n
    split at P1
    · rename_i c fs e1
      split at P1
      · rename_i b eb
        obtain ⟨F1, F2⟩ := hx _ (relAt_mem eb)
        obtain ⟨a, rfl, _, hO⟩ := g1.sim.obj r e1
        obtain ⟨d, vs, h1, h2, _, _⟩ := exn_at hO
        exact ⟨a, _, d, _, .ref C, _, b, rfl, .own C, h1, h2, F1, F2, P1 m1 H1 _ (Go.refl g1.sim) (.bl _)⟩
      · exact P1.elim
    · exact P1.elim
  · exact P1.elim
/-! ### e.f of a kept error -/
def tFldE (K : PySem.W.Frag) (n : Str) (te : TE) : TE := fun σ H Q => te σ H fun x H1 => ∃ (a C dd : Addr) (fs : List (Str × V)) (v : V), x = .ref a ∧ H1 a = some (ExoH (.ref C) (some dd) a) ∧ XfC K C ∧ PySem.W.findIn K (.ref C) n = some none ∧ H1 dd = some (.xd fs) ∧ fs.lookup n = some v ∧ Q v H1
theorem pe_fldE {e : Expr} {te : TE} {pos : Pos} {n : Str} (he : PE X e te) (hb : attributeBase e n X.env (eval e X.env) = eval e X.env := by rfl) : PE X (.Attribute e n pos) (tFldE X.K n te) := by
  refine ⟨fun pins s σ H Q I h => ?_⟩
  refine attr_of hb (thn (he.run pins s σ H _ I h) fun u s1 hh => ?_)
  obtain ⟨x, H1, I1, rx, a, C, dd, fs, v, ex, hE, T, hno, ea, l, q⟩ := hh
  subst ex
  obtain rfl : u = Value.ref a := rx
  obtain ⟨⟨oe, vs, e1, e2, e3, e4⟩, _, _⟩ := (show ObjOk X.prog X.w H1 s1.heap a (ExoH (.ref C) (some dd) a) from I1.hok a _ hE)
  have hx : ObjOk X.prog X.w H1 s1.heap dd (.xd fs) := I1.hok dd _ ea
  obtain ⟨mA, hns, hr⟩ := hx
  obtain ⟨od, ho, hl⟩ := lookIn_ns hns
  obtain ⟨u, hu, ru⟩ := RelO.some_of (v := v) (o := mA n) (by rw [← l]; exact hr n)
  have J : PySem.W.InstAt s1.heap a oe C (some od) := ⟨e1, e2, by unfold PySem.W.notCls; rw [e4] <;> rfl, by rw [e3]; exact ho⟩
  exact HandSPX.exc_get I1.kIn J T.ga T.gg T.exC (PySem.W.findObj_own T.hdC hno rfl (by rw [hl, hu])) (handed_of ru) ⟨v, H1, I1.tok _, ru, q⟩
/-- a field of an own exception class -/
structure ExnF (cf : Cfg) (f : Str) (c i : Nat) : Prop where
  xf : XfC cf.K (cf.cls c)
  no : PySem.W.findIn cf.K (.ref (cf.cls c)) f = some none
  nd : (cf.nam c).Nodup
  at_ : (cf.nam c)[i]? = some f
def fFldE (tx : Tbl) (fe : FE) : FE := fun ρ A => (fe ρ A).bind fun x A => match x with
  | .obj n => match A[n]? with
    | some (.exn c fs) => match tblAt tx c with
      | some i => match fs[i]? with
        | some v => .ok v A
        | none => .er
      | none => .er
    | _ => .er
  | _ => .er
theorem c_fldE {e : Expr} {f : Str} {pos : Pos} {fe : FE} (tx : Tbl) (hK : X.K = cf.K) (h1 : ∀ p ∈ tx, ExnF cf f p.1 p.2) (he : CE cf X W e fe) (hb : attributeBase e f X.env (eval e X.env) = eval e X.env := by rfl) :
    CE cf X W (.Attribute e f pos) (fFldE tx fe) := by
  obtain ⟨t, p, o⟩ := he.ex
  refine ⟨_, pe_fldE p hb, fun ρ σ m H A Q S L P => ?_⟩
  refine o.then S L P fun x v m1 H1 A1 _ g1 L1 r1 P1 => ?_
  rw [hK]
  split at P1
  · rename_i n
    split at P1
    · rename_i c fs e1
      split at P1
      · rename_i i ei
        split at P1
        · rename_i u eu
          obtain ⟨F1, F2, F3, F4⟩ := h1 _ (tblAt_mem ei)
          obtain ⟨a, rfl, _, hO⟩ := g1.sim.obj r1 e1
          obtain ⟨d, vs, h1, h2, h3, r⟩ := exn_at hO
          obtain ⟨w, hw, rw'⟩ := RelAs.get r eu
          obtain ⟨dd, rfl⟩ := Option.isSome_iff_exists.mp (h3 i (by rw [eu]; rfl))
          exact ⟨a, _, dd, _, w, rfl, h1, F1, F2, h2 _ rfl, lookup_zip F3 F4 hw, P1 m1 H1 w (Go.refl g1.sim) rw'⟩
        · exact P1.elim
      · exact P1.elim
    · exact P1.elim
  · exact P1.elim
end
/-! ### a def that makes lambdas -/
structure RawL (cf : Cfg) (mg : Str → Option Value) (x : Str) (st : Stmt) (c : Addr) : Prop where
  ex : ∃ (fa : Addr) (oc kV doc pm ct : Value) (an od : Option Addr) (osl : Array (Option Value)), cf.K.lookup fa = some ⟨oc, od, .func (PySem.W.fnOf x x (defArgs st) (defBody st) (defScope st) .none kV doc pm an (.ref c) ct), osl⟩ ∧
    PySem.W.codeIn cf.K (.ref c) x = true ∧ PySem.W.keepIn cf.K (.ref fa) = true ∧ mg x = some (.ref fa)
theorem RawL.raw {cf : Cfg} {mg : Str → Option Value} {x : Str} {st : Stmt} {c : Addr} (R : RawL cf mg x st c) : Raw cf mg x st := by
  obtain ⟨fa, oc, kV, doc, pm, ct, an, od, osl, l, cc, k, m⟩ := R.ex
  exact ⟨fa, _, fun_mk l cc k, m⟩
section
variable {P : Program} {w : World} {cf : Cfg} {mg : Str → Option Value} {base : Heap}
theorem df_ofL {x : Str} {st : Stmt} {N ps : List Str} {k : Nat} {fs : FS} {G : FD} {c : Addr} (R : RawL cf mg x st c) (S : FnScope N ps (defScope st)) (hG : RunOf N.length fs G)
    (hbody : ∀ (f : Addr) (A : Around) (outer : List Env) (s : Shared) (H : Hp) (E : XK), Room k (A.deeper (envOfC x (defScope st) s.heap.objs.size f (.ref c))) →
      CB cf (cxOf (L2.CX P w) P w cf.K mg base N x (defScope st) f (.ref c) A outer s H E) (WD E) (defBody st) fs) : Df P w cf mg base x st ps (k + 1) G := by
  obtain ⟨fa, oc, kV, doc, pm, ct, an, od, osl, l, cc, kk, m⟩ := R.ex
  refine ⟨fa, _, fun_mk l cc kk, m, fn_of l cc S (fun vs H Q E h => ?_) fun A outer s H vs Q E hr h => ?_⟩
  · obtain ⟨m, A, as, _, r, hl, _⟩ := h
    rw [← r.length, hl]
  · obtain ⟨t, p, o⟩ := (hbody fa A outer s H E hr).ex
    obtain ⟨m, A1, as, S1, r, hl, P1⟩ := h
    exact ⟨t, p, o _ _ m H A1 _ S1 (loc_start r N.length) (body_ok hG S1 P1)⟩
theorem dfG_ofL {x : Str} {st : Stmt} {N ps : List Str} {k : Nat} {fs : FS} {G : FD} {c : Addr} (R : RawL cf mg x st c) (S : FnScope N ps (defScope st)) (hG : RunOf N.length fs G)
    (hbody : ∀ (f : Addr) (A : Around) (outer : List Env) (s : Shared) (H : Hp) (E : XK), A.guards = some [] → Room k (A.deeper (envOfC x (defScope st) s.heap.objs.size f (.ref c))) →
      CB cf (cxOf (L2.CX P w) P w cf.K mg base N x (defScope st) f (.ref c) A outer s H E) (WD E) (defBody st) fs) : DfG P w cf mg base x st ps (k + 1) G := by
  obtain ⟨fa, oc, kV, doc, pm, ct, an, od, osl, l, cc, kk, m⟩ := R.ex
  refine ⟨fa, _, fun_mk l cc kk, m, fnG_of l cc S (fun vs H Q E h => ?_) fun B out sh H vs Q E hg hr h => ?_⟩
  · obtain ⟨m, A, as, _, r, hl, _⟩ := h
    rw [← r.length, hl]
  · obtain ⟨t, p, o⟩ := (hbody fa B out sh H E hg hr).ex
    obtain ⟨m, A1, as, S1, r, hl, P1⟩ := h
    exact ⟨t, p, o _ _ m H A1 _ S1 (loc_start r N.length) (body_ok hG S1 P1)⟩
end
end Dn

set_option maxRecDepth 100000
set_option maxHeartbeats 2000000
/-! Dn, part Xg: a law's end where defs make lambdas: their tables are tracked. -/
namespace Dn
open PySem PySem.Spec L2 PyProof.Rows
/-- nothing but the script and the tables -/
structure OnlyT (K : PySem.W.Frag) (q : Addr) (ts : List Addr) (H : Hp) : Prop where
  tb : ∀ b ∈ ts, H b = some (.tbl #[])
  sh : ∀ b, b ∉ ts → H b = none ∨ ∃ o xs, H b = some (.frz o (.lst xs))
  dm : ∀ b, b ∉ ts → H b ≠ none → b = q ∧ K.lookup q = none
theorem law_runT {P : Program} {w : World} {K : PySem.W.Frag} {mg mb : Str → Option Value} {T : CXT} {k : Nat} {fa q : Addr} {fd : FuncData} {x : Str} {pr : Sp} {sh : Shared} {vs : List Value} {ns : List Int} {cs : List (Addr × Addr)} {ts : List Addr} (hts : ts = cs.map (·.2))
    (KX : K.In sh.heap) (gns : sh.heap.Ns mainGlobals mg) (bns : sh.heap.Ns builtinsNs mb) (bb : ∀ x : Str, x ≠ "__name__" → mb x = bootBuiltins x) (nl : sh.heap.NoLimit) (gz : sh.gens = #[])
    (t1 : ∀ p ∈ cs, sh.heap.get? p.2 = some { cls := .none, data := .fields #[] }) (t2 : ∀ p ∈ cs, K.lookup p.2 = none) (t3 : ∀ p ∈ cs, PySem.W.CodeHd sh.heap p.1 p.2)
    (bmn : ∃ (bm : Addr) (ob : Obj), mg "__builtins__" = some (.ref bm) ∧ bm ≠ builtinsNs ∧ sh.heap.get? bm = some ob ∧ ob.cls = .type "module" ∧ ob.dict = some builtinsNs ∧ ob.data = .plain)
    (hq : sh.heap.get? q = some { cls := .type "list", data := .seq vs.toArray }) (hi : IntsAre vs ns) (hl : ns.length ≤ sizeLine) (hr : Room k callerA)
    (F : ∀ base : Heap, K.In base → base.Ns mainGlobals mg → (∀ p ∈ cs, LamX.TabB base mg p.1 p.2) → FnG P w K mg base T k fa fd [x] pr) (hbt : ∀ (s : Shared) (u : Value), BindsTo s fd ⟨[u], []⟩ [(x, u)])
    (hpr : ∀ H : Hp, OnlyT K q ts H → SqL K H q (ns.map V.int) → pr [.ref q] H (fun v _ => v = .bl true) fun _ _ _ => False) (hT : ∀ H e s', T [] H sh (fun _ _ _ => False) e s' → False) :
    codeAny (model P w) callerA (.call (.ref fa) ⟨[.ref q], []⟩) (fun r s' => r = .ok (.ret (.bool true)) ∧ OldK sh.heap s'.heap ∧ s'.os = sh.os ∧ AllBare s'.gens) sh := by
  subst hts
  have tabAt : ∀ b ∈ cs.map (·.2), sh.heap.get? b = some { cls := .none, data := .fields #[] } := by
    intro b hb
    obtain ⟨p, hp, rfl⟩ := List.mem_map.mp hb
    exact t1 p hp
  have qOut : q ∉ cs.map (·.2) := by
    intro z
    have e := tabAt q z
    rw [hq] at e
    exact nomatch (show Data.seq vs.toArray _ = Data.fields #[] from congrArg Obj.data (Option.some.inj e))
  have run : ∀ H : Hp, OnlyT K q (cs.map (·.2)) H → SqL K H q (ns.map V.int) → HOk P w H sh.heap →
      codeAny (model P w) callerA (.call (.ref fa) ⟨[.ref q], []⟩) (fun r s' => r = .ok (.ret (.bool true)) ∧ OldK sh.heap s'.heap ∧ s'.os = sh.os ∧ AllBare s'.gens) sh := by
    intro H only sq hok
    -- what is neither the script nor a table is not tracked
    have outside : ∀ {b : Addr} {o : Obj}, sh.heap.get? b = some o → (∀ xs n, o.data ≠ .seq xs n) → o.data ≠ .fields #[] → H b = none := by
      intro b o e n1 n2
      by_cases hb : b ∈ cs.map (·.2)
      · rw [tabAt b hb] at e
        cases e
        exact (n2 rfl).elim
      · cases h : H b with
        | none => rfl
        | some u =>
          have z := (only.dm b hb (by rw [h]; exact fun z => nomatch z)).1
          subst z
          rw [hq] at e
          cases e
          exact (n1 _ _ rfl).elim
    have dictOut : ∀ {b : Addr} {o : Obj} {es : Array DictEntry} {ep : Nat}, sh.heap.get? b = some o → o.data = .dict es ep → H b = none := by
      intro b o es ep e d
      exact outside e (fun xs n z => by rw [d] at z; cases z) fun z => by rw [d] at z; cases z
    have nsB : ∀ {b : Addr} {m : Str → Option Value}, sh.heap.Ns b m → (hidT sh.heap H).Ns b m := by
      rintro b m ⟨o, es, ep, e, d, r⟩
      exact ⟨o, es, ep, hidT_get e (dictOut e d), d, r⟩
    have inB : K.In (hidT sh.heap H) := by
      intro b o e
      refine hidT_get (KX b o e) ?_
      by_cases hb : b ∈ cs.map (·.2)
      · obtain ⟨p, hp, rfl⟩ := List.mem_map.mp hb
        rw [t2 p hp] at e
        cases e
      · cases h : H b with
        | none => rfl
        | some u =>
          have z := only.dm b hb (by rw [h]; exact fun z => nomatch z)
          rw [z.1, z.2] at e
          cases e
    have md : Mod K mg (hidT sh.heap H) := by
      obtain ⟨mc, h1, h2⟩ := nl
      exact ⟨inB, nsB gns, ⟨mb, nsB bns, bb⟩, ⟨mc, nsB h1, h2⟩⟩
    have z0 : Env0 P w K mg (hidT sh.heap H) callerA [] sh H := by
      refine ⟨rfl, md, fun b o e => of_hidT e, Nat.le_of_eq (hidT_size _ _), trivial, fun b hb => ?_, hok, .of_eq gz⟩
      exact nomatch (show b ∈ ([] : List Addr) from hb)
    have tb : ∀ p ∈ cs, LamX.TabB (hidT sh.heap H) mg p.1 p.2 := by
      intro p hp
      have hP := t1 p hp
      refine ⟨?_, ?_, ?_⟩
      · obtain ⟨o, us, fl, tf, gs, tg, inF, tx, tt, c1, c2, c3, c4, rest⟩ := t3 p hp
        refine ⟨o, us, fl, tf, gs, tg, inF, tx, tt, hidT_get c1 (outside c1 (fun xs n z => ?_) fun z => ?_), c2, c3, c4, rest⟩
        · rw [c3] at z
          cases z
        · rw [c3] at z
          cases z
          simp at c4
      · obtain ⟨bm, ob, b1, b2, b3, b4, b5, b6⟩ := bmn
        have up : H bm = none := outside b3 (fun xs n z => by rw [b6] at z; cases z) fun z => by rw [b6] at z; cases z
        refine ⟨bm, ob, b1, b2, fun z => ?_, fun z => ?_, hidT_get b3 up, b4, b5, b6⟩
        · obtain ⟨o, es, ep, e, d, _⟩ := gns
          rw [z, e] at b3
          cases b3
          rw [d] at b6
          cases b6
        · rw [z, hP] at b3
          cases b3
          cases b6
      · intro z
        obtain ⟨o, es, ep, e, d, _⟩ := gns
        rw [z, hP] at e
        cases e
        cases d
    have go := (F _ inB (nsB gns) tb).go callerA [] sh H ⟨[.ref q], []⟩ [.ref q] [.ref q] _ _ rfl hr z0 (hbt sh (.ref q)) (.cons rfl .nil) (hpr H only sq)
    refine codeAny_mono go ?_
    intro r s' h
    cases r with
    | error e => exact (hT H e s' h).elim
    | ok fl =>
      cases fl with
      | cont => exact (show False from h).elim
      | brk => exact (show False from h).elim
      | next => exact (show False from h).elim
      | ret u =>
        obtain ⟨v, H', os, bare, un, hok', rv, e⟩ := h
        have e : v = .bl true := e
        subst e
        have e : u = Value.bool true := rv
        subst e
        have same : ∀ b o, b ∉ cs.map (·.2) → sh.heap.get? b = some o → s'.heap.get? b = some o := by
          intro b o nb e
          cases hb : H b with
          | none => exact un.keep b o e hb (fun z => nomatch (show b ∈ ([] : List Addr) from z)) (fun z => nomatch z)
          | some u =>
            cases only.sh b nb with
            | inl z => rw [hb] at z; cases z
            | inr z =>
              obtain ⟨ob, xs, z⟩ := z
              have z2 := un.frzs b ob _ z
              obtain ⟨e1, _⟩ := hok b _ z
              obtain ⟨e2, _⟩ := hok' b _ z2
              rw [e] at e1
              cases e1
              exact e2
        have more : ∀ b ∈ cs.map (·.2), ∃ us : Array Value, s'.heap.get? b = some { cls := .none, data := .fields us } := by
          intro b hb
          obtain ⟨us, z⟩ := un.tbls b #[] (only.tb b hb)
          exact ⟨_, hok' b _ z⟩
        refine ⟨rfl, ⟨fun b o e => ?_, fun b o e => ?_⟩, os, bare⟩
        · by_cases hb : b ∈ cs.map (·.2)
          · obtain ⟨us, hu⟩ := more b hb
            have e0 := tabAt b hb
            rw [e0] at e
            cases e
            obtain ⟨p, hp, rfl⟩ := List.mem_map.mp hb
            refine Or.inr (Or.inl ⟨((t3 p hp).tab (t1 p hp)).isCodeTable, rfl, #[], us, rfl, ?_⟩)
            rw [Array.empty_append]
            exact hu
          · exact Or.inl (same b o hb e)
        · by_cases hb : b ∈ cs.map (·.2)
          · obtain ⟨us, hu⟩ := more b hb
            exact ⟨_, hu⟩
          · exact ⟨o, same b o hb e⟩
  have rv := vals_ints hi
  have len := hi.length
  cases hk : K.lookup q with
  | none =>
    refine run (fun b => if b ∈ cs.map (·.2) then some (.tbl #[]) else if b = q then some (.frz { cls := .type "list", data := .seq vs.toArray } (.lst (ns.map V.int))) else none) ⟨fun b hb => if_pos hb, fun b hb => ?_, fun b hb z => ?_⟩
      (Or.inl (Or.inr ⟨{ cls := .type "list", data := .seq vs.toArray }, (if_neg qOut).trans (if_pos rfl)⟩)) ?_
    · by_cases h : b = q
      · exact Or.inr ⟨_, _, (if_neg hb).trans (if_pos h)⟩
      · exact Or.inl ((if_neg hb).trans (if_neg h))
    · refine ⟨?_, hk⟩
      by_cases h : b = q
      · exact h
      · exact absurd ((if_neg hb).trans (if_neg h)) z
    · intro b u z
      by_cases hb : b ∈ cs.map (·.2)
      · have z' := (if_pos hb).symm.trans z
        cases z'
        exact tabAt b hb
      · have z1 := (if_neg hb).symm.trans z
        by_cases h : b = q
        · have z' := (if_pos h).symm.trans z1
          cases z'
          subst h
          exact ⟨hq, by rw [List.length_map]; exact hl, vs, _, rv, hq⟩
        · have z' := (if_neg h).symm.trans z1
          cases z'
  | some o =>
    have e := KX q o hk
    rw [hq] at e
    cases e
    refine run (fun b => if b ∈ cs.map (·.2) then some (.tbl #[]) else none) ⟨fun b hb => if_pos hb, fun b hb => Or.inl (if_neg hb), fun b hb z => absurd (if_neg hb) z⟩ (Or.inr ⟨_, vs.toArray, _, hk, rfl, rfl, rfl, ?_, ?_⟩) ?_
    · rw [List.size_toArray, len]
      exact hl
    · simpa using rv
    · intro b u z
      by_cases hb : b ∈ cs.map (·.2)
      · have z' := (if_pos hb).symm.trans z
        cases z'
        exact tabAt b hb
      · have z' := (if_neg hb).symm.trans z
        cases z'
/-- what is to be shown of the law at the head's heap h -/
def LawAtT (l : PySem.W.OpenLaw) (w : World) (K : PySem.W.Frag) (T : CXT) (k n : Nat) (x : Str) (mg : Str → Option Value) (fa : Addr) (h : Heap) : Prop :=
  ∃ (fd : FuncData) (cs : List (Addr × Addr)) (pr : Sp), (∀ p ∈ cs, h.get? p.2 = some { cls := .none, data := .fields #[] }) ∧ (∀ p ∈ cs, K.lookup p.2 = none) ∧ (∀ p ∈ cs, PySem.W.CodeHd h p.1 p.2) ∧ (∀ (s : Shared) (u : Value), BindsTo s fd ⟨[u], []⟩ [(x, u)]) ∧
    (∀ (H : Hp) (a : Addr) (ns : List Int), ns.length ≤ n → OnlyT K a (cs.map (·.2)) H → SqL K H a (ns.map V.int) → pr [.ref a] H (fun v _ => v = .bl true) fun _ _ _ => False) ∧
    ∀ base : Heap, K.In base → base.Ns mainGlobals mg → (∀ p ∈ cs, LamX.TabB base mg p.1 p.2) → FnG l.prog w K mg base T k fa fd [x] pr
theorem walk_ofTT {l : PySem.W.OpenLaw} {n k : Nat} {q : Program} {loose : List Str} {XP : (Str → Option Value) → Heap → Prop} {YP : World → Heap → Prop} {d : DefRec} {K : Params → PySem.W.Frag} {T : World → CXT} {x : Str}
    (hn : l.most = some n) (hn2 : n ≤ sizeLine) (hdf : d.params.defaults = []) (hr : Room k callerA) (hY : ∀ (w : World) (h : Heap), YP w h → (K w.params).In h)
    (F : ∀ (w : World) (mg : Str → Option Value) (fa : Addr) (h : Heap), YP w h → (K w.params).In h → h.Ns mainGlobals mg → mg d.name = some (.ref fa) → LawAtT l w (K w.params) (T w) k n x mg fa h)
    (hT : ∀ (w : World) (H : Hp) (s : Shared) (e : Value) (s' : Shared), T w [] H s (fun _ _ _ => False) e s' → False) : PySem.W.WalkO q loose XP YP l.row.toRowW d [] (fun f vs => PySem.call f vs) := by
  refine Att.attach_call hn hdf ?_
  intro w s₀ sh mg mb fa o pm cd doc a vs ns G Y ho hd hcd hmg hobj hints hlen hg
  have KX := hY w _ Y
  obtain ⟨fd, cs, pr, t1, t2, t3, hbt, hpr, hF⟩ := F w mg fa _ Y KX G.T.g hmg
  exact law_runT rfl KX G.T.g G.T.b G.T.builtins G.T.nolimit hg t1 t2 t3 G.T.bmain hobj hints (Nat.le_trans hlen hn2) hr hF hbt (fun H h1 h2 => hpr H a ns hlen h1 h2) (fun H e s' => hT w H sh e s')
/-! ### the promise -/
theorem fnG_ofOk {P : Program} {w : World} {K : PySem.W.Frag} {mg : Str → Option Value} {base : Heap} {T : CXT} {k : Nat} {fa : Addr} {fd : FuncData} {ps : List Str} {pr : Sp} (F : FnOk P w K mg base T k fa fd ps pr) : FnG P w K mg base T k fa fd ps pr :=
  ⟨F.len, fun B out sh H gs ws xs Q E _ hr e0 hb hv hs => F.run B out sh H gs ws xs Q E hr e0 hb hv hs⟩
def spLawT (cf : Cfg) : Sp := fun vs H Q _ => ∃ (a : Addr) (ns : List Int), vs = [.ref a] ∧ FrzL cf.K H a (ns.map V.int) ∧ ns.length ≤ 63 ∧ LamX.Tabs cf.tab H ∧ ∀ H', Q (.bl true) H'
theorem hsp_lawT {cf : Cfg} {H : Hp} {a : Addr} {ns : List Int} {ts : List Addr} (hl : ns.length ≤ 63) (hO : OnlyT cf.K a ts H) (ht : ∀ p ∈ cf.lam, p.2.2 ∈ ts) (hk : ∀ b ∈ ts, cf.K.lookup b = none) (hS : SqL cf.K H a (ns.map V.int)) : spLawT cf [.ref a] H (fun v _ => v = .bl true) fun _ _ _ => False := by
  have ha : a ∉ ts := fun z => by
    have e := hO.tb a z
    rcases hS with (h | ⟨o, h⟩) | ⟨o, its, n, h, _⟩
    · rw [e] at h
      cases h
    · rw [e] at h
      cases h
    · rw [hk a z] at h
      cases h
  refine ⟨a, ns, rfl, ?_, hl, fun p hp => ?_, fun _ => rfl⟩
  · rcases hS with (h | h) | h
    · rcases hO.sh a ha with e | ⟨o, xs, e⟩
      · rw [h] at e
        cases e
      · rw [h] at e
        cases e
    · exact .inl h
    · exact .inr h
  · obtain ⟨z, hz, rfl⟩ := List.mem_map.mp hp
    exact ⟨#[], hO.tb _ (ht z hz), trivial, fun pos cv h => nomatch h⟩
theorem lawT_ok {cf : Cfg} {k : Nat} {G : FD} {P : Program} {w : World} {mg : Str → Option Value} {base : Heap} {fa : Addr} {fd : FuncData} {p : Str} (O : FnG P w cf.K mg base (L2.CX P w) k fa fd [p] (spOf cf 1 G)) (hG : ∀ ns : List Int, ns.length ≤ 63 → isTrueR (G [.scr ns] []) = true) :
    FnG P w cf.K mg base (L2.CX P w) k fa fd [p] (spLawT cf) := by
  refine O.imp fun vs H Q E h => ?_
  obtain ⟨a, ns, rfl, hs, hl, ht, q⟩ := h
  obtain ⟨A, e⟩ := isTrueR_ok (hG ns hl)
  refine ⟨[], [], [.scr ns], ⟨rfl, .nil, fun n a o h => by simp at h, ht⟩, .cons (.scr hs) .nil, rfl, ?_⟩
  rw [e]
  intro m' H' v g r
  rw [RelA.to_bl r]
  exact q H'
end Dn

set_option maxRecDepth 100000
set_option maxHeartbeats 2000000
/-! Dn, part Xh: the facts of own exceptions, of the def that tells and of the defs that make lambdas, from the text and the written part. -/
namespace Dn
open PySem PySem.Spec PyProof.Rows L2 LamX
/-! ### how lambdas bind -/
theorem lamBind0 {params : Arguments} {scope : Scope} (h : ∀ (q : Str) (body : Expr) (cl : List (Str × Addr)) (dV doc pm cv ctv : Value), ∃ k, bindArgs (PySem.W.kdv_fn "<lambda>" q params (.expr body) scope cl dV doc pm cv ctv) ⟨[], []⟩ = seqItems? dV >>= k ∧ k none = pure [] ∧ k (some #[]) = pure []) : LamBind params scope [] := by
  refine ⟨[], rfl, (fun y (hy : y ∈ []) => by cases hy), (fun hp s us dV q body cl doc pm cv ctv r es hd => ?_)⟩
  obtain ⟨k, h1, h2, h3⟩ := h q body cl dV doc pm cv ctv
  cases r
  rcases hd with ⟨rfl, _⟩ | ⟨t, rfl, ht⟩
  · refine BindsTo.of_eq ?_
    rw [h1]
    show (pure none >>= k) = _
    rw [pure_bind]
    exact h2
  · subst es
    exact BindsTo.of_defaults (T := t) rfl ht rfl h1 h3
theorem lamBind1 {params : Arguments} {scope : Scope} {i : Int} (y : Str) (hy : scope.names.lookup y = some .local)
    (h : ∀ (q : Str) (body : Expr) (cl : List (Str × Addr)) (dV doc pm cv ctv : Value), ∃ k, bindArgs (PySem.W.kdv_fn "<lambda>" q params (.expr body) scope cl dV doc pm cv ctv) ⟨[], []⟩ = seqItems? dV >>= k ∧ ∀ u, k (some #[u]) = pure [(y, u)]) : LamBind params scope [i] := by
  refine ⟨[y], rfl, fun z hz => by rw [List.mem_singleton.mp hz]; exact hy, fun hp s us dV q body cl doc pm cv ctv r es hd => ?_⟩
  obtain ⟨k, h1, h2⟩ := h q body cl dV doc pm cv ctv
  have r' : Vals [V.int i] us := r
  cases r' with
  | cons r0 rr =>
    cases rr
    rcases hd with ⟨_, z⟩ | ⟨t, rfl, ht⟩
    · cases z
    · subst es
      exact BindsTo.of_defaults (T := t) rfl ht rfl h1 (h2 _)
/-! ### the text of an own exception's __init__ -/
def XTxt1 (st : Stmt) (qual f : Str) : Prop := ∃ (par text : Str) (j : Nat) (p0 p1 p2 p3 p4 p5 q0 q1 q2 q3 : Pos) (ar : Arg),
  defBody st = [.Expr (xSup text j p0 p1 p2 p3 p4) p5, .Assign [.Attribute (.Name "self" q0) f q1] (.Name par q2) q3] ∧ XSc (defScope st) ∧ XHc text j p0 p1 p2 p3 p4 ∧ ((defArgs st).posonlyargs ++ (defArgs st).args).head? = some ar ∧ ar.arg = "self" ∧
  (defScope st).names.lookup par = some .local ∧ (par == ("__debug__" : Str)) = false ∧ (par == ("self" : Str)) = false ∧
  ∀ (cc cda : Addr) (x : Addr) (v : Value) (kV doc pm ct : Value) (an : Option Addr), bindArgs (PySem.W.fnX "__init__" qual (defArgs st) (defBody st) (defScope st) [("__class__", cc)] .none kV doc pm an (.ref cda) ct) ⟨[.ref x, v], []⟩ = pure [(("self" : Str), Value.ref x), (par, v)]
def XTxt0 (st : Stmt) (qual : Str) : Prop := ∃ (text : Str) (j : Nat) (p0 p1 p2 p3 p4 p5 : Pos) (ar : Arg),
  defBody st = [.Expr (xSup text j p0 p1 p2 p3 p4) p5] ∧ XSc (defScope st) ∧ XHc text j p0 p1 p2 p3 p4 ∧ ((defArgs st).posonlyargs ++ (defArgs st).args).head? = some ar ∧ ar.arg = "self" ∧
  ∀ (cc cda : Addr) (x : Addr) (kV doc pm ct : Value) (an : Option Addr), bindArgs (PySem.W.fnX "__init__" qual (defArgs st) (defBody st) (defScope st) [("__class__", cc)] .none kV doc pm an (.ref cda) ct) ⟨[.ref x], []⟩ = pure [(("self" : Str), Value.ref x)]
section
variable {P : Program} {K : PySem.W.Frag} {cf : Cfg} {h : Heap} {mg : Str → Option Value} {x f qual : Str} {c : Nat} {C fI cc cda : Addr} {st : Stmt} {B newId initId : String} {bmB : List Value} {oc kV doc pm ct ccl cl : Value} {od an cdd cld : Option Addr} {osl ccs csl : Array (Option Value)} {vs : Array Value} {file : Str} {tf : Tok}
theorem xcls_of (X : K.In h) (G : h.Ns mainGlobals mg) (q : PySem.W.excInitIn K C bmB newId = true) (ov : PySem.W.excOver K C bmB = true) (sa : PySem.W.findIn K (.ref C) "__setattr__" = some (some (.builtin "object.__setattr__"))) (hd : PySem.W.hasDictIn K C = true)
    (sup : PySem.W.ks_superIn K C C "__init__" = some (some (.builtin initId))) (sB : PySem.W.subIn K (.ref C) (.type B) = some true) (own : PySem.W.mroIn K C (.ref C) = some true) (op : PySem.W.nsIn K cStatics "thirdparty.any" = some none) (ns : PySem.W.nsIn K mainGlobals "super" = some none)
    (top : (P.main.scope.names.lookup ("super" : Str)).isSome = false) : XCls P K mg C B newId initId bmB := ⟨q, ov, sa, hd, sup, sB, own, op, PySem.W.mg_none_of X G ns, top⟩
theorem xini_of (hi : PySem.W.findIn K (.ref C) "__init__" = some (some (.ref fI))) (hf : PySem.W.isFn K (.ref fI) = true) (lk : K.lookup fI = some ⟨oc, od, .func (PySem.W.fnX "__init__" qual (defArgs st) (defBody st) (defScope st) [("__class__", cc)] .none kV doc pm an (.ref cda) ct), osl⟩)
    (hcd : PySem.W.codeIn K (.ref cda) qual = true) (l2 : K.lookup cda = some ⟨ccl, cdd, .fields vs, ccs⟩) (v2 : vs[2]? = some (.str file tf)) (fl : ((P.main.file : Str) == file) = true) (l3 : K.lookup cc = some ⟨cl, cld, .cell (some (.ref C)), csl⟩) :
    XIni P K C fI cc cda qual (defArgs st) (defBody st) (defScope st) := ⟨hi, hf, ⟨oc, od, an, osl, kV, doc, pm, ct, lk⟩, hcd, ⟨ccl, cdd, vs, ccs, file, tf, l2, v2, fl⟩, ⟨cl, cld, csl, l3⟩⟩
theorem xmk1_of (hK : cf.K = K) (hC : cf.cls c = C) (hN : cf.nam c = [f]) (X : K.In h) (G : h.Ns mainGlobals mg) (xt : XTxt1 st qual f) (a : PySem.W.nsIn K mainGlobals x = some (some (.ref C))) (kp : PySem.W.keepIn K (.ref C) = true) (sb : PySem.W.subIn K (.ref C) (.type "BaseException") = some true)
    (ty : PySem.W.typeIn K (.ref C) = some (.type "type")) (tk : PySem.W.takerIn K C f = some none) (T : XCls P K mg C B newId initId bmB) (N : XIni P K C fI cc cda qual (defArgs st) (defBody st) (defScope st)) (FB : ExcBaseFacts B newId initId bmB) (SF : StoreFacts B bmB "object.__setattr__" "object") (KF : PySem.W.KxsFacts B initId) : XMk1 P cf mg x c f := by
  subst hK hC
  obtain ⟨par, text, j, p0, p1, p2, p3, p4, p5, q0, q1, q2, q3, ar, e, S, hc, h1, h2, h3, h4, h5, hb⟩ := xt
  rw [e] at N hb
  exact ⟨PySem.W.mg_of X G a, kp, sb, ty, hN, B, newId, initId, bmB, fI, cc, cda, qual, par, text, _, _, j, p0, p1, p2, p3, p4, p5, q0, q1, q2, q3, ar, T, FB, SF, KF, tk, N, S, hc, h1, h2, h3, h4, h5, hb⟩
theorem xmk0_of (hK : cf.K = K) (hC : cf.cls c = C) (X : K.In h) (G : h.Ns mainGlobals mg) (xt : XTxt0 st qual) (a : PySem.W.nsIn K mainGlobals x = some (some (.ref C))) (kp : PySem.W.keepIn K (.ref C) = true) (sb : PySem.W.subIn K (.ref C) (.type "BaseException") = some true)
    (ty : PySem.W.typeIn K (.ref C) = some (.type "type")) (T : XCls P K mg C B newId initId bmB) (N : XIni P K C fI cc cda qual (defArgs st) (defBody st) (defScope st)) (FB : ExcBaseFacts B newId initId bmB) (KF : PySem.W.KxsFacts B initId) : XMk0 P cf mg x c := by
  subst hK hC
  obtain ⟨text, j, p0, p1, p2, p3, p4, p5, ar, e, S, hc, h1, h2, hb⟩ := xt
  rw [e] at N hb
  exact ⟨PySem.W.mg_of X G a, kp, sb, ty, B, newId, initId, bmB, fI, cc, cda, qual, text, _, _, j, p0, p1, p2, p3, p4, p5, ar, T, FB, KF, N, S, hc, h1, h2, hb⟩
theorem xfc_of (hK : cf.K = K) (hC : cf.cls c = C) (ga : PySem.W.findIn K (.ref C) "__getattribute__" = some (some (.builtin "BaseException.__getattribute__"))) (gg : PySem.W.findIn K (.ref C) "__getattr__" = some none) (sb : PySem.W.subIn K (.ref C) (.type "BaseException") = some true) (hd : PySem.W.hasDictIn K C = true) :
    XfC cf.K (cf.cls c) := by subst hK hC; exact ⟨ga, gg, sb, hd⟩
theorem xisc_of (hK : cf.K = K) (hC : cf.cls c = C) (xf : XfC cf.K (cf.cls c)) (si : SlX.SIsi cf.K (cf.cls c)) (cl : (PySem.W.clsIn K C).isSome = true) : XisC cf.K (cf.cls c) := by subst hK hC; exact ⟨xf, si, cl⟩
theorem exnf_of (hK : cf.K = K) (hC : cf.cls c = C) (hN : cf.nam c = [f]) (xf : XfC cf.K (cf.cls c)) (no : PySem.W.findIn K (.ref C) f = some none) : ExnF cf f c 0 := by
  subst hK hC
  exact ⟨xf, no, by rw [hN]; simp, by rw [hN]; rfl⟩
end
theorem exmAny_of {K : PySem.W.Frag} {C C1 C2 : Addr} {b1 b2 : Bool} (h1 : PySem.W.subIn K (.ref C1) (.type "BaseException") = some true) (d1 : PySem.W.hasDictIn K C1 = true) (t1 : PySem.W.typeIn K (.ref C1) = some (.type "type")) (s1 : PySem.W.subIn K (.ref C) (.ref C1) = some b1)
    (h2 : PySem.W.subIn K (.ref C2) (.type "BaseException") = some true) (d2 : PySem.W.hasDictIn K C2 = true) (t2 : PySem.W.typeIn K (.ref C2) = some (.type "type")) (s2 : PySem.W.subIn K (.ref C) (.ref C2) = some b2) (hb : (b1 || b2) = true) : PySem.W.exmAny K (.ref C) [.ref C1, .ref C2] = some true := by
  simp only [PySem.W.exmAny, PySem.W.exm_ref h1 d1 t1 s1, PySem.W.exm_ref h2 d2 t2 s2, Bool.or_false, hb]
/-! ### the def that tells -/
theorem told_of {cf : Cfg} {mg : Str → Option Value} {st : Stmt} {C1 C2 : Addr} (R : Raw cf mg "_law_told" st) (hb : ToldBody (defBody st)) (hs : ToldSc (defScope st)) (bt : BindsT "_law_told" "_law_told" st ["_law_call"]) (m1 : mg "CoinError" = some (.ref C1)) (m2 : mg "TooGreat" = some (.ref C2)) : ToldF cf mg C1 C2 := by
  obtain ⟨g, fd, F, hm⟩ := R.ex
  have kp := F.kp
  obtain ⟨oc, od, kV, doc, pm, an, cdv, ct, osl, rfl, lk, hcd⟩ := F.ex
  exact ⟨⟨g, st, oc, kV, doc, pm, cdv, ct, an, od, osl, hm, kp, lk, hcd, hb, hs, bt⟩, m1, m2⟩
/-! ### the defs that make lambdas -/
structure LamD (cf : Cfg) (mg : Str → Option Value) (x : Str) (st : Stmt) : Prop where
  ex : ∃ c P, (x, c, P) ∈ cf.lam ∧ (∀ q ∈ cf.lam, q.2.2 = P → q.1 = x) ∧ RawL cf mg x st c
theorem LamD.raw {cf : Cfg} {mg : Str → Option Value} {x : Str} {st : Stmt} (L : LamD cf mg x st) : Raw cf mg x st := by
  obtain ⟨c, P, _, _, R⟩ := L.ex
  exact R.raw
theorem lamD_of {K : PySem.W.Frag} {cf : Cfg} {h : Heap} {mg : Str → Option Value} {x : Str} {st : Stmt} {f c P : Addr} {oc : Value} {od an : Option Addr} {osl : Array (Option Value)} {kV doc pm ct : Value} (hK : cf.K = K) (hL : (x, c, P) ∈ cf.lam) (hu : ∀ q ∈ cf.lam, q.2.2 = P → q.1 = x) (X : K.In h) (G : h.Ns mainGlobals mg)
    (a : PySem.W.nsIn K mainGlobals x = some (some (.ref f))) (l : K.lookup f = some ⟨oc, od, .func (PySem.W.fnOf x x (defArgs st) (defBody st) (defScope st) .none kV doc pm an (.ref c) ct), osl⟩) (cc : PySem.W.codeIn K (.ref c) x = true) (k : PySem.W.keepIn K (.ref f) = true) : LamD cf mg x st := by
  subst hK
  exact ⟨c, P, hL, hu, ⟨f, oc, kV, doc, pm, ct, an, od, osl, l, cc, k, PySem.W.mg_of X G a⟩⟩
end Dn

set_option maxRecDepth 100000
set_option maxHeartbeats 2000000
/-! Dn, part Xi: len(x) of an own class with __len__. -/
namespace Dn
open PySem PySem.Spec L2 PyProof.Rows
section
variable {cf : Cfg} {X : Cx}
abbrev rLenOwn (C : Addr) (sp : Sp) (E : XK) : List V → Hp → VK → Prop := fun xs H Q => ∃ a, xs = [.ref a] ∧ InsAt H a C ∧ sp [.ref a] H (fun v H' => ∃ k : Int, v = .int k ∧ 0 ≤ k ∧ k < 2 ^ 63 ∧ Q (.int k) H') E
theorem call_lenOwn {CX : CXT} {C g : Addr} {n : Nat} {sp : Sp} {E : XK} (hs : PySem.W.findIn X.K (.ref C) "__len__" = some (some (.ref g))) (hf : PySem.W.isFn X.K (.ref g) = true) (F : FnR X.prog X.w X.K X.mg X.base CX n g sp)
    (hr : Room (n + 1) X.A) (hx : Passes CX X E) : CallR X (.builtin "len") (rLenOwn C sp E) := by
  intro pins s σ H xs us Q I rx h
  obtain ⟨a, rfl, ha, q⟩ := h
  obtain ⟨u, rfl, ru⟩ := vals1 rx
  obtain rfl : u = Value.ref a := ru
  obtain ⟨ox, od, J⟩ := insAt_look I ha
  have sp1 : PySem.W.Looks (model X.prog X.w) s.heap (specialOf (.ref a) "__len__") (some (.ref g)) := J.type.andThen (PySem.W.looks_findIn I.kIn hs)
  have sp2 : PySem.W.Looks (model X.prog X.w) s.heap (bindSpecial (.ref g) (.ref a)) (.ref g, [.ref a]) := PySem.W.bind_fn I.kIn _ (beq_iff_eq.mp hf)
  refine Calls.call_function_entry PySem.kind_len PySem.plain_len PySem.entry_len (PySem.args_len1 _) ?_
  unfold Builtin.«len»
  refine wpAny_bind (m := oneArg "len" _) (wpAny_pure ?_)
  refine wpAny_bind (m := callSpecial? (.ref a) (PySem.Str.ofString "__len__")) ?_
  unfold callSpecial?
  refine wpAny_bind (sp1.here ?_)
  refine wpAny_holding (wpAny_bind (sp2.here ?_))
  refine wpAny_bind (wpAny_mono (wpAny_call (SlX.run_at (us := [.ref a]) (ws := [.ref a]) F (show Room n X.A.in1 from Room.in1 hr) I.env0.in1 hx I (.cons rfl .nil) q)) (fun w s' z => ?_) fun _ _ x => x)
  obtain ⟨v, H', I', rz, k, rfl, k0, k1, qz⟩ := z
  obtain ⟨t, rfl⟩ : ∃ t, w = Value.int k t := rz
  refine wpAny_pure ?_
  refine wpAny_bind (wpAny_holding (wpAny_pure ?_))
  refine wpAny_bind (wpAny_letGo ?_)
  rw [if_neg (by omega)]
  rw [if_neg (by omega)]
  exact wpAny_bind (wpAny_mkInt (wpAny_pure ⟨_, rfl, .int k, H', I'.tok _, ⟨_, rfl⟩, qz⟩))
/-- len(e), e perhaps of the class c with its own __len__ -/
def fLenO (c : Nat) (G : FD) (f : FE) : FE := fun ρ A => (f ρ A).bind fun x A => match clsA A x with
  | some c1 => if c1 = c then (G [x] A).bind fun z A => match z with
      | .int k => if 0 ≤ k ∧ k < 2 ^ 63 then .ok (.int k) A else .er
      | _ => .er
    else .er
  | none => gLen [x] A
theorem c_lenO {E : XK} {e : Expr} {qual : Str} {st : Stmt} {k j c : Nat} {p : Str} {G : FD} {f : FE} {p1 pos : Pos} (D : Mf X.prog X.w cf X.mg X.base c "__len__" qual st [p] k G) (hb : BindsT "__len__" qual st [p]) (hK : X.K = cf.K) (hr : Room j X.A) (hj : k + 1 ≤ j) (tk : Takes X (WD E)) (hm : X.mg "len" = none)
    (he : CE cf X (WD E) e f) (hg : Gl X "len" := by rfl) (hst : starEach [e] X.env = (false, eval e X.env) :: starEach [] X.env := by rfl) (hpl : (backTo pos (starEach [] X.env)).any (·.1) = false := by rfl) : CE cf X (WD E) (.Call (.Name "len" p1) [e] [] pos) (fLenO c G f) := by
  obtain ⟨t, q, o⟩ := he.ex
  obtain ⟨g, fd, F, hme, O⟩ := D.ex
  have hbn := F.binds hb
  rw [← hK] at O hbn hme
  refine ⟨_, pe_callB ((call_lenOwn hme.at_ hme.fn (fnR_of O hbn) (hr.mono hj) (passW (W := WD E) tk)).or call_lenAll) hg hm PySem.boot_len (pa_cons q pa_nil hst) (by decide) (by decide) hst hpl, fun ρ σ m H A Q S L P => ?_⟩
  refine o.then S L P fun x v m1 H1 A1 _ g1 L1 r P1 => ?_
  split at P1
  · rename_i c1 e1
    obtain ⟨h1, P2⟩ := post_if P1
    subst h1
    obtain ⟨a, rfl, ia⟩ := insAt_ok g1.sim r e1
    refine .inl ⟨a, rfl, ia, m1, A1, [x], g1.sim, .cons r .nil, rfl, ?_⟩
    · cases eg : G [x] A1 with
      | ok z B =>
        rw [eg] at P2
        intro m2 H2 u g2 ru
        have P3 := Post.mono g2 P2
        simp only [Res.bind_ok] at P3
        cases z with
        | int k =>
          obtain ⟨⟨k0, k1⟩, P4⟩ := post_if P3
          exact ⟨k, ru.to_int, k0, k1, P4 m2 H2 _ (Go.refl g2.sim) (.int _)⟩
        | _ => exact P3.elim
      | exc ex B =>
        rw [eg] at P2
        exact P2
      | er =>
        rw [eg] at P2
        exact P2.elim
  · have h := ok_len (WD E) m1 H1 A1 σ Q [x] [v] g1.sim (.cons r .nil) P1
    rw [← hK] at h
    exact .inr h
end
end Dn

set_option maxRecDepth 100000
set_option maxHeartbeats 2000000
/-! Dn, part Xj: data in a tuple of data. -/
namespace Dn
open PySem PySem.Spec L2 PyProof.Rows
section
variable {cf : Cfg} {X : Cx}
def rInDT (K : PySem.W.Frag) : R2 := fun x y H Q => ∃ d ds, Dp K H x d ∧ Dp K H y (.tuple ds) ∧ SeqAt.shaped d = true ∧ SeqAt.shaped (.tuple ds) = true ∧ Q (.bl (ds.any fun z => PyData.eqv z d)) H
theorem op_inDT (hu : X.A.units + 65 < cLine) : OpR X (compareOp .In) (rInDT X.K) := by
  intro pins s σ H x y v u Q I rx ry h
  obtain ⟨d, ds, hd, he, sd, se, q⟩ := h
  obtain ⟨as, r1⟩ := Dp.reads I d x v hd rx
  obtain ⟨bs, r2⟩ := Dp.reads I (.tuple ds) y u he ry
  exact SeqAt.in_tuple_reads r2 r1 (SeqAt.canLay_of_shaped se) (SeqAt.canLay_of_shaped sd) (room_in_shaped sd hu) ⟨.bl _, H, I, rfl, q⟩
theorem room65 {k : Nat} {A : Around} (r : Room k A) : A.units + 65 < cLine := by have := r.un; omega
/-- x in t, t a tuple, all data -/
def gInDT : F2 := fun x y A => match AV.toP A 16 x, AV.toP A 16 y with
  | some d, some (.tuple ds) => .ok (.bl (ds.any fun z => PyData.eqv z d)) A
  | _, _ => .er
theorem ok_inDT : R2Ok cf (rInDT cf.K) gInDT := fun W m H A σ Q x y v w S rx ry P => by
  unfold gInDT at P
  split at P
  · rename_i d ds h1 h2
    exact ⟨d, ds, toP_ok S 16 x d v h1 rx, toP_ok S 16 y _ w h2 ry, toP_shaped h1 (by decide), toP_shaped h2 (by decide), P m H _ (Go.refl S) (.bl _)⟩
  · exact P.elim
end
end Dn

set_option maxHeartbeats 4000000
namespace Lk
open PySem PySem.Spec L2 PyProof.Rows Dn

def tx_most : Tbl := []
def tx_number : Tbl := []
def tx_place : Tbl := [(22, 0), (23, 0)]
def tx_value : Tbl := []
def rx_BadTies : RelC := [(22, false), (23, false)]
def rx_BadStanding : RelC := [(22, true), (23, false)]
def rx_BadTurn : RelC := [(22, false), (23, true)]
def rx_BadNumber : RelC := [(22, false), (23, false)]
def rx_Unlike : RelC := [(22, false), (23, false)]
def rx_OneSided : RelC := [(22, false), (23, false)]
def rx_TooGreat : RelC := [(22, false), (23, false)]
def xC : List Nat := [22, 23]
def ti_many : Tbl := []
def ts_many : Tbl := [(0, 0)]
def ti_near : Tbl := []
def ts_near : Tbl := [(0, 1)]
def ti_ties : Tbl := []
def ts_ties : Tbl := [(0, 2)]
def F_is_whole : FS := (fRet (fAndV (fIsi "int" (fVar 0)) (fNotV (fIsi "bool" (fVar 0)))))
def G_is_whole : FD := runDefR 1 F_is_whole
def F_is_among : FS := (fRet (fAndV (fCall 1 G_is_whole (fCons (fVar 0) fNil)) (fChain gLe gLe (fVar 1) (fVar 0) (fVar 2))))
def G_is_among : FD := runDefR 3 F_is_among
def F_is_list : FS := (fRet (fIsi2 "list" "tuple" (fVar 0)))
def G_is_list : FD := runDefR 1 F_is_list
def F_is_tie : FS := (fSeq (fIfS (fOr (fNot (fB (fIsi "tuple" (fVar 0)))) (fOr (fB (f2 gNe (fCb gLen (fCons (fVar 0) fNil)) (fC (.int 2)))) (fNot (fB (fCall 3 G_is_among (fCons (f2 gIx (fVar 0) (fC (.int 0))) (fCons (fC (.int 0)) (fCons (f2 gSub (fVar 1) (fC (.int 1))) fNil)))))))) (fRet (fC (.bl false))) fNx) (fRet (fCall 3 G_is_among (fCons (f2 gIx (fVar 0) (fC (.int 1))) (fCons (f2 gAdd (f2 gIx (fVar 0) (fC (.int 0))) (fC (.int 1))) (fCons (f2 gSub (fVar 1) (fC (.int 1))) fNil))))))
def G_is_tie : FD := runDefR 2 F_is_tie
def F_need_ties : FS := (fSeq (fIfS (fNot (fB (fCall 1 G_is_list (fCons (fVar 1) fNil)))) fEr fNx) (fSeq (fIfS (fB (f2 gGtA (fCb gLen (fCons (fVar 1) fNil)) (fC (.int 60)))) fEr fNx) (fFor (fEnum (fVar 1)) (gTp 2 (gsCons (gNm 2) (gsCons (gNm 3) gsNil))) (fIfS (fOr (fNot (fB (fCall 2 G_is_tie (fCons (fVar 3) (fCons (fVar 0) fNil))))) (fAnd (fB (f2 gGtA (fVar 2) (fC (.int 0)))) (fB (f2 gGeA (f2 gIx (fVar 1) (f2 gSub (fVar 2) (fC (.int 1)))) (fVar 3))))) fEr fNx))))
def G_need_ties : FD := runDefR 4 F_need_ties
def F_Web___init__ : FS := (fSeq (fIfS (fNot (fB (fCall 3 G_is_among (fCons (fVar 1) (fCons (fC (.int 1)) (fCons (fC (.int 24)) fNil)))))) fEr fNx) (fSeq (fDrop (fCall 2 G_need_ties (fCons (fVar 1) (fCons (fVar 2) fNil)))) (fSeq (fSetF ti_many ts_many (fVar 1) (fVar 0)) (fSeq (fSetF ti_ties ts_ties (fCb gTuple (fCons (fVar 2) fNil)) (fVar 0)) (fSeq (fSet 3 (fComp (fRange1 (fCons (fVar 1) fNil)) (gNm 6) fYes (fLst fNil) [6])) (fSeq (fFor (fList (fVar 2)) (gTp 2 (gsCons (gNm 4) (gsCons (gNm 5) gsNil))) (fSeq (fDrop (fMeth isL gAppend (f2 gIx (fVar 3) (fVar 4)) (fCons (fVar 5) fNil))) (fDrop (fMeth isL gAppend (f2 gIx (fVar 3) (fVar 5)) (fCons (fVar 4) fNil))))) (fSetF ti_near ts_near (fCb gTuple (fCons (fComp (fList (fVar 3)) (gNm 7) fYes (fCb gTuple (fCons (fCb gSorted (fCons (fVar 7) fNil)) fNil)) [7]) fNil)) (fVar 0))))))))
def G_Web___init__ : FD := runDefR 8 F_Web___init__
def F__law_folded : FS := (fSeq (fSet 1 (fComp (fRange1 (fCons (fC (.int 64)) fNil)) (gNm 2) fYes (f2 gAdd (fC (.int 17)) (fVar 2)) [2])) (fSeq (fFor (fEnum (fVar 0)) (gTp 2 (gsCons (gNm 2) (gsCons (gNm 3) gsNil))) (fSub (f2 gMod (fCb gInt (fCons (f2 gAdd (f2 gMul (f2 gIx (fVar 1) (f2 gMod (fCb gInt (fCons (fVar 2) fNil)) (fC (.int 64)))) (fC (.int 48271))) (fVar 3)) fNil)) (fC (.int 2147483647))) (fVar 1) (f2 gMod (fCb gInt (fCons (fVar 2) fNil)) (fC (.int 64))))) (fSeq (fFor (fRange2 (fCons (fC (.int 1)) (fCons (fC (.int 64)) fNil))) (gNm 2) (fSub (f2 gMod (fCb gInt (fCons (f2 gAdd (f2 gIx (fVar 1) (fVar 2)) (f2 gMul (f2 gIx (fVar 1) (f2 gSub (fVar 2) (fC (.int 1)))) (fC (.int 16807)))) fNil)) (fC (.int 2147483647))) (fVar 1) (fVar 2))) (fRet (fVar 1)))))
def G__law_folded : FD := runDef 4 F__law_folded
def F__law_begun : FS := (fSeq (fSet 1 (fDisp (fpCons (fC (.str "cells")) (fCall 1 G__law_folded (fCons (fVar 0) fNil)) (fpCons (fC (.str "great")) (fLst fNil) (fpCons (fC (.str "spot")) (fC (.int 0)) fpNil))))) (fSeq (fSub (fComp (fList (fVar 0)) (gNm 2) fYes (fIf (fB (f2 gGeA (fVar 2) (f2 gPow (fC (.int 10)) (fC (.int 18))))) (fVar 2) (fC (.int 0))) [2]) (fVar 1) (fC (.str "great"))) (fRet (fVar 1))))
def G__law_begun : FD := runDef 3 F__law_begun
def F__law_class : FS := (fSeq (fSet 1 (fLst (fCons (fTup (fCons (fC (.str "BadTies")) (fCons (fIsiE rx_BadTies (fVar 0)) fNil))) (fCons (fTup (fCons (fC (.str "BadStanding")) (fCons (fIsiE rx_BadStanding (fVar 0)) fNil))) fNil)))) (fSeq (fSet 1 (f2 gAdd (fVar 1) (fLst (fCons (fTup (fCons (fC (.str "BadTurn")) (fCons (fIsiE rx_BadTurn (fVar 0)) fNil))) (fCons (fTup (fCons (fC (.str "BadNumber")) (fCons (fIsiE rx_BadNumber (fVar 0)) fNil))) fNil))))) (fSeq (fSet 1 (f2 gAdd (fVar 1) (fLst (fCons (fTup (fCons (fC (.str "Unlike")) (fCons (fIsiE rx_Unlike (fVar 0)) fNil))) (fCons (fTup (fCons (fC (.str "OneSided")) (fCons (fIsiE rx_OneSided (fVar 0)) fNil))) fNil))))) (fSeq (fDrop (fMeth isL gAppend (fVar 1) (fCons (fTup (fCons (fC (.str "TooGreat")) (fCons (fIsiE rx_TooGreat (fVar 0)) fNil))) fNil))) (fSeq (fSet 2 (fComp (fList (fVar 1)) (gTp 2 (gsCons (gNm 3) (gsCons (gNm 4) gsNil))) (fB (fVar 4)) (fVar 3) [3, 4])) (fSeq (fIfS (fB (f2 gNe (fCb gLen (fCons (fVar 2) fNil)) (fC (.int 1)))) (fRet (fTup (fCons (fC (.str "other")) fNil))) fNx) (fSeq (fIfS (fB (f2 gIn (f2 gIx (fVar 2) (fC (.int 0))) (fTup (fCons (fC (.str "BadTies")) (fCons (fC (.str "BadStanding")) (fCons (fC (.str "BadTurn")) fNil)))))) (fRet (fTup (fCons (f2 gIx (fVar 2) (fC (.int 0))) (fCons (fFldE tx_place (fVar 0)) fNil)))) fNx) (fSeq (fIfS (fB (f2 gIn (f2 gIx (fVar 2) (fC (.int 0))) (fTup (fCons (fC (.str "Unlike")) (fCons (fC (.str "OneSided")) fNil))))) (fRet (fTup (fCons (f2 gIx (fVar 2) (fC (.int 0))) (fCons (fFldE tx_number (fVar 0)) fNil)))) fNx) (fRet (fTup (fCons (f2 gIx (fVar 2) (fC (.int 0))) (fCons (fIf (fB (f2 gEq (f2 gIx (fVar 2) (fC (.int 0))) (fC (.str "TooGreat")))) (fFldE tx_most (fVar 0)) (fFldE tx_value (fVar 0))) fNil))))))))))))
def G__law_class : FD := runDefR 5 F__law_class
def F__law_mixed : FS := (fSeq (fSet 2 (f2 gAdd (f2 gAdd (f2 gMod (fCb gInt (fCons (f2 gMul (f2 gMul (fVar 0) (f2 gAdd (fC (.int 1)) (f2 gMul (fC (.int 2)) (fVar 1)))) (fC (.int 48271))) fNil)) (fC (.int 2147483647))) (f2 gMul (f2 gMul (fC (.int 7919)) (fVar 1)) (fVar 1))) (f2 gMul (fC (.int 104729)) (fVar 1)))) (fRet (f2 gDiv (f2 gMod (fCb gInt (fCons (f2 gMul (fVar 2) (fC (.int 69621))) fNil)) (fC (.int 2147483629))) (fC (.int 7)))))
def G__law_mixed : FD := runDef 3 F__law_mixed
def F__law_draw : FS := (fSeq (fSet 2 (f2 gIx (fVar 0) (fC (.str "spot")))) (fSeq (fSub (f2 gAdd (fVar 2) (fC (.int 1))) (fVar 0) (fC (.str "spot"))) (fSeq (fIfS (fB (f2 gNe (f2 gIx (fVar 0) (fC (.str "great"))) (fLst fNil))) (fSeq (fSet 3 (f2 gIx (fVar 0) (fC (.str "great")))) (fSeq (fSet 4 (f2 gMod (fCb gInt (fCons (fVar 2) fNil)) (fCb gLen (fCons (fVar 3) fNil)))) (fSeq (fSet 5 (f2 gIx (fVar 3) (fVar 4))) (fIfS (fB (f2 gGtA (fVar 5) (fC (.int 0)))) (fSeq (fSub (f2 gDiv (fVar 5) (fVar 1)) (fVar 3) (fVar 4)) (fRet (f2 gMod (fCb gInt (fCons (fVar 5) fNil)) (fVar 1)))) fNx)))) fNx) (fSeq (fSet 3 (f2 gIx (fVar 0) (fC (.str "cells")))) (fRet (f2 gMod (fCb gInt (fCons (fCall 2 G__law_mixed (fCons (fCall 2 G__law_mixed (fCons (f2 gAdd (f2 gIx (fVar 3) (f2 gMod (fCb gInt (fCons (fVar 2) fNil)) (fC (.int 64)))) (f2 gMul (fC (.int 31)) (f2 gDiv (fVar 2) (fC (.int 64))))) (fCons (fVar 2) fNil))) (fCons (f2 gAdd (fVar 2) (fC (.int 7))) fNil))) fNil)) (fVar 1)))))))
def G__law_draw : FD := runDef 6 F__law_draw
def F__law_coins : FS := (fRet (fCb gTuple (fCons (fComp (fRange1 (fCons (fVar 1) fNil)) (gNm 2) fYes (fCall 2 G__law_draw (fCons (fVar 0) (fCons (fC (.int 2)) fNil))) [2]) fNil)))
def G__law_coins : FD := runDefR 3 F__law_coins
def F__law_turned : FS := (fRet (fCb gTuple (fCons (fComp (fRange1 (fCons (fCb gLen (fCons (fVar 0) fNil)) fNil)) (gNm 2) fYes (fIf (fB (f2 gIn (fVar 2) (fVar 1))) (f2 gSub (fC (.int 1)) (f2 gIx (fVar 0) (fVar 2))) (f2 gIx (fVar 0) (fVar 2))) [2]) fNil)))
def G__law_turned : FD := runDefR 3 F__law_turned
def F__law_turns : FS := (fRet (fComp (fList (fVar 0)) (gNm 2) (fB (f2 gEq (f2 gIx (fVar 1) (f2 gIx (fVar 2) (fC (.int 0)))) (f2 gIx (fVar 1) (f2 gIx (fVar 2) (fC (.int 1)))))) (fVar 2) [2]))
def G__law_turns : FD := runDefR 3 F__law_turns
def F__law_order : FS := (fSeq (fAsgG (fTup (fCons (fLRg (fVar 1)) (fCons (fLst fNil) fNil))) (gTp 2 (gsCons (gNm 2) (gsCons (gNm 3) gsNil)))) (fSeq (fWhile (fB (f2 gNe (fVar 2) (fLst fNil))) (fDrop (fMeth isL gAppend (fVar 3) (fCons (fMeth isL gPopAt (fVar 2) (fCons (fCall 2 G__law_draw (fCons (fVar 0) (fCons (fCb gLen (fCons (fVar 2) fNil)) fNil))) fNil)) fNil)))) (fRet (fVar 3))))
def G__law_order : FD := runDefR 4 F__law_order
def F__law_ties : FS := (fSeq (fSet 3 fDT) (fSeq (fFor (fRange2 (fCons (fC (.int 1)) (fCons (fVar 1) fNil))) (gNm 4) (fSeq (fIfS (fB (f2 gIn (fVar 2) (fTup (fCons (fC (.int 1)) (fCons (fC (.int 2)) fNil))))) (fSub (fC (.bl true)) (fVar 3) (fTup (fCons (f2 gSub (fVar 4) (fC (.int 1))) (fCons (fVar 4) fNil)))) fNx) (fSeq (fIfS (fB (f2 gEq (fVar 2) (fC (.int 4)))) (fSub (fC (.bl true)) (fVar 3) (fTup (fCons (fCall 2 G__law_draw (fCons (fVar 0) (fCons (fVar 4) fNil))) (fCons (fVar 4) fNil)))) fNx) (fFor (fRange1 (fCons (fVar 4) fNil)) (gNm 5) (fIfS (fOr (fAnd (fB (f2 gEq (fVar 2) (fC (.int 0)))) (fB (f2 gEq (fCall 2 G__law_draw (fCons (fVar 0) (fCons (fC (.int 3)) fNil))) (fC (.int 0))))) (fAnd (fB (f2 gEq (fVar 2) (fC (.int 3)))) (fAnd (fB (f2 gEq (f2 gMod (fCb gInt (fCons (f2 gSub (fVar 4) (fVar 5)) fNil)) (fC (.int 2))) (fC (.int 1)))) (fB (f2 gEq (fCall 2 G__law_draw (fCons (fVar 0) (fCons (fC (.int 2)) fNil))) (fC (.int 0))))))) (fSub (fC (.bl true)) (fVar 3) (fTup (fCons (fVar 5) (fCons (fVar 4) fNil)))) fNx))))) (fSeq (fIfS (fAnd (fB (f2 gEq (fVar 2) (fC (.int 2)))) (fB (f2 gGtA (fVar 1) (fC (.int 2))))) (fSub (fC (.bl true)) (fVar 3) (fTup (fCons (fC (.int 0)) (fCons (f2 gSub (fVar 1) (fC (.int 1))) fNil)))) fNx) (fSeq (fIfS (fB (f2 gEq (fVar 2) (fC (.int 5)))) (fFor (fRange2 (fCons (fC (.int 1)) (fCons (fVar 1) fNil))) (gNm 4) (fSeq (fSet 5 (fCall 2 G__law_draw (fCons (fVar 0) (fCons (fVar 4) fNil)))) (fSeq (fSub (fC (.bl true)) (fVar 3) (fTup (fCons (fVar 5) (fCons (fVar 4) fNil)))) (fSub (fC (.bl true)) (fVar 3) (fTup (fCons (fC (.int 0)) (fCons (fVar 4) fNil))))))) fNx) (fRet (fSlice (fCb gTuple (fCons (fCb gSorted (fCons (fCb gList (fCons (fVar 3) fNil)) fNil)) fNil)) foNone (foSome (fC (.int 60)))))))))
def G__law_ties : FD := runDefR 6 F__law_ties
def F__law_web : FS := (fSeq (fAsgG (fTup (fCons (f2 gAdd (fC (.int 1)) (fCall 2 G__law_draw (fCons (fVar 0) (fCons (fVar 1) fNil)))) (fCons (fCall 2 G__law_draw (fCons (fVar 0) (fCons (fC (.int 6)) fNil))) fNil))) (gTp 2 (gsCons (gNm 2) (gsCons (gNm 3) gsNil)))) (fSeq (fSet 4 (fCall 2 G__law_order (fCons (fVar 0) (fCons (fVar 2) fNil)))) (fSeq (fSet 5 (fComp (fList (fCall 3 G__law_ties (fCons (fVar 0) (fCons (fVar 2) (fCons (fVar 3) fNil))))) (gTp 2 (gsCons (gNm 6) (gsCons (gNm 7) gsNil))) fYes (fTup (fCons (fCb gMin2 (fCons (f2 gIx (fVar 4) (fVar 6)) (fCons (f2 gIx (fVar 4) (fVar 7)) fNil))) (fCons (fCb gMax2 (fCons (f2 gIx (fVar 4) (fVar 6)) (fCons (f2 gIx (fVar 4) (fVar 7)) fNil))) fNil))) [6, 7])) (fRet (fTup (fCons (fVar 2) (fCons (fCb gTuple (fCons (fCb gSorted (fCons (fVar 5) fNil)) fNil)) fNil)))))))
def G__law_web : FD := runDefR 8 F__law_web
def F_is_turn : FS := (fSeq (fIfS (fOr (fNot (fB (fCall 2 G_is_tie (fCons (fVar 2) (fCons (fFld ti_many ts_many (fVar 0)) fNil))))) (fB (f2 gNotIn (f2 gIx (fVar 2) (fC (.int 1))) (f2 gIx (fFld ti_near ts_near (fVar 0)) (f2 gIx (fVar 2) (fC (.int 0))))))) (fRet (fC (.bl false))) fNx) (fRet (f2 gEq (f2 gIx (fVar 1) (f2 gIx (fVar 2) (fC (.int 0)))) (f2 gIx (fVar 1) (f2 gIx (fVar 2) (fC (.int 1)))))))
def G_is_turn : FD := runDefR 3 F_is_turn
def F_turned : FS := (fRet (fCb gTuple (fCons (fComp (fEnum (fVar 0)) (gTp 2 (gsCons (gNm 2) (gsCons (gNm 3) gsNil))) fYes (fIf (fB (f2 gIn (fVar 2) (fVar 1))) (f2 gSub (fC (.int 1)) (fVar 3)) (fVar 3)) [2, 3]) fNil)))
def G_turned : FD := runDefR 4 F_turned
def F_done_at : FS := (fSeq (fIfS (fNot (fB (fCall 3 G_is_turn (fCons (fVar 0) (fCons (fVar 1) (fCons (fVar 2) fNil)))))) (fRaise1 23 (fVar 3)) fNx) (fRet (fCall 2 G_turned (fCons (fVar 1) (fCons (fVar 2) fNil)))))
def G_done_at : FD := runDefR 4 F_done_at
def F_need_standing : FS := (fSeq (fIfS (fOr (fNot (fB (fCall 1 G_is_list (fCons (fVar 1) fNil)))) (fB (f2 gNe (fCb gLen (fCons (fVar 1) fNil)) (fFld ti_many ts_many (fVar 0))))) (fRaise1 22 (fC .non)) fNx) (fFor (fEnum (fVar 1)) (gTp 2 (gsCons (gNm 2) (gsCons (gNm 3) gsNil))) (fIfS (fNot (fB (fCall 3 G_is_among (fCons (fVar 3) (fCons (fC (.int 0)) (fCons (fC (.int 1)) fNil)))))) (fRaise1 22 (fVar 2)) fNx)))
def G_need_standing : FD := runDefR 4 F_need_standing
def F_walked : FS := (fSeq (fDrop (fCall 2 G_need_standing (fCons (fVar 0) (fCons (fVar 1) fNil)))) (fSeq (fIfS (fNot (fB (fCall 1 G_is_list (fCons (fVar 2) fNil)))) (fRaise1 23 (fC .non)) fNx) (fSeq (fSet 3 (fCb gTuple (fCons (fVar 1) fNil))) (fSeq (fFor (fEnum (fVar 2)) (gTp 2 (gsCons (gNm 4) (gsCons (gNm 5) gsNil))) (fSet 3 (fCall 4 G_done_at (fCons (fVar 0) (fCons (fVar 3) (fCons (fVar 5) (fCons (fVar 4) fNil))))))) (fRet (fVar 3))))))
def G_walked : FD := runDefR 6 F_walked
def F_law : FS := (fSeq (fSet 1 (fCall 1 G__law_begun (fCons (fVar 0) fNil))) (fSeq (fFor (fList (fTup (fCons (fC (.int 4)) (fCons (fC (.int 8)) (fCons (fC (.int 14)) fNil))))) (gNm 2) (fSeq (fAsgG (fCall 2 G__law_web (fCons (fVar 1) (fCons (fVar 2) fNil))) (gTp 2 (gsCons (gNm 3) (gsCons (gNm 4) gsNil)))) (fSeq (fAsgG (fTup (fCons (fMake (.slt 0 []) 3 G_Web___init__ (fCons (fVar 3) (fCons (fVar 4) fNil))) (fCons (fCall 2 G__law_coins (fCons (fVar 1) (fCons (fVar 3) fNil))) (fCons (fLst fNil) fNil)))) (gTp 3 (gsCons (gNm 5) (gsCons (gNm 6) (gsCons (gNm 7) gsNil))))) (fSeq (fSet 8 (fVar 6)) (fSeq (fFor (fRange1 (fCons (fCall 2 G__law_draw (fCons (fVar 1) (fCons (fC (.int 31)) fNil))) fNil)) (gNm 9) (fSeq (fSet 10 (fCall 2 G__law_turns (fCons (fVar 4) (fCons (fVar 8) fNil)))) (fIfS (fB (f2 gNe (fVar 10) (fLst fNil))) (fSeq (fDrop (fMeth isL gAppend (fVar 7) (fCons (f2 gIx (fVar 10) (fCall 2 G__law_draw (fCons (fVar 1) (fCons (fCb gLen (fCons (fVar 10) fNil)) fNil)))) fNil))) (fSet 8 (fCall 2 G__law_turned (fCons (fVar 8) (fCons (f2 gIx (fVar 7) (f1 gNeg (fC (.int 1)))) fNil))))) fNx))) (fSeq (fAsgG (fTup (fCons (f2 gIx (fLst (fCons (fVar 7) (fCons (fCb gTuple (fCons (fVar 7) fNil)) fNil))) (fCall 2 G__law_draw (fCons (fVar 1) (fCons (fC (.int 2)) fNil)))) (fCons (fCb gList (fCons (fVar 7) fNil)) (fCons (fCb gList (fCons (fVar 6) fNil)) fNil)))) (gTp 3 (gsCons (gNm 11) (gsCons (gNm 12) (gsCons (gNm 13) gsNil))))) (fSeq (fIfS (fOr (fB (f2 gNeS (fCb gRepr (fCons (fCall 3 G_walked (fCons (fVar 5) (fCons (fVar 13) (fCons (fVar 11) fNil)))) fNil)) (fCb gRepr (fCons (fVar 8) fNil)))) (fOr (fB (f2 gNe (fCb gList (fCons (fVar 11) fNil)) (fVar 12))) (fB (f2 gNe (fVar 13) (fCb gList (fCons (fVar 6) fNil)))))) (fRet (fC (.bl false))) fNx) (fSeq (fIfS (fB (f2 gNe (fCall 3 G_walked (fCons (fVar 5) (fCons (fVar 8) (fCons (fRev (fVar 7)) fNil)))) (fVar 6))) (fRet (fC (.bl false))) fNx) (fSeq (fSet 14 (fCall 2 G__law_draw (fCons (fVar 1) (fCons (f2 gAdd (fCb gLen (fCons (fVar 7) fNil)) (fC (.int 1))) fNil)))) (fSeq (fSet 15 (f2 gIx (fLst (fCons (fC .non) (fCons (fC (.int 5)) (fCons (fTup (fCons (fC (.int 0)) (fCons (fC (.int 0)) fNil))) (fCons (fLst (fCons (fC (.int 0)) (fCons (fC (.int 1)) fNil))) (fCons (fTup (fCons (fC (.int 0)) (fCons (fVar 3) fNil))) (fCons (fTup (fCons (fC (.bl true)) (fCons (fC (.int 1)) fNil))) (fCons (fC (.str "01")) (fCons (fTup (fCons (fC (.int 1)) (fCons (fC (.int 0)) fNil))) fNil))))))))) (fCall 2 G__law_draw (fCons (fVar 1) (fCons (fC (.int 8)) fNil))))) (fSeq (fSet 16 (f2 gAdd (f2 gAdd (fSlice (fVar 7) foNone (foSome (fVar 14))) (f2 gMul (fLst (fCons (fVar 15) fNil)) (f2 gAdd (fC (.int 1)) (fCall 2 G__law_draw (fCons (fVar 1) (fCons (fC (.int 2)) fNil)))))) (fSlice (fVar 7) (foSome (fVar 14)) foNone))) (fSeq (fIfS (fB (f2 gNe (fTold xC (fCall 3 G_walked (fCons (fVar 5) (fCons (fVar 6) (fCons (fVar 16) fNil)))) G__law_class) (fTup (fCons (fC (.str "BadTurn")) (fCons (fVar 14) fNil))))) (fRet (fC (.bl false))) fNx) (fSeq (fSet 17 (f2 gIx (fLst (fCons (fC .non) (fCons (fC (.int 5)) (fCons (fC (.str "01")) (fCons fDK (fCons (fC (.bl true)) fNil)))))) (fCall 2 G__law_draw (fCons (fVar 1) (fCons (fC (.int 5)) fNil))))) (fSeq (fIfS (fB (f2 gNe (fTold xC (fCall 3 G_walked (fCons (fVar 5) (fCons (fVar 6) (fCons (fVar 17) fNil)))) G__law_class) (fTup (fCons (fC (.str "BadTurn")) (fCons (fC .non) fNil))))) (fRet (fC (.bl false))) fNx) (fIfS (fB (f2 gNe (fCall 3 G_walked (fCons (fVar 5) (fCons (fVar 6) (fCons (fTup fNil) fNil)))) (fVar 6))) (fRet (fC (.bl false))) fNx))))))))))))))) (fSeq (fSet 18 (fMake (.slt 0 []) 3 G_Web___init__ (fCons (fC (.int 3)) (fCons (fLst (fCons (fTup (fCons (fC (.int 0)) (fCons (fC (.int 1)) fNil))) (fCons (fTup (fCons (fC (.int 1)) (fCons (fC (.int 2)) fNil))) fNil))) fNil)))) (fSeq (fIfS (fB (f2 gNe (fCall 3 G_walked (fCons (fVar 18) (fCons (fLst (fCons (fC (.int 0)) (fCons (fC (.int 0)) (fCons (fC (.int 1)) fNil)))) (fCons (fLst (fCons (fTup (fCons (fC (.int 0)) (fCons (fC (.int 1)) fNil))) (fCons (fTup (fCons (fC (.int 1)) (fCons (fC (.int 2)) fNil))) fNil))) fNil)))) (fTup (fCons (fC (.int 1)) (fCons (fC (.int 0)) (fCons (fC (.int 0)) fNil)))))) (fRet (fC (.bl false))) fNx) (fRet (f2 gEq (fTold xC (fCall 3 G_walked (fCons (fVar 18) (fCons (fTup (fCons (fC (.int 0)) (fCons (fC (.int 0)) (fCons (fC (.int 1)) fNil)))) (fCons (fLst (fCons (fTup (fCons (fC (.int 0)) (fCons (fC (.int 1)) fNil))) (fCons (fTup (fCons (fC (.int 0)) (fCons (fC (.int 1)) fNil))) (fCons (fTup (fCons (fC (.int 1)) (fCons (fC (.int 2)) fNil))) fNil)))) fNil)))) G__law_class) (fTup (fCons (fC (.str "BadTurn")) (fCons (fC (.int 2)) fNil)))))))))
def G_law : FD := runDefR 19 F_law
end Lk

namespace Lk
open PySem PySem.Spec PyProof.Rows Dn Enc
open L2 (atI ixN Key)
local macro_rules
  | `(tactic| simp? only [$ls,*]) => `(tactic| simp only [x_seq, x_nx, x_bk, x_ct, x_drop, x_ret, x_retN, x_if, x_set, x_asg, x_nm, x_gsNil, x_gsCons, x_gTp, x_var, x_c, x_2, x_1, x_B, asB_ok, x_and, x_or, x_not, x_andV, x_orV, x_notV, x_ifE, x_chain, x_nil, x_cons, x_tup, x_lst, x_call, x_cb, x_aug, x_dk, x_dt, x_yes, x_meth, x_meth0, a_drop, a_ret, a_set, a_asg, a_g, a_2, a_const, a_not, a_asB, a_notV, a_ch4t, a_ch4f, a_ch2, a_ch1, a_cons2, a_cons, a_tup, a_lst, a_call, a_aug2, a_aug, a_meth2, a_meth, a_meth0, nxt_nx, nxt_rt, nxt_bk, nxt_ct, nxt_exc, plain_nx, at_nx, pick_t, pick_f, pk_ap, oVar_ok, wp_nx, wp_rt, wp_bk, wp_ct, wp_exc, q_ah_nx, q_ah_rt, q_ah_bk, q_ah_ct, q_ah_exc, q_df_nx, q_df_rt, q_df_exc, q_dfE_nx, q_dfE_rt, q_dfE_exc, q_t_nx, q_t_ct, q_t_bk, q_t_rt, q_t_exc, rp_ok, rp_exc, kSt_ap, kX_ap, kR_ap, kWh_t, kWh_f, Res.bind_ok, Res.bind_exc, Res.s_ok, Res.s_exc, elem_nm, elem_tp2, List.getElem?_cons_zero, List.getElem?_cons_succ, List.set_cons_zero, List.set_cons_succ, List.map_cons, List.map_nil, List.length_cons, List.length_nil, List.length_append, List.length_map, List.length_set, List.replicate, List.cons_append, List.nil_append, List.append_assoc, List.append_nil, Nat.add_assoc, Nat.reduceAdd, Nat.zero_add, Nat.add_zero, Nat.reduceSub, Nat.reduceLT, Nat.reduceEqDiff, Nat.lt_irrefl, ↓reduceIte, if_true, if_false, Bool.not_true, Bool.not_false, Bool.false_eq_true, reduceCtorEq, big_def, Int.natCast_zero, Int.natCast_one, Int.cast_ofNat_Int, Int.reduceEq, decide_true, decide_false, Bool.true_and, Bool.false_and, Bool.and_self, Bool.and_false, cons_atA, cons_setA, cons_atB, cons_setB, cons_at, cons_set, cons_at2, cons_set2, cons_at3, cons_set3, h_at, h_at0, h_set, h_set0, clo_nil, clo_cons, Bool.and_true, Bool.true_and, gSub_int, gAdd_ii, gLt_int, gLe_int, gGt_int, gGe_int, gLtA_int, gLeA_int, gGtA_int, gGeA_int, gI0_int, gNeg_int, gInt_int, gIntT_int, gEq_int, gNe_int, gIsA_non, gNotA_non, isN_non, isN_int, isN_tup, isN_obj, isN_bl, isN_str, resI_some, gIx_tup, lit0, lit1, lit2, gTuple_tup, gLen_tup, gList_tup, isi_int_int, isi_bl_int, isi_non_int, isi_str_int, isi_tup_int, isi_scr_int, isiO_list_int, isiO_dict_int, isi_int_bool, isi_bl_bool, isi_non_bool, isi_str_bool, isi_tup_bool, isi_scr_bool, isiO_list_bool, isiO_dict_bool, isi_int_str, isi_bl_str, isi_non_str, isi_str_str, isi_tup_str, isi_scr_str, isiO_list_str, isiO_dict_str, isi_int_tuple, isi_bl_tuple, isi_non_tuple, isi_str_tuple, isi_tup_tuple, isi_scr_tuple, isiO_list_tuple, isiO_dict_tuple, isi_int_list, isi_bl_list, isi_non_list, isi_str_list, isi_tup_list, isi_scr_list, isiO_list_list, isiO_dict_list, isi2_int, isi2_bl, isi2_non, isi2_str, isi2_tup, isi2_scr, isi2O_list, isi2O_dict, x_isi, x_isi2, kIsi_obj, kIsi2_obj, tyO_lst, tyO_dK, tyO_dT, x_fld, kFld_obj, fldO_ins, fldO_slt, tblAt_cons, tblAt_nil, x_setF, a_setF, a_setF2, setFO_ins, setFO_slt, stO_some, gIx_objI, ixO_lst, ixO_dK, gIx_objT, ixTO_dT, ixTO_lk, gIn_obj, gNotIn_obj, inIO_dN, notInIO_dN, inIO_nats, notInIO_nats, x_sub, a_sub, a_sub2, a_sub3, isL_obj, isDk_obj, isLO_lst, isDkO_dK, isDkO_dT, gAppend_obj, appO_lst, lstO_lst, lstAt_obj, gExtend_obj, extO_lst, gUpd_obj, updO_dK, gPop_obj, popO_app, gPopAt_obj, x_list, kList_obj, kListO_lst, kList_tup, kList_scr, x_enum, kEnum_obj, kEnumO_lst, kEnum_tup, x_range1, x_range2, x_lrg, gTuple_obj, gTupO_some, gLen_obj, gLenO_lst, gLenO_dK, gLenO_dT, gList_obj, gListO_lst, gListO_dK, gListO_dT, gSorted_obj, sortO_nats, gSum_obj, sumO_nats, sumO_ints, gAny_obj, gAll_obj, anyO_bools, allO_bools, x_make, a_make, a_make2, x_mth, kMth_obj, mthO_ins, a_mth2, x_mthS, kMthS_obj, mthSO_slt, x_prop, kProp_obj, propO_ins, kPropR_ok, gIn_tup, gNotIn_tup, x_fpNil, x_fpCons, a_fp, a_fp2, a_fp3, x_disp, a_disp, dispO_ok, keysA_nil, keysA_int, keysA_str, kOpt_some, merge_one, x_slice, a_sl, a_sl2, x_onone, x_osome, a_os, sl_tup, sl_obj, slO_some, nat_add1, nat_add, nat_mod2, sortO_pairs', gGeA_pair, gLtA_pair, wipe_nil, wipe_cons, Nat.reduceLeDiff, $ls,*])
local macro_rules
  | `(tactic| simp? [$ls,*]) => `(tactic| simp only [cloA_app, clo_nil, clo_cons, Bool.and_true, Bool.and_self, cv_int, cv_bl, cv_str, cv_non, cv_tup, cv_obj, cvs_nil, cvs_cons, cf_nil, cf_cons, cf_none, co_lst, co_dK, co_dT, co_ins, co_slt, ckk_nil, ckk_cons, ck_dN, clo_en, clo_ens, $ls,*])

/-! ### webs in the heap -/
structure Wb where
  n : Nat
  near : List (List Nat)
  ties : List (Nat × Nat)
def webO (W : Wb) : AO := .slt 0 [some (.int (W.n : Nat)), some (.tup (W.near.map en)), some (.tup (W.ties.map en))]
structure WebAt (A : AH) (w : Nat) (W : Wb) : Prop where
  at_ : A[w]? = some (webO W)
theorem WebAt.app {A : AH} {w : Nat} {W : Wb} (h : WebAt A w W) (B : AH) : WebAt (A ++ B) w W := ⟨h_get h.at_ B⟩
theorem WebAt.get {A : AH} {w : Nat} {W : Wb} (h : WebAt A w W) : A[w]? = some (.slt 0 [some (.int (W.n : Nat)), some (.tup (W.near.map en)), some (.tup (W.ties.map en))]) := h.at_
structure NearOk (W : Wb) : Prop where
  few : W.n ≤ 24
  len : W.near.length = W.n
  lt : ∀ l ∈ W.near, ∀ q ∈ l, q < W.n
  deg : ∀ l ∈ W.near, l.length ≤ 60
/-! ### numbers and ties -/
theorem is_whole_int {i : Int} {A : AH} : G_is_whole [.int i] A = .ok (.bl true) A := by
  unfold G_is_whole F_is_whole
  refine rd_eq ?_
  simp? only []
  exact gc_same rfl
theorem is_among_int {i l m : Int} {A : AH} : G_is_among [.int i, .int l, .int m] A = .ok (.bl (decide (l ≤ i) && decide (i ≤ m))) A := by
  unfold G_is_among F_is_among
  refine rd_eq ?_
  simp? only [is_whole_int]
  by_cases h : l ≤ i <;> by_cases h2 : i ≤ m <;> simp only [x_seq, x_nx, x_bk, x_ct, x_drop, x_ret, x_retN, x_if, x_set, x_asg, x_nm, x_gsNil, x_gsCons, x_gTp, x_var, x_c, x_2, x_1, x_B, asB_ok, x_and, x_or, x_not, x_andV, x_orV, x_notV, x_ifE, x_chain, x_nil, x_cons, x_tup, x_lst, x_call, x_cb, x_aug, x_dk, x_dt, x_yes, x_meth, x_meth0, a_drop, a_ret, a_set, a_asg, a_g, a_2, a_const, a_not, a_asB, a_notV, a_ch4t, a_ch4f, a_ch2, a_ch1, a_cons2, a_cons, a_tup, a_lst, a_call, a_aug2, a_aug, a_meth2, a_meth, a_meth0, nxt_nx, nxt_rt, nxt_bk, nxt_ct, nxt_exc, plain_nx, at_nx, pick_t, pick_f, pk_ap, oVar_ok, wp_nx, wp_rt, wp_bk, wp_ct, wp_exc, q_ah_nx, q_ah_rt, q_ah_bk, q_ah_ct, q_ah_exc, q_df_nx, q_df_rt, q_df_exc, q_dfE_nx, q_dfE_rt, q_dfE_exc, q_t_nx, q_t_ct, q_t_bk, q_t_rt, q_t_exc, rp_ok, rp_exc, kSt_ap, kX_ap, kR_ap, kWh_t, kWh_f, Res.bind_ok, Res.bind_exc, Res.s_ok, Res.s_exc, elem_nm, elem_tp2, List.getElem?_cons_zero, List.getElem?_cons_succ, List.set_cons_zero, List.set_cons_succ, List.map_cons, List.map_nil, List.length_cons, List.length_nil, List.length_append, List.length_map, List.length_set, List.replicate, List.cons_append, List.nil_append, List.append_assoc, List.append_nil, Nat.add_assoc, Nat.reduceAdd, Nat.zero_add, Nat.add_zero, Nat.reduceSub, Nat.reduceLT, Nat.reduceEqDiff, Nat.lt_irrefl, ↓reduceIte, if_true, if_false, Bool.not_true, Bool.not_false, Bool.false_eq_true, reduceCtorEq, big_def, Int.natCast_zero, Int.natCast_one, Int.cast_ofNat_Int, Int.reduceEq, decide_true, decide_false, Bool.true_and, Bool.false_and, Bool.and_self, Bool.and_false, cons_atA, cons_setA, cons_atB, cons_setB, cons_at, cons_set, cons_at2, cons_set2, cons_at3, cons_set3, h_at, h_at0, h_set, h_set0, clo_nil, clo_cons, Bool.and_true, Bool.true_and, gSub_int, gAdd_ii, gLt_int, gLe_int, gGt_int, gGe_int, gLtA_int, gLeA_int, gGtA_int, gGeA_int, gI0_int, gNeg_int, gInt_int, gIntT_int, gEq_int, gNe_int, gIsA_non, gNotA_non, isN_non, isN_int, isN_tup, isN_obj, isN_bl, isN_str, resI_some, gIx_tup, lit0, lit1, lit2, gTuple_tup, gLen_tup, gList_tup, isi_int_int, isi_bl_int, isi_non_int, isi_str_int, isi_tup_int, isi_scr_int, isiO_list_int, isiO_dict_int, isi_int_bool, isi_bl_bool, isi_non_bool, isi_str_bool, isi_tup_bool, isi_scr_bool, isiO_list_bool, isiO_dict_bool, isi_int_str, isi_bl_str, isi_non_str, isi_str_str, isi_tup_str, isi_scr_str, isiO_list_str, isiO_dict_str, isi_int_tuple, isi_bl_tuple, isi_non_tuple, isi_str_tuple, isi_tup_tuple, isi_scr_tuple, isiO_list_tuple, isiO_dict_tuple, isi_int_list, isi_bl_list, isi_non_list, isi_str_list, isi_tup_list, isi_scr_list, isiO_list_list, isiO_dict_list, isi2_int, isi2_bl, isi2_non, isi2_str, isi2_tup, isi2_scr, isi2O_list, isi2O_dict, x_isi, x_isi2, kIsi_obj, kIsi2_obj, tyO_lst, tyO_dK, tyO_dT, x_fld, kFld_obj, fldO_ins, fldO_slt, tblAt_cons, tblAt_nil, x_setF, a_setF, a_setF2, setFO_ins, setFO_slt, stO_some, gIx_objI, ixO_lst, ixO_dK, gIx_objT, ixTO_dT, ixTO_lk, gIn_obj, gNotIn_obj, inIO_dN, notInIO_dN, inIO_nats, notInIO_nats, x_sub, a_sub, a_sub2, a_sub3, isL_obj, isDk_obj, isLO_lst, isDkO_dK, isDkO_dT, gAppend_obj, appO_lst, lstO_lst, lstAt_obj, gExtend_obj, extO_lst, gUpd_obj, updO_dK, gPop_obj, popO_app, gPopAt_obj, x_list, kList_obj, kListO_lst, kList_tup, kList_scr, x_enum, kEnum_obj, kEnumO_lst, kEnum_tup, x_range1, x_range2, x_lrg, gTuple_obj, gTupO_some, gLen_obj, gLenO_lst, gLenO_dK, gLenO_dT, gList_obj, gListO_lst, gListO_dK, gListO_dT, gSorted_obj, sortO_nats, gSum_obj, sumO_nats, sumO_ints, gAny_obj, gAll_obj, anyO_bools, allO_bools, x_make, a_make, a_make2, x_mth, kMth_obj, mthO_ins, a_mth2, x_mthS, kMthS_obj, mthSO_slt, x_prop, kProp_obj, propO_ins, kPropR_ok, gIn_tup, gNotIn_tup, x_fpNil, x_fpCons, a_fp, a_fp2, a_fp3, x_disp, a_disp, dispO_ok, keysA_nil, keysA_int, keysA_str, kOpt_some, merge_one, x_slice, a_sl, a_sl2, x_onone, x_osome, a_os, sl_tup, sl_obj, slO_some, nat_add1, nat_add, nat_mod2, sortO_pairs', gGeA_pair, gLtA_pair, wipe_nil, wipe_cons, Nat.reduceLeDiff, h, h2, decide_true, decide_false, gc_same, cloA_app, clo_nil, clo_cons, Bool.and_true, Bool.and_self, cv_int, cv_bl, cv_str, cv_non, cv_tup, cv_obj, cvs_nil, cvs_cons, cf_nil, cf_cons, cf_none, co_lst, co_dK, co_dT, co_ins, co_slt, ckk_nil, ckk_cons, ck_dN, clo_en, clo_ens, Bool.and_self, Bool.and_false, Bool.and_true]
theorem cloz {G : AH} {k : Nat} (h : cloA 0 G = true) : cloA k G = true := cloA_more (Nat.zero_le k) h
theorem gc_keep {A B : AH} {k : Nat} {o : AO} (hB : B[k]? = some o) (hk : A.length ≤ k) (ho : cloO A.length o = false) : gcR A (.obj k) B = .ok (.obj k) B := by
  unfold gcR
  split
  · rw [if_neg (by rw [cloV, decide_eq_true_eq]; omega)]
    simp only [hB]
    rw [if_neg (by rw [ho]; simp)]
  · rfl

/-! ### ties, and a web made -/
structure TiesOk (n : Nat) (E : List (Nat × Nat)) : Prop where
  few : E.length ≤ 60
  lt : ∀ t ∈ E, t.1 < t.2 ∧ t.2 < n
  asc : E.Pairwise ltNN
theorem is_tie_pair {a b n : Int} {A : AH} : G_is_tie [.tup [.int a, .int b], .int n] A = .ok (.bl (decide (0 ≤ a) && decide (a ≤ n - 1) && decide (a + 1 ≤ b) && decide (b ≤ n - 1))) A := by
  unfold G_is_tie F_is_tie
  refine rd_eq ?_
  simp? only [is_among_int]
  by_cases h : 0 ≤ a <;> by_cases h2 : a ≤ n - 1 <;> simp [x_seq, x_nx, x_bk, x_ct, x_drop, x_ret, x_retN, x_if, x_set, x_asg, x_nm, x_gsNil, x_gsCons, x_gTp, x_var, x_c, x_2, x_1, x_B, asB_ok, x_and, x_or, x_not, x_andV, x_orV, x_notV, x_ifE, x_chain, x_nil, x_cons, x_tup, x_lst, x_call, x_cb, x_aug, x_dk, x_dt, x_yes, x_meth, x_meth0, a_drop, a_ret, a_set, a_asg, a_g, a_2, a_const, a_not, a_asB, a_notV, a_ch4t, a_ch4f, a_ch2, a_ch1, a_cons2, a_cons, a_tup, a_lst, a_call, a_aug2, a_aug, a_meth2, a_meth, a_meth0, nxt_nx, nxt_rt, nxt_bk, nxt_ct, nxt_exc, plain_nx, at_nx, pick_t, pick_f, pk_ap, oVar_ok, wp_nx, wp_rt, wp_bk, wp_ct, wp_exc, q_ah_nx, q_ah_rt, q_ah_bk, q_ah_ct, q_ah_exc, q_df_nx, q_df_rt, q_df_exc, q_dfE_nx, q_dfE_rt, q_dfE_exc, q_t_nx, q_t_ct, q_t_bk, q_t_rt, q_t_exc, rp_ok, rp_exc, kSt_ap, kX_ap, kR_ap, kWh_t, kWh_f, Res.bind_ok, Res.bind_exc, Res.s_ok, Res.s_exc, elem_nm, elem_tp2, List.getElem?_cons_zero, List.getElem?_cons_succ, List.set_cons_zero, List.set_cons_succ, List.map_cons, List.map_nil, List.length_cons, List.length_nil, List.length_append, List.length_map, List.length_set, List.replicate, List.cons_append, List.nil_append, List.append_assoc, List.append_nil, Nat.add_assoc, Nat.reduceAdd, Nat.zero_add, Nat.add_zero, Nat.reduceSub, Nat.reduceLT, Nat.reduceEqDiff, Nat.lt_irrefl, ↓reduceIte, if_true, if_false, Bool.not_true, Bool.not_false, Bool.false_eq_true, reduceCtorEq, big_def, Int.natCast_zero, Int.natCast_one, Int.cast_ofNat_Int, Int.reduceEq, decide_true, decide_false, Bool.true_and, Bool.false_and, Bool.and_self, Bool.and_false, cons_atA, cons_setA, cons_atB, cons_setB, cons_at, cons_set, cons_at2, cons_set2, cons_at3, cons_set3, h_at, h_at0, h_set, h_set0, clo_nil, clo_cons, Bool.and_true, Bool.true_and, gSub_int, gAdd_ii, gLt_int, gLe_int, gGt_int, gGe_int, gLtA_int, gLeA_int, gGtA_int, gGeA_int, gI0_int, gNeg_int, gInt_int, gIntT_int, gEq_int, gNe_int, gIsA_non, gNotA_non, isN_non, isN_int, isN_tup, isN_obj, isN_bl, isN_str, resI_some, gIx_tup, lit0, lit1, lit2, gTuple_tup, gLen_tup, gList_tup, isi_int_int, isi_bl_int, isi_non_int, isi_str_int, isi_tup_int, isi_scr_int, isiO_list_int, isiO_dict_int, isi_int_bool, isi_bl_bool, isi_non_bool, isi_str_bool, isi_tup_bool, isi_scr_bool, isiO_list_bool, isiO_dict_bool, isi_int_str, isi_bl_str, isi_non_str, isi_str_str, isi_tup_str, isi_scr_str, isiO_list_str, isiO_dict_str, isi_int_tuple, isi_bl_tuple, isi_non_tuple, isi_str_tuple, isi_tup_tuple, isi_scr_tuple, isiO_list_tuple, isiO_dict_tuple, isi_int_list, isi_bl_list, isi_non_list, isi_str_list, isi_tup_list, isi_scr_list, isiO_list_list, isiO_dict_list, isi2_int, isi2_bl, isi2_non, isi2_str, isi2_tup, isi2_scr, isi2O_list, isi2O_dict, x_isi, x_isi2, kIsi_obj, kIsi2_obj, tyO_lst, tyO_dK, tyO_dT, x_fld, kFld_obj, fldO_ins, fldO_slt, tblAt_cons, tblAt_nil, x_setF, a_setF, a_setF2, setFO_ins, setFO_slt, stO_some, gIx_objI, ixO_lst, ixO_dK, gIx_objT, ixTO_dT, ixTO_lk, gIn_obj, gNotIn_obj, inIO_dN, notInIO_dN, inIO_nats, notInIO_nats, x_sub, a_sub, a_sub2, a_sub3, isL_obj, isDk_obj, isLO_lst, isDkO_dK, isDkO_dT, gAppend_obj, appO_lst, lstO_lst, lstAt_obj, gExtend_obj, extO_lst, gUpd_obj, updO_dK, gPop_obj, popO_app, gPopAt_obj, x_list, kList_obj, kListO_lst, kList_tup, kList_scr, x_enum, kEnum_obj, kEnumO_lst, kEnum_tup, x_range1, x_range2, x_lrg, gTuple_obj, gTupO_some, gLen_obj, gLenO_lst, gLenO_dK, gLenO_dT, gList_obj, gListO_lst, gListO_dK, gListO_dT, gSorted_obj, sortO_nats, gSum_obj, sumO_nats, sumO_ints, gAny_obj, gAll_obj, anyO_bools, allO_bools, x_make, a_make, a_make2, x_mth, kMth_obj, mthO_ins, a_mth2, x_mthS, kMthS_obj, mthSO_slt, x_prop, kProp_obj, propO_ins, kPropR_ok, gIn_tup, gNotIn_tup, x_fpNil, x_fpCons, a_fp, a_fp2, a_fp3, x_disp, a_disp, dispO_ok, keysA_nil, keysA_int, keysA_str, kOpt_some, merge_one, x_slice, a_sl, a_sl2, x_onone, x_osome, a_os, sl_tup, sl_obj, slO_some, nat_add1, nat_add, nat_mod2, sortO_pairs', gGeA_pair, gLtA_pair, wipe_nil, wipe_cons, Nat.reduceLeDiff, h, h2, decide_true, decide_false, gc_same, cloA_app, clo_nil, clo_cons, Bool.and_true, Bool.and_self, cv_int, cv_bl, cv_str, cv_non, cv_tup, cv_obj, cvs_nil, cvs_cons, cf_nil, cf_cons, cf_none, co_lst, co_dK, co_dT, co_ins, co_slt, ckk_nil, ckk_cons, ck_dN, clo_en, clo_ens, Bool.and_self, Bool.and_false, Bool.and_true, is_among_int]
theorem is_tie_ok {n : Nat} {t : Nat × Nat} (h : t.1 < t.2 ∧ t.2 < n) {A : AH} : G_is_tie [.tup [.int (t.1 : Nat), .int (t.2 : Nat)], .int (n : Nat)] A = .ok (.bl true) A := by
  rw [is_tie_pair]
  have h1 : (0 : Int) ≤ (t.1 : Nat) := by omega
  have h2 : ((t.1 : Nat) : Int) ≤ (n : Nat) - 1 := by omega
  have h3 : ((t.1 : Nat) : Int) + 1 ≤ (t.2 : Nat) := by omega
  have h4 : ((t.2 : Nat) : Int) ≤ (n : Nat) - 1 := by omega
  simp only [h1, h2, h3, h4, decide_true, Bool.and_self]
theorem is_list_seq {x : AV} {xs : List AV} {A : AH} (h : SeqIs A x xs) : G_is_list [x] A = .ok (.bl true) A := by
  unfold G_is_list F_is_list
  refine rd_eq ?_
  simp? only [h.isl]
  exact gc_same rfl
theorem need_ties_ok {n : Nat} {E : List (Nat × Nat)} (h : TiesOk n E) {x : AV} {A : AH} (hx : SeqIs A x (E.map en)) : G_need_ties [.int (n : Nat), x] A = .ok .non A := by
  have hf := h.few
  unfold G_need_ties F_need_ties
  refine rd_eq ?_
  simp? only [is_list_seq hx, hx.len]
  rw [decide_eq_false (by omega)]
  simp? only []
  refine wp_enum E en (A1 := A) (x := x) (by simp? only []) hx (by omega) (fun i ρ B => ∃ o1 o2 : Option AV, ρ = [some (.int (n : Nat)), some x, o1, o2] ∧ B = A) ⟨_, _, rfl, rfl⟩ (by rintro i ρ B ⟨_, _, _, rfl⟩; exact hx) ?_ ?_
  · rintro i t ρ B ht ⟨o1, o2, rfl, rfl⟩
    have hlt := h.lt t (List.mem_of_getElem? ht)
    have hil := (List.getElem?_eq_some_iff.mp ht).1
    simp? only [pairI, en_pair, en_nat, is_tie_ok hlt]
    by_cases hi : 0 < i
    · have hi' : ((0 : Int) < (i : Nat)) := by omega
      have hj : ((i : Nat) : Int) - 1 = ((i - 1 : Nat) : Int) := by omega
      have hlt2 : ltNN (gt E (i - 1)) t := by
        have h1 := of_gt (l := E) (k := i - 1) (by omega)
        have := List.pairwise_iff_getElem.mp h.asc (i - 1) i (by omega) hil (by omega)
        rw [List.getElem?_eq_getElem (by omega)] at h1
        rw [List.getElem?_eq_getElem hil] at ht
        cases ht
        injection h1 with h1
        rw [← h1]
        exact this
      have hlt3 : (((gt E (i - 1)).1 : Nat) : Int) < (t.1 : Nat) ∨ ((((gt E (i - 1)).1 : Nat) : Int) = (t.1 : Nat) ∧ (((gt E (i - 1)).2 : Nat) : Int) < (t.2 : Nat)) := by
        unfold ltNN at hlt2
        omega
      simp? only [hi', hj, hx.ix, ix_ok (show i - 1 < E.length by omega), en_pair, en_nat, hlt3, decide_true]
      exact ⟨_, _, rfl, trivial⟩
    · have hi' : ¬ ((0 : Int) < (i : Nat)) := by omega
      simp? only [hi', decide_false]
      exact ⟨_, _, rfl, trivial⟩
  · rintro ρ B ⟨o1, o2, rfl, rfl⟩
    simp? only []
    exact gc_same rfl
/-- the neighbours of a place, in the order of the ties; sorted -/
def nbrs (E : List (Nat × Nat)) (p : Nat) : List Nat := E.filterMap fun t => if t.1 = p then some t.2 else if t.2 = p then some t.1 else none
def nearOf (n : Nat) (E : List (Nat × Nat)) : List (List Nat) := (List.range n).map fun p => srtN (nbrs E p)
def mkW (n : Nat) (E : List (Nat × Nat)) : Wb := ⟨n, nearOf n E, E⟩
/-- lists that lie one behind another -/
def lstsO (ls : List (List Nat)) : AH := ls.map fun l => AO.lst (l.map en)
def refs (b n : Nat) : List AV := (List.range n).map fun i => AV.obj (b + i)
theorem refs_succ {b n : Nat} : refs b (n + 1) = refs b n ++ [.obj (b + n)] := by
  unfold refs
  rw [List.range_succ, List.map_append]
  rfl
def addTie (ls : List (List Nat)) (t : Nat × Nat) : List (List Nat) := (ls.set t.1 (gt ls t.1 ++ [t.2])).set t.2 (gt (ls.set t.1 (gt ls t.1 ++ [t.2])) t.2 ++ [t.1])
theorem lstsO_at {ls : List (List Nat)} {i : Nat} (h : i < ls.length) : (lstsO ls)[i]? = some (.lst ((gt ls i).map en)) := by
  unfold lstsO
  rw [List.getElem?_map, of_gt h]
  rfl
theorem lstsO_set {ls : List (List Nat)} {i : Nat} {l : List Nat} : (lstsO ls).set i (.lst (l.map en)) = lstsO (ls.set i l) := by
  unfold lstsO
  rw [List.map_set]
theorem app_nat {l : List Nat} {q : Nat} : l.map en ++ [AV.int ((q : Nat) : Int)] = (l ++ [q]).map en := by
  rw [List.map_append]
  rfl
theorem refs_at {b n i : Nat} (h : i < n) {A : AH} : resI (atI (refs b n) ((i : Nat) : Int)) A = .ok (.obj (b + i)) A := by
  unfold refs
  rw [ix_okF (by rw [List.length_range]; exact h)]
  congr 3
  have := gt_range (f := id) h
  simpa using this
theorem refs_len {b n : Nat} : (refs b n).length = n := by unfold refs; rw [List.length_map, List.length_range]
theorem lstsO_len {ls : List (List Nat)} : (lstsO ls).length = ls.length := by unfold lstsO; rw [List.length_map]
theorem addTie_len {ls : List (List Nat)} {t : Nat × Nat} : (addTie ls t).length = ls.length := by unfold addTie; rw [List.length_set, List.length_set]
theorem gt_set {α : Type} [Inhabited α] {l : List α} {i j : Nat} {x : α} (h : j < l.length) : gt (l.set i x) j = if i = j then x else gt l j := by
  apply gt_of
  rw [List.getElem?_set]
  by_cases e : i = j
  · subst e
    rw [if_pos rfl, if_pos rfl, if_pos h]
  · rw [if_neg e, if_neg e, of_gt h]
theorem gt_addTie {ls : List (List Nat)} {t : Nat × Nat} (h1 : t.1 < ls.length) (h2 : t.2 < ls.length) (ne : t.1 ≠ t.2) {p : Nat} (hp : p < ls.length) :
    gt (addTie ls t) p = gt ls p ++ (if t.1 = p then [t.2] else if t.2 = p then [t.1] else []) := by
  unfold addTie
  rw [gt_set (by rw [List.length_set]; exact hp), gt_set h2, gt_set hp]
  by_cases e : t.2 = p
  · subst e
    rw [if_pos rfl, if_neg ne, if_neg ne, if_pos rfl]
  · rw [if_neg e]
    by_cases e2 : t.1 = p
    · subst e2
      rw [if_pos rfl, if_pos rfl]
    · rw [if_neg e2, if_neg e2, if_neg e, List.append_nil]
/-- one tie more, in both places' lists -/
theorem tie_body {c a b k n : Nat} {ρ : Rho} {t : Nat × Nat} {B : AH} {ls : List (List Nat)} (hc : ρ[c]? = some (some (.obj k))) (hk : k = B.length) (ha : ρ[a]? = some (some (.int (t.1 : Nat)))) (hb : ρ[b]? = some (some (.int (t.2 : Nat)))) (hn : ls.length = n) (h1 : t.1 < n) (h2 : t.2 < n)
    (hs : ∀ l ∈ ls, l.length < 1000) (ne : t.1 ≠ t.2) : (fSeq (fDrop (fMeth isL gAppend (f2 gIx (fVar c) (fVar a)) (fCons (fVar b) fNil))) (fDrop (fMeth isL gAppend (f2 gIx (fVar c) (fVar b)) (fCons (fVar a) fNil)))) ρ (B ++ .lst (refs (B.length + 1) n) :: lstsO ls) =
      .nx ρ (B ++ .lst (refs (B.length + 1) n) :: lstsO (addTie ls t)) := by
  subst hk
  have l1 : (gt ls t.1).length < 1000000 := Nat.lt_trans (hs _ (gt_mem (by omega))) (by omega)
  have l2 : (gt ls t.2).length < 1000000 := Nat.lt_trans (hs _ (gt_mem (by omega))) (by omega)
  have h1' : t.1 < ls.length := by omega
  have h2' : t.2 < ls.length := by omega
  have h2'' : t.2 < (ls.set t.1 (gt ls t.1 ++ [t.2])).length := by rw [List.length_set]; omega
  have e3 : gt (ls.set t.1 (gt ls t.1 ++ [t.2])) t.2 = gt ls t.2 := by rw [gt_set h2', if_neg ne]
  simp? only [hc, ha, hb, refs_at h1, refs_at h2, lstsO_at h1', lstsO_at h2'', lstsO_set, app_nat, l1, l2, e3]
  unfold addTie
  rw [e3]
theorem fold_addTie {n : Nat} : ∀ (E : List (Nat × Nat)) (ls : List (List Nat)), ls.length = n → (∀ t ∈ E, t.1 < t.2 ∧ t.2 < n) → ∀ p, p < n → gt (E.foldl addTie ls) p = gt ls p ++ nbrs E p
  | [], ls, _, _, p, _ => by simp [nbrs]
  | t :: E, ls, hl, h, p, hp => by
    have ht := h t List.mem_cons_self
    rw [List.foldl_cons, fold_addTie E _ (addTie_len.trans hl) (fun s hs => h s (List.mem_cons_of_mem _ hs)) p hp, gt_addTie (by omega) (by omega) (by omega) (by omega), List.append_assoc]
    congr 1
    unfold nbrs
    rw [List.filterMap_cons]
    by_cases e : t.1 = p
    · rw [if_pos e, if_pos e]
      rfl
    · rw [if_neg e, if_neg e]
      by_cases e2 : t.2 = p
      · rw [if_pos e2, if_pos e2]
        rfl
      · rw [if_neg e2, if_neg e2]
        rfl
theorem fold_len {n : Nat} : ∀ (E : List (Nat × Nat)) (ls : List (List Nat)), ls.length = n → (E.foldl addTie ls).length = n
  | [], _, h => h
  | t :: E, ls, h => fold_len E _ (addTie_len.trans h)
theorem nbrs_len {E : List (Nat × Nat)} {p : Nat} : (nbrs E p).length ≤ E.length := List.length_filterMap_le _ _
theorem fold_ties {n : Nat} {E : List (Nat × Nat)} (h : TiesOk n E) : E.foldl addTie (List.replicate n []) = (List.range n).map (nbrs E) := by
  apply List.ext_getElem?
  intro p
  have l1 : (E.foldl addTie (List.replicate n [])).length = n := fold_len E _ (by simp)
  by_cases hp : p < n
  · rw [of_gt (by rw [l1]; exact hp), fold_addTie E _ (by simp) h.lt p hp]
    have : gt (List.replicate n ([] : List Nat)) p = [] := by
      apply gt_of
      rw [List.getElem?_replicate, if_pos hp]
    rw [this, List.nil_append, List.getElem?_map, List.getElem?_range hp]
    rfl
  · rw [List.getElem?_eq_none (by omega), List.getElem?_eq_none (by simp; omega)]
/-- n new empty lists in a list -/
theorem comp_empties {fi : FI} {i n : Nat} {own : List Nat} {ρ : Rho} {A : AH} (hi : fi ρ A = .ok (.fix ((List.range n).map en)) A) (hn : n < 1000000) :
    fComp fi (gNm i) fYes (fLst fNil) own ρ A = .ok (.obj A.length) (A ++ .lst (refs (A.length + 1) n) :: lstsO (List.replicate n [])) := by
  have key : RP (fComp fi (gNm i) fYes (fLst fNil) own ρ A) (fun v B => v = .obj A.length ∧ B = A ++ .lst (refs (A.length + 1) n) :: lstsO (List.replicate n [])) (fun _ _ => False) := by
    refine rp_comp (List.range n) en hi (by rw [List.length_range]; exact hn) (fun j acc B => acc = refs (A.length + 1) j ∧ B = A ++ .lst acc :: lstsO (List.replicate j [])) ⟨rfl, rfl⟩ ?_ ?_
    · rintro j y acc B hy hB ⟨rfl, rfl⟩
      simp? only [lstsO_len, List.length_replicate, addO]
      have e0 : A.length + (j + 1) = A.length + 1 + j := by omega
      have e1 : lstsO (List.replicate j []) ++ [AO.lst []] = lstsO ([] :: List.replicate j []) := by
        rw [← List.replicate_succ, List.replicate_succ']
        unfold lstsO
        rw [List.map_append]
        rfl
      rw [e0, ← refs_succ, e1]
      exact ⟨trivial, rfl, rfl⟩
    · rintro acc B hB ⟨rfl, rfl⟩
      rw [List.length_range]
      exact ⟨rfl, rfl⟩
  cases e : fComp fi (gNm i) fYes (fLst fNil) own ρ A with
  | ok v B =>
    rw [e] at key
    obtain ⟨rfl, rfl⟩ := key
    rfl
  | exc _ _ => rw [e] at key; exact key.elim
  | er => rw [e] at key; exact key.elim

theorem putO_0 {v : AV} : putO 0 v [] = [some v] := (rfl)
theorem putO_2 {v u : AV} : putO 2 v [some u] = [some u, none, some v] := (rfl)
theorem putO_1 {v u w : AV} : putO 1 v [some u, none, some w] = [some u, some v, some w] := (rfl)
theorem nbrs_small {n : Nat} {E : List (Nat × Nat)} (h : TiesOk n E) : ∀ l ∈ (List.range n).map (nbrs E), l.length < 1000 := fun l hl => by
  obtain ⟨p, _, rfl⟩ := List.mem_map.mp hl
  have := nbrs_len (E := E) (p := p)
  have := h.few
  omega
theorem fold_small {n : Nat} {E : List (Nat × Nat)} (h : TiesOk n E) {k : Nat} : ∀ l ∈ (E.take k).foldl addTie (List.replicate n []), l.length < 1000 := by
  have hk : TiesOk n (E.take k) := ⟨by rw [List.length_take]; have := h.few; omega, fun t ht => h.lt t (List.mem_of_mem_take ht), h.asc.sublist (List.take_sublist _ _)⟩
  rw [fold_ties hk]
  exact nbrs_small hk
theorem web_init {n : Nat} {E : List (Nat × Nat)} (h : TiesOk n E) (h1 : 1 ≤ n) (h24 : n ≤ 24) {x : AV} {A : AH} (hx : SeqIs A x (E.map en)) (hA : Clo A) : G_Web___init__ [.obj A.length, .int (n : Nat), x] (A ++ [.slt 0 []]) = .ok .non (A ++ [webO (mkW n E)]) := by
  have hf := h.few
  have i1 : (1 : Int) ≤ (n : Nat) := by omega
  have i2 : ((n : Nat) : Int) ≤ 24 := by omega
  have hb : n < 1000000 := by omega
  have hx' := fun B => hx.app B
  unfold G_Web___init__ F_Web___init__
  refine rd_eq ?_
  simp? only [is_among_int, i1, i2, need_ties_ok h (hx' _), ts_many, ti_many, ts_ties, ti_ties, putO_0, putO_2, (hx' _).tuple]
  rw [comp_empties (n := n) (by simp? only [kRange1_nat hb]) hb]
  simp? only []
  refine wp_nxt ?_
  refine wp_list E en (A1 := A ++ AO.slt 0 [some (AV.int ↑n), none, some (AV.tup (E.map en))] :: .lst (refs (A.length + 1 + 1) n) :: lstsO (List.replicate n [])) (x := x) (by simp? only []) (hx' _) (by omega)
    (fun i ρ B => ∃ o1 o2 : Option AV, ρ = [some (.obj A.length), some (.int (n : Nat)), some x, some (.obj (A.length + 1)), o1, o2, none, none] ∧
      B = A ++ AO.slt 0 [some (AV.int ↑n), none, some (AV.tup (E.map en))] :: .lst (refs (A.length + 1 + 1) n) :: lstsO ((E.take i).foldl addTie (List.replicate n []))) ⟨none, none, rfl, rfl⟩ (by rintro i ρ B ⟨_, _, _, rfl⟩; exact hx' _) ?_ ?_
  · rintro i t ρ B ht ⟨o1, o2, rfl, rfl⟩
    have hlt := h.lt t (List.mem_of_getElem? ht)
    have e := tie_body (c := 3) (a := 4) (b := 5) (k := A.length + 1) (n := n) (ρ := [some (.obj A.length), some (.int (n : Nat)), some x, some (.obj (A.length + 1)), some (.int (t.1 : Nat)), some (.int (t.2 : Nat)), none, none]) (t := t) (B := A ++ [AO.slt 0 [some (AV.int ↑n), none, some (AV.tup (E.map en))]]) (ls := (E.take i).foldl addTie (List.replicate n []))
      rfl (by simp) rfl rfl (fold_len _ _ (by simp)) (by omega) hlt.2 (fold_small h) (by omega)
    have e2 : (E.take (i + 1)).foldl addTie (List.replicate n []) = addTie ((E.take i).foldl addTie (List.replicate n [])) t := by
      rw [List.take_add_one, ht, List.foldl_append]
      rfl
    rw [List.append_assoc, List.length_append] at e
    simp only [x_gTp, x_gsCons, x_nm, x_gsNil, nxt_nx, at_nx, plain_nx, List.length_cons, List.length_nil, List.set_cons_zero, List.set_cons_succ, Nat.reduceAdd, Nat.zero_add, ↓reduceIte, if_true, en_pair, en_nat]
    rw [e2]
    simp only [List.length_cons, List.length_nil, Nat.zero_add, Nat.add_assoc, Nat.reduceAdd, List.cons_append, List.nil_append] at e ⊢
    rw [e]
    exact ⟨_, _, rfl, by simp only [List.append_assoc, List.cons_append, List.nil_append]⟩
  · rintro ρ B ⟨o1, o2, rfl, rfl⟩
    rw [List.take_length, fold_ties h]
    simp? only []
    -- the sorted lists, as tuples
    have key : ∃ G : AH, fComp (fList (fVar 3)) (gNm 7) fYes (fCb gTuple (fCons (fCb gSorted (fCons (fVar 7) fNil)) fNil)) [7] [some (.obj A.length), some (.int (n : Nat)), some x, some (.obj (A.length + 1)), o1, o2, none, none]
        (A ++ AO.slt 0 [some (AV.int ↑n), none, some (AV.tup (E.map en))] :: .lst (refs (A.length + 2) n) :: lstsO ((List.range n).map (nbrs E))) =
        .ok (.obj (A.length + (n + 2))) (A ++ AO.slt 0 [some (AV.int ↑n), none, some (AV.tup (E.map en))] :: .lst (refs (A.length + 2) n) :: (lstsO ((List.range n).map (nbrs E)) ++ .lst ((nearOf n E).map en) :: G)) := by
      generalize hr : fComp (fList (fVar 3)) (gNm 7) fYes (fCb gTuple (fCons (fCb gSorted (fCons (fVar 7) fNil)) fNil)) [7] [some (.obj A.length), some (.int (n : Nat)), some x, some (.obj (A.length + 1)), o1, o2, none, none]
        (A ++ AO.slt 0 [some (AV.int ↑n), none, some (AV.tup (E.map en))] :: .lst (refs (A.length + 2) n) :: lstsO ((List.range n).map (nbrs E))) = r
      have key : RP r (fun v B => ∃ G, v = .obj (A.length + (n + 2)) ∧ B = A ++ AO.slt 0 [some (AV.int ↑n), none, some (AV.tup (E.map en))] :: .lst (refs (A.length + 2) n) :: (lstsO ((List.range n).map (nbrs E)) ++ .lst ((nearOf n E).map en) :: G)) (fun _ _ => False) := by
        rw [← hr]
        refine rp_compL (List.range n) (fun i => AV.obj (A.length + 2 + i)) (n := A.length + 1) (f := fun _ y => y) (A1 := A ++ AO.slt 0 [some (AV.int ↑n), none, some (AV.tup (E.map en))] :: .lst (refs (A.length + 2) n) :: lstsO ((List.range n).map (nbrs E))) (by simp? only []) (by rw [List.length_range]; exact hb)
          (fun j acc B => ∃ G, acc = ((List.range j).map fun p => srtN (nbrs E p)).map en ∧ B = A ++ AO.slt 0 [some (AV.int ↑n), none, some (AV.tup (E.map en))] :: .lst (refs (A.length + 2) n) :: (lstsO ((List.range n).map (nbrs E)) ++ .lst acc :: G)) ⟨[], rfl, by simp⟩ ?_ ?_ ?_
        · rintro j acc B hj hB ⟨G, rfl, rfl⟩
          have : ∀ M : AH, (A ++ AO.slt 0 [some (AV.int ↑n), none, some (AV.tup (E.map en))] :: .lst (refs (A.length + 2) n) :: M)[A.length + 1]? = some (.lst (refs (A.length + 2) n)) := fun M => by simp? only []
          exact this _
        · rintro j y acc B hy hB ⟨G, rfl, rfl⟩
          have hj := (List.getElem?_eq_some_iff.mp hy).1
          rw [List.length_range] at hj
          have hy' : y = j := by
            rw [List.getElem?_range hj] at hy
            injection hy with hy
            exact hy.symm
          subst hy'
          have hy2 : y < ((List.range n).map (nbrs E)).length := by simpa using hj
          have e1 : gt ((List.range n).map (nbrs E)) y = nbrs E y := gt_range hj
          have e3 : ((List.range (y + 1)).map fun p => srtN (nbrs E p)).map en = ((List.range y).map fun p => srtN (nbrs E p)).map en ++ [AV.tup ((srtN (nbrs E y)).map en)] := by
            rw [List.range_succ, List.map_append, List.map_append]
            rfl
          have e4 : ∀ l : AH, (lstsO ((List.range n).map (nbrs E)) ++ l)[y]? = some (.lst ((nbrs E y).map en)) := fun l => by
            rw [List.getElem?_append_left (by rw [lstsO_len]; exact hy2), lstsO_at hy2, e1]
          simp? only [e4, addO, e3]
          exact ⟨trivial, _, trivial, rfl⟩
        · rintro acc B hB ⟨G, rfl, rfl⟩
          rw [List.length_range]
          refine ⟨G, ?_, rfl⟩
          simp only [List.getElem?_cons_zero, List.getElem?_cons_succ, List.set_cons_zero, List.set_cons_succ, List.map_cons, List.map_nil, List.length_cons, List.length_nil, List.length_append, List.length_map, List.length_set, List.replicate, List.cons_append, List.nil_append, List.append_assoc, List.append_nil, Nat.add_assoc, Nat.reduceAdd, Nat.zero_add, Nat.add_zero, Nat.reduceSub, Nat.reduceLT, Nat.reduceEqDiff, Nat.lt_irrefl, ↓reduceIte, if_true, if_false, Bool.not_true, Bool.not_false, Bool.false_eq_true, reduceCtorEq, big_def, Int.natCast_zero, Int.natCast_one, Int.cast_ofNat_Int, Int.reduceEq, decide_true, decide_false, Bool.true_and, Bool.false_and, Bool.and_self, Bool.and_false, lstsO_len, List.length_range]
      cases r with
      | ok v B =>
        obtain ⟨G, rfl, rfl⟩ := key
        exact ⟨G, rfl⟩
      | exc _ _ => exact key.elim
      | er => exact key.elim
    obtain ⟨G, e⟩ := key
    rw [e]
    simp? only []
    have e5 : ∀ l : AH, (lstsO ((List.range n).map (nbrs E)) ++ l)[n]? = l[0]? := fun l => by
      have := h_at0 (A := lstsO ((List.range n).map (nbrs E))) (B := l)
      rw [lstsO_len, List.length_map, List.length_range] at this
      exact this
    simp? only [e5, ts_near, ti_near, putO_1]
    have hc : Clo (A ++ [webO (mkW n E)]) := by
      rw [clo_app hA]
      simp only [webO, mkW, x_seq, x_nx, x_bk, x_ct, x_drop, x_ret, x_retN, x_if, x_set, x_asg, x_nm, x_gsNil, x_gsCons, x_gTp, x_var, x_c, x_2, x_1, x_B, asB_ok, x_and, x_or, x_not, x_andV, x_orV, x_notV, x_ifE, x_chain, x_nil, x_cons, x_tup, x_lst, x_call, x_cb, x_aug, x_dk, x_dt, x_yes, x_meth, x_meth0, a_drop, a_ret, a_set, a_asg, a_g, a_2, a_const, a_not, a_asB, a_notV, a_ch4t, a_ch4f, a_ch2, a_ch1, a_cons2, a_cons, a_tup, a_lst, a_call, a_aug2, a_aug, a_meth2, a_meth, a_meth0, nxt_nx, nxt_rt, nxt_bk, nxt_ct, nxt_exc, plain_nx, at_nx, pick_t, pick_f, pk_ap, oVar_ok, wp_nx, wp_rt, wp_bk, wp_ct, wp_exc, q_ah_nx, q_ah_rt, q_ah_bk, q_ah_ct, q_ah_exc, q_df_nx, q_df_rt, q_df_exc, q_dfE_nx, q_dfE_rt, q_dfE_exc, q_t_nx, q_t_ct, q_t_bk, q_t_rt, q_t_exc, rp_ok, rp_exc, kSt_ap, kX_ap, kR_ap, kWh_t, kWh_f, Res.bind_ok, Res.bind_exc, Res.s_ok, Res.s_exc, elem_nm, elem_tp2, List.getElem?_cons_zero, List.getElem?_cons_succ, List.set_cons_zero, List.set_cons_succ, List.map_cons, List.map_nil, List.length_cons, List.length_nil, List.length_append, List.length_map, List.length_set, List.replicate, List.cons_append, List.nil_append, List.append_assoc, List.append_nil, Nat.add_assoc, Nat.reduceAdd, Nat.zero_add, Nat.add_zero, Nat.reduceSub, Nat.reduceLT, Nat.reduceEqDiff, Nat.lt_irrefl, ↓reduceIte, if_true, if_false, Bool.not_true, Bool.not_false, Bool.false_eq_true, reduceCtorEq, big_def, Int.natCast_zero, Int.natCast_one, Int.cast_ofNat_Int, Int.reduceEq, decide_true, decide_false, Bool.true_and, Bool.false_and, Bool.and_self, Bool.and_false, cons_atA, cons_setA, cons_atB, cons_setB, cons_at, cons_set, cons_at2, cons_set2, cons_at3, cons_set3, h_at, h_at0, h_set, h_set0, clo_nil, clo_cons, Bool.and_true, Bool.true_and, gSub_int, gAdd_ii, gLt_int, gLe_int, gGt_int, gGe_int, gLtA_int, gLeA_int, gGtA_int, gGeA_int, gI0_int, gNeg_int, gInt_int, gIntT_int, gEq_int, gNe_int, gIsA_non, gNotA_non, isN_non, isN_int, isN_tup, isN_obj, isN_bl, isN_str, resI_some, gIx_tup, lit0, lit1, lit2, gTuple_tup, gLen_tup, gList_tup, isi_int_int, isi_bl_int, isi_non_int, isi_str_int, isi_tup_int, isi_scr_int, isiO_list_int, isiO_dict_int, isi_int_bool, isi_bl_bool, isi_non_bool, isi_str_bool, isi_tup_bool, isi_scr_bool, isiO_list_bool, isiO_dict_bool, isi_int_str, isi_bl_str, isi_non_str, isi_str_str, isi_tup_str, isi_scr_str, isiO_list_str, isiO_dict_str, isi_int_tuple, isi_bl_tuple, isi_non_tuple, isi_str_tuple, isi_tup_tuple, isi_scr_tuple, isiO_list_tuple, isiO_dict_tuple, isi_int_list, isi_bl_list, isi_non_list, isi_str_list, isi_tup_list, isi_scr_list, isiO_list_list, isiO_dict_list, isi2_int, isi2_bl, isi2_non, isi2_str, isi2_tup, isi2_scr, isi2O_list, isi2O_dict, x_isi, x_isi2, kIsi_obj, kIsi2_obj, tyO_lst, tyO_dK, tyO_dT, x_fld, kFld_obj, fldO_ins, fldO_slt, tblAt_cons, tblAt_nil, x_setF, a_setF, a_setF2, setFO_ins, setFO_slt, stO_some, gIx_objI, ixO_lst, ixO_dK, gIx_objT, ixTO_dT, ixTO_lk, gIn_obj, gNotIn_obj, inIO_dN, notInIO_dN, inIO_nats, notInIO_nats, x_sub, a_sub, a_sub2, a_sub3, isL_obj, isDk_obj, isLO_lst, isDkO_dK, isDkO_dT, gAppend_obj, appO_lst, lstO_lst, lstAt_obj, gExtend_obj, extO_lst, gUpd_obj, updO_dK, gPop_obj, popO_app, gPopAt_obj, x_list, kList_obj, kListO_lst, kList_tup, kList_scr, x_enum, kEnum_obj, kEnumO_lst, kEnum_tup, x_range1, x_range2, x_lrg, gTuple_obj, gTupO_some, gLen_obj, gLenO_lst, gLenO_dK, gLenO_dT, gList_obj, gListO_lst, gListO_dK, gListO_dT, gSorted_obj, sortO_nats, gSum_obj, sumO_nats, sumO_ints, gAny_obj, gAll_obj, anyO_bools, allO_bools, x_make, a_make, a_make2, x_mth, kMth_obj, mthO_ins, a_mth2, x_mthS, kMthS_obj, mthSO_slt, x_prop, kProp_obj, propO_ins, kPropR_ok, gIn_tup, gNotIn_tup, x_fpNil, x_fpCons, a_fp, a_fp2, a_fp3, x_disp, a_disp, dispO_ok, keysA_nil, keysA_int, keysA_str, kOpt_some, merge_one, x_slice, a_sl, a_sl2, x_onone, x_osome, a_os, sl_tup, sl_obj, slO_some, nat_add1, nat_add, nat_mod2, sortO_pairs', gGeA_pair, gLtA_pair, wipe_nil, wipe_cons, Nat.reduceLeDiff, cloA_app, clo_nil, clo_cons, Bool.and_true, Bool.and_self, cv_int, cv_bl, cv_str, cv_non, cv_tup, cv_obj, cvs_nil, cvs_cons, cf_nil, cf_cons, cf_none, co_lst, co_dK, co_dT, co_ins, co_slt, ckk_nil, ckk_cons, ck_dN, clo_en, clo_ens]
    have := gcG_v (A := A ++ [AO.slt 0 []]) (A1 := A ++ [webO (mkW n E)]) (v := .non) (B := .lst (refs (A.length + 2) n) :: (lstsO ((List.range n).map (nbrs E)) ++ .lst ((nearOf n E).map en) :: G)) (by simp) hc rfl
    rw [List.append_assoc] at this
    exact this

/-! ### standings and counts -/
structure StOk (n : Nat) (st : List Nat) : Prop where
  len : st.length = n
  le : ∀ c ∈ st, c ≤ 1
theorem need_standing_ok {W : Wb} {A : AH} {w : Nat} (hw : WebAt A w W) (h24 : W.n ≤ 24) {x : AV} {st : List Nat} (hx : SeqIs A x (st.map en)) (hs : StOk W.n st) : G_need_standing [.obj w, x] A = .ok .non A := by
  have hl := hs.len
  have h0 : ((st.length : Nat) : Int) = ((W.n : Nat) : Int) := by rw [hl]
  unfold G_need_standing F_need_standing
  refine rd_eq ?_
  simp? only [is_list_seq hx, hx.len, hw.get, ts_many, h0]
  refine wp_enum st en (A1 := A) (x := x) (by simp? only []) hx (by omega) (fun i ρ B => ∃ o1 o2 : Option AV, ρ = [some (.obj w), some x, o1, o2] ∧ B = A) ⟨_, _, rfl, rfl⟩ (by rintro i ρ B ⟨_, _, _, rfl⟩; exact hx) ?_ ?_
  · rintro i c ρ B hc ⟨o1, o2, rfl, rfl⟩
    have hle := hs.le c (List.mem_of_getElem? hc)
    have i1 : (0 : Int) ≤ (c : Nat) := by omega
    have i2 : ((c : Nat) : Int) ≤ 1 := by omega
    simp? only [pairI, en_nat, is_among_int, i1, i2]
    exact ⟨_, _, rfl, trivial⟩
  · rintro ρ B ⟨o1, o2, rfl, rfl⟩
    simp? only []
    exact gc_same rfl

/-! ### draws -/
theorem mixed_at (c n : Int) (hn : n.natAbs < 4611686018427387904) (A : AH) : ∃ v : Int, 0 ≤ v ∧ v < 2147483629 ∧ G__law_mixed [.int c, .int n] A = .ok (.int v) A := mixed_ok c n hn A
theorem begun_at (ns : List Int) (hl : ns.length ≤ 63) : ∃ (cs gs : List Int), gs.length = ns.length ∧ G__law_begun [.scr ns] [] = .ok (.obj 0) [.dK (mD 1 3 0), .lst (cs.map AV.int), .lst [], .lst (gs.map AV.int)] ∧ Dr [.dK (mD 1 3 0), .lst (cs.map AV.int), .lst [], .lst (gs.map AV.int)] 0 1 3 0 cs gs := begun_ok ns hl (folded_ok ns)
theorem draw_at {A : AH} {i c g : Nat} {s : Int} {cs gs : List Int} (D : Dr A i c g s cs gs) {k : Int} (k0 : 0 < k) (k1 : k < 1073741824) (s0 : 0 ≤ s) (s1 : s < 1000000000000000000) :
    ∃ (v : Int) (gs' : List Int), 0 ≤ v ∧ v < k ∧ gs'.length = gs.length ∧ G__law_draw [.obj i, .int k] A = .ok (.int v) (aft A i c g s gs') := draw_ok (fun x n h B => mixed_at x n h B) D k0 k1 s0 s1
/-- the material of the draws, at most k of them done -/
def Mat (k : Nat) (D : AH) : Prop := ∃ (s : Int) (cs gs : List Int), D = [.dK (mD 1 3 s), .lst (cs.map AV.int), .lst [], .lst (gs.map AV.int)] ∧ 0 ≤ s ∧ s ≤ k ∧ cs.length = 64 ∧ gs.length < 64
theorem Mat.len {k : Nat} {D : AH} (h : Mat k D) : D.length = 4 := by
  obtain ⟨s, cs, gs, rfl, _⟩ := h
  rfl
theorem Mat.mono {k j : Nat} {D : AH} (h : Mat k D) (i : k ≤ j) : Mat j D := by
  obtain ⟨s, cs, gs, e, h0, h1, h2, h3⟩ := h
  exact ⟨s, cs, gs, e, h0, by omega, h2, h3⟩
theorem Mat.clo4 {k : Nat} {D : AH} (h : Mat k D) {m : Nat} (hm : 4 ≤ m) : cloA m D = true := by
  obtain ⟨s, cs, gs, rfl, _⟩ := h
  refine cloA_more hm ?_
  show (cloO 4 (.dK (mD 1 3 s)) && (cloVs 4 (cs.map AV.int) && (cloO 4 (.lst []) && (cloVs 4 (gs.map AV.int) && true)))) = true
  rw [clo_ints, clo_ints]
  rfl
/-- closed behind the material -/
theorem Mat.clo {k : Nat} {D B : AH} (h : Mat k D) : Clo (D ++ B) ↔ cloA (4 + B.length) B = true := by
  have c : Clo D := by unfold Clo; rw [h.len]; exact h.clo4 (Nat.le_refl 4)
  rw [clo_app c, h.len]
theorem begun {ns : List Int} (hl : ns.length ≤ 63) : ∃ D, Mat 0 D ∧ G__law_begun [.scr ns] [] = .ok (.obj 0) D := by
  obtain ⟨cs, gs, lg, e, d⟩ := begun_at ns hl
  exact ⟨_, ⟨0, cs, gs, rfl, by decide, by decide, d.lc, d.lg⟩, e⟩
theorem draw {k : Nat} {D B : AH} (h : Mat k D) (hk : k < 1000000) (hc : Clo (D ++ B)) {m : Nat} (h0 : 0 < m) (h1 : m < 1000000) : ∃ (v : Nat) (D' : AH), v < m ∧ Mat (k + 1) D' ∧ G__law_draw [.obj 0, .int (m : Nat)] (D ++ B) = .ok (.int (v : Nat)) (D' ++ B) := by
  obtain ⟨s, cs, gs, rfl, s0, s1, lc, lg⟩ := h
  have d : Dr ([.dK (mD 1 3 s), .lst (cs.map AV.int), .lst [], .lst (gs.map AV.int)] ++ B) 0 1 3 s cs gs := ⟨rfl, rfl, rfl, lc, lg, by decide, by decide, by decide, hc⟩
  obtain ⟨v, gs', v0, v1, lg', e⟩ := draw_at d (k := (m : Nat)) (by omega) (by omega) s0 (by omega)
  refine ⟨v.toNat, [.dK (mD 1 3 (s + 1)), .lst (cs.map AV.int), .lst [], .lst (gs'.map AV.int)], by omega, ⟨s + 1, cs, gs', rfl, by omega, by omega, lc, by omega⟩, ?_⟩
  rw [e, Int.toNat_of_nonneg v0]
  rfl
theorem gcD_v {k j : Nat} {D D' B M : AH} {v : AV} (h : Mat k D) (h' : Mat j D') (hB : Clo (D ++ B)) (hv : dat v) : gcR (D ++ B) v (D' ++ (B ++ M)) = .ok v (D' ++ B) := by
  have := gcG_v (A := D ++ B) (A1 := D' ++ B) (B := M) (v := v) (by rw [List.length_append, List.length_append, h.len, h'.len]) (h'.clo.mpr (h.clo.mp hB)) (clo_dat hv)
  rw [List.append_assoc] at this
  exact this
theorem gcD_o {k j i : Nat} {D D' B M : AH} {o : AO} (h : Mat k D) (h' : Mat j D') (hB : Clo (D ++ B)) (ho : M[i]? = some o) (hc : ∀ m, cloO m o = true) : gcR (D ++ B) (.obj (4 + (B.length + i))) (D' ++ (B ++ M)) = .ok (.obj (4 + B.length)) (D' ++ (B ++ [o])) := by
  have := gcG_o (A := D ++ B) (A1 := D' ++ B) (B := M) (k := i) (by rw [List.length_append, List.length_append, h.len, h'.len]) (h'.clo.mpr (h.clo.mp hB)) ho (hc _)
  rw [List.append_assoc, List.append_assoc, List.length_append, h.len, Nat.add_assoc] at this
  exact this
/-! ### a drawn order -/
theorem law_order_ok {k : Nat} {D B : AH} (h : Mat k D) {n : Nat} (hk : k + n < 1000000) (hc : Clo (D ++ B)) : ∃ (D' : AH) (l : List Nat), Mat (k + n) D' ∧ l.Perm (List.range n) ∧ G__law_order [.obj 0, .int (n : Nat)] (D ++ B) = .ok (.obj (4 + B.length)) (D' ++ (B ++ [.lst (l.map en)])) := by
  have hb : n < 1000000 := by omega
  have hD := h.len
  unfold G__law_order F__law_order
  refine rd_any (Φ := fun r => ∃ (D' : AH) (l : List Nat), Mat (k + n) D' ∧ l.Perm (List.range n) ∧ r = .ok (.obj (4 + B.length)) (D' ++ (B ++ [.lst (l.map en)]))) ?_
  simp? only [kLRg_nat hb, hD]
  refine wp_nxt ?_
  refine wp_while n (by omega) (fun i ρ C => ∃ (D' : AH) (rest found : List Nat) (G : AH), ρ = [some (.obj 0), some (.int (n : Nat)), some (.obj (4 + B.length)), some (.obj (4 + (B.length + 1)))] ∧ C = D' ++ (B ++ .lst (rest.map en) :: .lst (found.map en) :: G) ∧
    Mat (k + i) D' ∧ cloA 0 G = true ∧ rest.length + i = n ∧ (found ++ rest).Perm (List.range n)) ⟨D, List.range n, [], [], rfl, by simp, h, rfl, by simp, by simp⟩ ?_
  rintro i ρ C hi ⟨D', rest, found, G, rfl, rfl, hM, hG, hl, hp⟩
  have hD' := hM.len
  simp? only [hD']
  rw [gNe_lst0 (l := rest) (by simp? only [d_at hD']) (by simp? only [d_at hD'])]
  cases er : rest.isEmpty with
  | true =>
    have : rest = [] := List.isEmpty_iff.mp er
    subst this
    simp? only []
    have hl : n = i := by simpa using hl.symm
    subst hl
    refine ⟨D', found, hM, by simpa using hp, ?_⟩
    exact gcD_o (i := 1) h hM hc rfl (fun m => by simp? [])
  | false =>
    have hr : rest ≠ [] := fun z => by rw [z] at er; cases er
    have hr0 : 0 < rest.length := List.length_pos_iff.mpr hr
    have hc2 : Clo (D' ++ (B ++ .lst (rest.map en) :: .lst (found.map en) :: (G ++ [.lst []]))) := by
      rw [hM.clo]
      have := h.clo.mp hc
      simp? [cloz hG, Bool.true_and, List.length_append]
      exact cloA_more (by omega) this
    obtain ⟨v, D2, hv, hM2, eD⟩ := draw hM (by omega) hc2 hr0 (by omega)
    have hD2 := hM2.len
    have hfl : found.length < 1000000 := by
      have := hp.length_eq
      rw [List.length_append, List.length_range] at this
      omega
    have hgv : (rest.map (en (α := Nat)))[v]? = some (.int ((gt rest v : Nat) : Int)) := by
      rw [List.getElem?_map, of_gt hv]
      rfl
    have eer : (rest.map (en (α := Nat))).eraseIdx v = (rest.eraseIdx v).map en := by rw [List.eraseIdx_eq_take_drop_succ, List.eraseIdx_eq_take_drop_succ, List.map_append, List.map_take, List.map_drop]
    have hpo : ∀ A : AH, popAtO (some (.lst (rest.map en))) (4 + B.length) ((v : Nat) : Int) A = .ok (.int ((gt rest v : Nat) : Int)) (A.set (4 + B.length) (.lst ((rest.eraseIdx v).map en))) := fun A => by
      rw [popAtO_ok hgv (by omega), eer]
    simp? only [d_at hD', d_at hD2, d_set hD2, eD, hpo, hfl, app_nat]
    refine ⟨by omega, D2, rest.eraseIdx v, found ++ [gt rest v], G ++ [.lst []], trivial, rfl, hM2, ?_, ?_, ?_⟩
    · simp? [hG]
    · rw [List.length_eraseIdx, if_pos hv]
      omega
    · have e1 : rest = rest.take v ++ gt rest v :: rest.drop (v + 1) := by
        have := of_gt hv
        obtain ⟨hlt, e⟩ := List.getElem?_eq_some_iff.mp this
        rw [← e, List.getElem_cons_drop, List.take_append_drop]
      have e2 : (gt rest v :: rest.eraseIdx v).Perm rest := by
        rw [List.eraseIdx_eq_take_drop_succ]
        conv => rhs; rw [e1]
        exact List.perm_middle.symm
      rw [List.append_assoc]
      exact (List.Perm.append_left found e2).trans hp
/-! ### drawn ties -/
def dP (L : List (Nat × Nat)) : List (List Key × AV) := L.map fun t => ([.inl ((t.1 : Nat) : Int), .inl ((t.2 : Nat) : Int)], .bl true)
def addP (L : List (Nat × Nat)) (t : Nat × Nat) : List (Nat × Nat) := if t ∈ L then L else L ++ [t]
theorem keyP {a b c d : Nat} : (([.inl ((a : Nat) : Int), .inl ((b : Nat) : Int)] : List Key) = [.inl ((c : Nat) : Int), .inl ((d : Nat) : Int)]) = ((a, b) = (c, d)) := by
  apply propext
  simp only [List.cons.injEq, and_true, inl_eq, Prod.mk.injEq]
theorem putA_dP {L : List (Nat × Nat)} {t : Nat × Nat} : putA (dP L) [.inl ((t.1 : Nat) : Int), .inl ((t.2 : Nat) : Int)] (.bl true) = dP (addP L t) := by
  have e : ((dP L).any fun kv => decide (kv.1 = ([.inl ((t.1 : Nat) : Int), .inl ((t.2 : Nat) : Int)] : List Key))) = decide (t ∈ L) := by
    unfold dP
    rw [List.any_map]
    induction L with
    | nil => simp
    | cons u L ih =>
      rw [List.any_cons, ih]
      simp only [Function.comp, keyP]
      by_cases z : t = u
      · subst z; simp
      · have : ¬ u = t := fun e => z e.symm
        simp [z, this]
  unfold putA addP
  rw [e]
  by_cases z : t ∈ L
  · rw [if_pos (decide_eq_true z), if_pos z]
    have : ∀ kv ∈ dP L, (if kv.1 = ([.inl ((t.1 : Nat) : Int), .inl ((t.2 : Nat) : Int)] : List Key) then (kv.1, AV.bl true) else kv) = kv := fun kv hkv => by
      obtain ⟨u, _, rfl⟩ := List.mem_map.mp hkv
      split <;> rfl
    rw [List.map_congr_left this, List.map_id']
  · rw [if_neg (by rw [decide_eq_false z]; simp), if_neg z]
    unfold dP
    rw [List.map_append]
    rfl
theorem put_dP {L : List (Nat × Nat)} {a b n : Nat} {A : AH} (hl : L.length < 1000000) : dPutO (some (.dT (dP L))) n (.tup [.int ((a : Nat) : Int), .int ((b : Nat) : Int)]) (.bl true) A = some (A.set n (.dT (dP (addP L (a, b))))) := by
  have := putA_dP (L := L) (t := (a, b))
  unfold dPutO
  simp only
  rw [if_pos (by unfold dP; rw [List.length_map]; exact hl)]
  simp only [mapO, keyOf, Option.map_some, this]
theorem clo_dP {L : List (Nat × Nat)} {k : Nat} : cloK k (dP L) = true := cloK_map (f := fun t : Nat × Nat => (([.inl ((t.1 : Nat) : Int), .inl ((t.2 : Nat) : Int)] : List Key), AV.bl true)) (fun _ => rfl) L
theorem keys_dP {L : List (Nat × Nat)} : (dP L).map (fun kv => AV.tup (kv.1.map kA)) = L.map en := by
  unfold dP
  rw [List.map_map]
  rfl
/-- pairs of places so far -/
structure PsOk (n : Nat) (L : List (Nat × Nat)) : Prop where
  nd : L.Nodup
  lt : ∀ t ∈ L, t.1 < t.2 ∧ t.2 < n
theorem PsOk.add {n : Nat} {L : List (Nat × Nat)} (h : PsOk n L) {t : Nat × Nat} (ht : t.1 < t.2 ∧ t.2 < n) : PsOk n (addP L t) := by
  unfold addP
  split
  · exact h
  · rename_i z
    refine ⟨?_, fun u hu => ?_⟩
    · rw [List.nodup_append]
      refine ⟨h.nd, by simp, fun a ha b hb e => ?_⟩
      rw [List.mem_singleton] at hb
      subst hb e
      exact z ha
    · rcases List.mem_append.mp hu with hu | hu
      · exact h.lt u hu
      · rw [List.mem_singleton] at hu
        subst hu
        exact ht
theorem PsOk.len {n : Nat} {L : List (Nat × Nat)} (h : PsOk n L) (h24 : n ≤ 24) : L.length ≤ 576 := by
  have := h.nd.length_le_of_subset (l₂ := (List.range 24).flatMap fun a => (List.range 24).map fun b => (a, b)) fun t ht => by
    have := h.lt t ht
    rw [List.mem_flatMap]
    exact ⟨t.1, List.mem_range.mpr (by omega), List.mem_map.mpr ⟨t.2, List.mem_range.mpr (by omega), rfl⟩⟩
  have e : ((List.range 24).flatMap fun a => (List.range 24).map fun b => (a, b)).length = 576 := by decide +kernel
  omega

theorem wp_cut {r : SRes} {g : FS} {Q : Ps} (J : Rho → AH → Prop) (h : WP r { nx := J }) (k : ∀ ρ A, J ρ A → WP (g ρ A) Q) : WP (r.nxt g) Q := by
  cases r with
  | nx ρ A => exact k ρ A h
  | rt _ _ => exact (show False from h).elim
  | bk _ _ => exact (show False from h).elim
  | ct _ _ => exact (show False from h).elim
  | exc _ _ _ => exact (show False from h).elim
  | er => exact (show False from h).elim
theorem range2_1 {n : Nat} (h : n < 1000000) {A : AH} : kRange2 [.int 1, .int ((n : Nat) : Int)] A = .ok (.fix (((List.range (n - 1)).map fun i => 1 + i).map en)) A := kRange2_nat (a := 1) h (by decide)
theorem in_12 {w : Nat} {A : AH} : gIn (.int ((w : Nat) : Int)) (.tup [.int 1, .int 2]) A = .ok (.bl (decide (w = 1 ∨ w = 2))) A := by
  have := gIn_tup (A := A) (x := w) (l := [1, 2])
  simp only [List.mem_cons, List.not_mem_nil, or_false] at this
  exact this
theorem gEq_natlit {w m : Nat} {A : AH} : gEq (.int ((w : Nat) : Int)) (.int ((m : Nat) : Int)) A = .ok (.bl (decide (w = m))) A := by
  rw [gEq_int]
  congr 3
  simp only [Int.natCast_inj]
theorem eq0 {w : Nat} : decide (((w : Nat) : Int) = 0) = decide (w = 0) := decide_eq_decide.mpr (by omega)
theorem eq1 {w : Nat} : decide (((w : Nat) : Int) = 1) = decide (w = 1) := decide_eq_decide.mpr (by omega)
theorem eq2 {w : Nat} : decide (((w : Nat) : Int) = 2) = decide (w = 2) := decide_eq_decide.mpr (by omega)
theorem eq3 {w : Nat} : decide (((w : Nat) : Int) = 3) = decide (w = 3) := decide_eq_decide.mpr (by omega)
theorem eq4 {w : Nat} : decide (((w : Nat) : Int) = 4) = decide (w = 4) := decide_eq_decide.mpr (by omega)
theorem eq5 {w : Nat} : decide (((w : Nat) : Int) = 5) = decide (w = 5) := decide_eq_decide.mpr (by omega)
theorem wp_leaf {b : Bool} {f g : FS} {ρ : Rho} {A : AH} {Q : Ps} (h1 : WP (f ρ A) Q) (h2 : WP (g ρ A) Q) : WP (pick b f g ρ A) Q := wp_pick (fun _ => h1) fun _ => h2
theorem law_ties_ok {k : Nat} {D B : AH} (h : Mat k D) {n w : Nat} (h1 : 1 ≤ n) (h24 : n ≤ 24) (hk : k + 1000 < 1000000) (hc : Clo (D ++ B)) :
    ∃ (D' : AH) (E : List (Nat × Nat)), Mat (k + 700) D' ∧ TiesOk n E ∧ G__law_ties [.obj 0, .int (n : Nat), .int (w : Nat)] (D ++ B) = .ok (.tup (E.map en)) (D' ++ B) := by
  have hb : n < 1000000 := by omega
  have hD := h.len
  have hcB := h.clo.mp hc
  have cl : ∀ {j : Nat} {D' : AH} {L : List (Nat × Nat)}, Mat j D' → Clo (D' ++ (B ++ [.dT (dP L)])) := fun {j D' L} hM => by
    rw [hM.clo]
    simp? [List.length_append, clo_dP]
    exact cloA_more (by omega) hcB
  unfold G__law_ties F__law_ties
  refine rd_any (Φ := fun r => ∃ (D' : AH) (E : List (Nat × Nat)), Mat (k + 700) D' ∧ TiesOk n E ∧ r = .ok (.tup (E.map en)) (D' ++ B)) ?_
  simp? only [hD]
  refine wp_cut (fun ρ C => ∃ (D' : AH) (L : List (Nat × Nat)) (o4 o5 : Option AV), ρ = [some (.obj 0), some (.int (n : Nat)), some (.int (w : Nat)), some (.obj (4 + B.length)), o4, o5] ∧ C = D' ++ (B ++ [.dT (dP L)]) ∧ PsOk n L ∧ Mat (k + 600) D') ?_ ?_
  · refine wp_for ((List.range (n - 1)).map fun i => 1 + i) en (A1 := D ++ (B ++ [.dT []])) (by simp? only [range2_1 hb])
      (fun i ρ C => ∃ (D' : AH) (L : List (Nat × Nat)) (o4 o5 : Option AV), ρ = [some (.obj 0), some (.int (n : Nat)), some (.int (w : Nat)), some (.obj (4 + B.length)), o4, o5] ∧ C = D' ++ (B ++ [.dT (dP L)]) ∧ PsOk n L ∧ Mat (k + i * 25) D')
      ⟨D, [], none, none, rfl, rfl, ⟨by simp, by simp⟩, h⟩ ?_ ?_
    · rintro i b ρ C hbi ⟨D', L, o4, o5, rfl, rfl, hL, hM⟩
      have hD' := hM.len
      have hi := (List.getElem?_eq_some_iff.mp hbi).1
      rw [List.length_map, List.length_range] at hi
      have hbe : b = 1 + i := by
        rw [List.getElem?_map, List.getElem?_range hi] at hbi
        injection hbi with hbi
        exact hbi.symm
      have hLl := hL.len h24
      have hbn : b < n := by omega
      have b1 : ((b : Nat) : Int) - 1 = ((b - 1 : Nat) : Int) := by omega
      have hL1 : L.length < 1000000 := by omega
      simp? only [en_nat, in_12]
      -- a line
      refine wp_cut (fun ρ C => ∃ (D' : AH) (L : List (Nat × Nat)) (o5 : Option AV), ρ = [some (.obj 0), some (.int (n : Nat)), some (.int (w : Nat)), some (.obj (4 + B.length)), some (.int (b : Nat)), o5] ∧ C = D' ++ (B ++ [.dT (dP L)]) ∧ PsOk n L ∧ Mat (k + i * 25) D') ?_ ?_
      · refine wp_leaf ?_ ?_
        · simp? only [d_at hD', d_set hD', b1, put_dP hL1]
          exact ⟨_, _, _, rfl, rfl, hL.add ⟨by simp only; omega, hbn⟩, hM⟩
        · simp? only []
          exact ⟨_, _, _, rfl, rfl, hL, hM⟩
      rintro ρ C ⟨D', L, o5, rfl, rfl, hL, hM⟩
      have hD' := hM.len
      have hLl := hL.len h24
      have hL1 : L.length < 1000000 := by omega
      simp? only []
      -- a tree
      refine wp_cut (fun ρ C => ∃ (D' : AH) (L : List (Nat × Nat)) (o5 : Option AV), ρ = [some (.obj 0), some (.int (n : Nat)), some (.int (w : Nat)), some (.obj (4 + B.length)), some (.int (b : Nat)), o5] ∧ C = D' ++ (B ++ [.dT (dP L)]) ∧ PsOk n L ∧ Mat (k + i * 25 + 1) D') ?_ ?_
      · refine wp_leaf ?_ ?_
        · obtain ⟨v, D2, hv, hM2, e⟩ := draw hM (by omega) (cl (L := L) hM) (m := b) (by omega) (by omega)
          have hD2 := hM2.len
          simp? only [e, d_at hD2, d_set hD2, put_dP hL1]
          exact ⟨_, _, _, rfl, rfl, hL.add ⟨hv, hbn⟩, hM2⟩
        · simp? only []
          exact ⟨_, _, _, rfl, rfl, hL, hM.mono (by omega)⟩
      rintro ρ C ⟨D', L, o5, rfl, rfl, hL, hM⟩
      have hD' := hM.len
      -- some, or two sides
      refine wp_for (List.range b) en (A1 := D' ++ (B ++ [.dT (dP L)])) (by simp? only [kRange1_nat (show b < 1000000 by omega)])
        (fun j ρ C => ∃ (D' : AH) (L : List (Nat × Nat)) (o5 : Option AV), ρ = [some (.obj 0), some (.int (n : Nat)), some (.int (w : Nat)), some (.obj (4 + B.length)), some (.int (b : Nat)), o5] ∧ C = D' ++ (B ++ [.dT (dP L)]) ∧ PsOk n L ∧ Mat (k + i * 25 + 1 + j) D')
        ⟨_, _, _, rfl, rfl, hL, hM⟩ ?_ ?_
      · rintro j a ρ C ha ⟨D', L, o5, rfl, rfl, hL, hM⟩
        have hD' := hM.len
        have hLl := hL.len h24
        have hL1 : L.length < 1000000 := by omega
        have hj := (List.getElem?_eq_some_iff.mp ha).1
        rw [List.length_range] at hj
        have hab : a < b := by
          rw [List.getElem?_range hj] at ha
          injection ha with ha
          omega
        obtain ⟨v, D2, hv, hM2, e⟩ := draw hM (by omega) (cl (L := L) hM) (m := 3) (by omega) (by omega)
        obtain ⟨v', D3, hv', hM3, e'⟩ := draw hM (by omega) (cl (L := L) hM) (m := 2) (by omega) (by omega)
        have e : G__law_draw [.obj 0, .int 3] (D' ++ (B ++ [.dT (dP L)])) = .ok (.int (v : Nat)) (D2 ++ (B ++ [.dT (dP L)])) := e
        have e' : G__law_draw [.obj 0, .int 2] (D' ++ (B ++ [.dT (dP L)])) = .ok (.int (v' : Nat)) (D3 ++ (B ++ [.dT (dP L)])) := e'
        have hD2 := hM2.len
        have hD3 := hM3.len
        simp? only [en_nat, eq0, eq3]
        cases w0 : decide (w = 0) with
        | true =>
          simp? only [e, eq0]
          cases v0 : decide (v = 0) with
          | true =>
            simp? only [d_at hD2, d_set hD2, put_dP hL1]
            exact ⟨_, _, _, rfl, rfl, hL.add ⟨hab, hbn⟩, hM2.mono (by omega)⟩
          | false =>
            have w3 : decide (w = 3) = false := decide_eq_false (by have := of_decide_eq_true w0; omega)
            simp? only [eq3, w3]
            exact ⟨_, _, _, rfl, rfl, hL, hM2.mono (by omega)⟩
        | false =>
          simp? only [eq3]
          cases w3 : decide (w = 3) with
          | true =>
            simp? only [gMod_int (show (0 : Int) < 2 by decide)]
            cases z : decide ((((b : Nat) : Int) - (a : Nat)) % 2 = 1) with
            | true =>
              simp? only [e', eq0]
              cases v0 : decide (v' = 0) with
              | true =>
                simp? only [d_at hD3, d_set hD3, put_dP hL1]
                exact ⟨_, _, _, rfl, rfl, hL.add ⟨hab, hbn⟩, hM3.mono (by omega)⟩
              | false =>
                simp? only []
                exact ⟨_, _, _, rfl, rfl, hL, hM3.mono (by omega)⟩
            | false =>
              simp? only []
              exact ⟨_, _, _, rfl, rfl, hL, hM.mono (by omega)⟩
          | false =>
            simp? only []
            exact ⟨_, _, _, rfl, rfl, hL, hM.mono (by omega)⟩
      · rintro ρ C ⟨D', L, o5, rfl, rfl, hL, hM⟩
        rw [List.length_range] at hM
        simp? only []
        exact ⟨_, _, _, _, rfl, rfl, hL, hM.mono (by omega)⟩
    · rintro ρ C ⟨D', L, o4, o5, rfl, rfl, hL, hM⟩
      rw [List.length_map, List.length_range] at hM
      exact ⟨_, _, _, _, rfl, rfl, hL, hM.mono (by omega)⟩
  rintro ρ C ⟨D', L, o4, o5, rfl, rfl, hL, hM⟩
  have hD' := hM.len
  have hLl := hL.len h24
  have hL1 : L.length < 1000000 := by omega
  simp? only [eq2]
  -- the ring's last tie
  refine wp_cut (fun ρ C => ∃ (D' : AH) (L : List (Nat × Nat)) (o4 o5 : Option AV), ρ = [some (.obj 0), some (.int (n : Nat)), some (.int (w : Nat)), some (.obj (4 + B.length)), o4, o5] ∧ C = D' ++ (B ++ [.dT (dP L)]) ∧ PsOk n L ∧ Mat (k + 600) D') ?_ ?_
  · cases w2 : decide (w = 2) with
    | true =>
      simp? only []
      cases n2 : decide ((2 : Int) < (n : Nat)) with
      | true =>
        have n2 := of_decide_eq_true n2
        have b1 : ((n : Nat) : Int) - 1 = ((n - 1 : Nat) : Int) := by omega
        have := fun A => put_dP (L := L) (a := 0) (b := n - 1) (n := 4 + B.length) (A := A) hL1
        simp only [Int.natCast_zero] at this
        simp? only [d_at hD', d_set hD', b1, this]
        exact ⟨_, _, _, _, rfl, rfl, hL.add ⟨by simp only; omega, by simp only; omega⟩, hM⟩
      | false =>
        simp? only []
        exact ⟨_, _, _, _, rfl, rfl, hL, hM⟩
    | false =>
      simp? only []
      exact ⟨_, _, _, _, rfl, rfl, hL, hM⟩
  rintro ρ C ⟨D', L, o4, o5, rfl, rfl, hL, hM⟩
  have hD' := hM.len
  simp? only [eq5]
  -- all with one side
  refine wp_cut (fun ρ C => ∃ (D' : AH) (L : List (Nat × Nat)) (o4 o5 : Option AV), ρ = [some (.obj 0), some (.int (n : Nat)), some (.int (w : Nat)), some (.obj (4 + B.length)), o4, o5] ∧ C = D' ++ (B ++ [.dT (dP L)]) ∧ PsOk n L ∧ Mat (k + 700) D') ?_ ?_
  · cases w5 : decide (w = 5) with
    | false =>
      simp? only []
      exact ⟨_, _, _, _, rfl, rfl, hL, hM.mono (by omega)⟩
    | true =>
      simp? only []
      refine wp_for ((List.range (n - 1)).map fun i => 1 + i) en (A1 := D' ++ (B ++ [.dT (dP L)])) (by simp? only [range2_1 hb])
        (fun i ρ C => ∃ (D' : AH) (L : List (Nat × Nat)) (o4 o5 : Option AV), ρ = [some (.obj 0), some (.int (n : Nat)), some (.int (w : Nat)), some (.obj (4 + B.length)), o4, o5] ∧ C = D' ++ (B ++ [.dT (dP L)]) ∧ PsOk n L ∧ Mat (k + 600 + i) D')
        ⟨_, _, _, _, rfl, rfl, hL, hM⟩ ?_ ?_
      · rintro i b ρ C hbi ⟨D', L, o4, o5, rfl, rfl, hL, hM⟩
        have hD' := hM.len
        have hi := (List.getElem?_eq_some_iff.mp hbi).1
        rw [List.length_map, List.length_range] at hi
        have hbe : b = 1 + i := by
          rw [List.getElem?_map, List.getElem?_range hi] at hbi
          injection hbi with hbi
          exact hbi.symm
        have hLl := hL.len h24
        have hbn : b < n := by omega
        have hL1 : L.length < 1000000 := by omega
        obtain ⟨v, D2, hv, hM2, e⟩ := draw hM (by omega) (cl (L := L) hM) (m := b) (by omega) (by omega)
        have hD2 := hM2.len
        have hL2 : PsOk n (addP L (v, b)) := hL.add ⟨hv, hbn⟩
        have hLl2 := hL2.len h24
        have hL3 : (addP L (v, b)).length < 1000000 := by omega
        have := fun A => put_dP (L := addP L (v, b)) (a := 0) (b := b) (n := 4 + B.length) (A := A) hL3
        simp only [Int.natCast_zero] at this
        simp? only [en_nat, e, d_at hD2, d_set hD2, put_dP hL1, this]
        exact ⟨_, _, _, _, rfl, rfl, hL2.add ⟨by simp only; omega, hbn⟩, hM2.mono (by omega)⟩
      · rintro ρ C ⟨D', L, o4, o5, rfl, rfl, hL, hM⟩
        rw [List.length_map, List.length_range] at hM
        exact ⟨_, _, _, _, rfl, rfl, hL, hM.mono (by omega)⟩
  rintro ρ C ⟨D', L, o4, o5, rfl, rfl, hL, hM⟩
  have hD' := hM.len
  have cut60 : cutA ((srtNN L).map en) none (some 60) = ((srtNN L).take 60).map en := by
    have := cut_take (xs := (srtNN L).map en) (k := 60)
    rw [List.map_take]
    exact this
  simp? only [d_at hD', keys_dP, hD', cut60]
  refine ⟨D', (srtNN L).take 60, hM, ⟨by rw [List.length_take]; omega, fun t ht => ?_, (srtNN_srt hL.nd).sublist (List.take_sublist _ _)⟩, ?_⟩
  · exact hL.lt t ((srtNN_perm L).mem_iff.mp (List.mem_of_mem_take ht))
  · exact gcD_v h hM hc (Enc.dat ((srtNN L).take 60))

/-! ### a drawn web, coins -/
def relab (l : List Nat) (t : Nat × Nat) : Nat × Nat := (min (gt l t.1) (gt l t.2), max (gt l t.1) (gt l t.2))
theorem perm_gt {l : List Nat} {n : Nat} (p : l.Perm (List.range n)) {i : Nat} (hi : i < n) : gt l i < n := by
  have hl : l.length = n := by rw [p.length_eq, List.length_range]
  exact List.mem_range.mp (p.mem_iff.mp (gt_mem (by omega)))
theorem perm_inj {l : List Nat} {n : Nat} (p : l.Perm (List.range n)) {i j : Nat} (hi : i < n) (hj : j < n) (e : gt l i = gt l j) : i = j := by
  have hl : l.length = n := by rw [p.length_eq, List.length_range]
  have nd : l.Nodup := List.nodup_range.perm p.symm
  have h1 := of_gt (l := l) (k := i) (by omega)
  have h2 := of_gt (l := l) (k := j) (by omega)
  rw [e, ← h2] at h1
  exact (List.getElem?_inj (by omega) nd).mp h1
theorem relab_ok {l : List Nat} {n : Nat} (p : l.Perm (List.range n)) {E : List (Nat × Nat)} (h : TiesOk n E) : TiesOk n (srtNN (E.map (relab l))) := by
  have hlt : ∀ t ∈ E, (relab l t).1 < (relab l t).2 ∧ (relab l t).2 < n := fun t ht => by
    have h1 := h.lt t ht
    have g1 := perm_gt p (i := t.1) (by omega)
    have g2 := perm_gt p h1.2
    have ne : gt l t.1 ≠ gt l t.2 := fun e => by
      have := perm_inj p (by omega) h1.2 e
      omega
    unfold relab
    simp only
    omega
  have nd : (E.map (relab l)).Nodup := by
    have ndE : E.Pairwise (fun a b => relab l a ≠ relab l b) := by
      refine List.Pairwise.imp_of_mem ?_ h.asc
      intro a b ha hb hab e
      have h1 := h.lt a ha
      have h2 := h.lt b hb
      unfold relab at e
      simp only [Prod.mk.injEq] at e
      have cs : (gt l a.1 = gt l b.1 ∧ gt l a.2 = gt l b.2) ∨ (gt l a.1 = gt l b.2 ∧ gt l a.2 = gt l b.1) := by omega
      unfold ltNN at hab
      rcases cs with ⟨e1, e2⟩ | ⟨e1, e2⟩
      · have i1 := perm_inj p (by omega) (by omega) e1
        have i2 := perm_inj p (by omega) (by omega) e2
        omega
      · have i1 := perm_inj p (by omega) (by omega) e1
        have i2 := perm_inj p (by omega) (by omega) e2
        omega
    exact List.pairwise_map.mpr ndE
  refine ⟨by rw [(srtNN_perm _).length_eq, List.length_map]; exact h.few, fun t ht => ?_, srtNN_srt nd⟩
  have := (srtNN_perm _).mem_iff.mp ht
  obtain ⟨u, hu, rfl⟩ := List.mem_map.mp this
  exact hlt u hu
theorem ite_min {a b : Nat} : (if ((b : Nat) : Int) < ((a : Nat) : Int) then ((b : Nat) : Int) else ((a : Nat) : Int)) = ((min a b : Nat) : Int) := by
  split <;> omega
theorem ite_max {a b : Nat} : (if ((b : Nat) : Int) > ((a : Nat) : Int) then ((b : Nat) : Int) else ((a : Nat) : Int)) = ((max a b : Nat) : Int) := by
  split <;> omega
theorem law_web_ok {k : Nat} {D B : AH} (h : Mat k D) {m : Nat} (h1 : 1 ≤ m) (h24 : m ≤ 24) (hk : k + 2000 < 1000000) (hc : Clo (D ++ B)) :
    ∃ (D' : AH) (n : Nat) (E : List (Nat × Nat)), Mat (k + 800) D' ∧ 1 ≤ n ∧ n ≤ m ∧ TiesOk n E ∧ G__law_web [.obj 0, .int (m : Nat)] (D ++ B) = .ok (.tup [.int (n : Nat), .tup (E.map en)]) (D' ++ B) := by
  have hcB := h.clo.mp hc
  obtain ⟨v, D1, hv, hM1, e1⟩ := draw h (by omega) hc (m := m) (by omega) (by omega)
  have hc1 : Clo (D1 ++ B) := hM1.clo.mpr hcB
  obtain ⟨w, D2, hw, hM2, e2⟩ := draw hM1 (by omega) hc1 (m := 6) (by omega) (by omega)
  have e2 : G__law_draw [.obj 0, .int 6] (D1 ++ B) = .ok (.int (w : Nat)) (D2 ++ B) := e2
  have hc2 : Clo (D2 ++ B) := hM2.clo.mpr hcB
  obtain ⟨D3, l, hM3, pl, e3⟩ := law_order_ok hM2 (n := 1 + v) (by omega) hc2
  have hll : l.length = 1 + v := by rw [pl.length_eq, List.length_range]
  have hD3 := hM3.len
  have hc3 : Clo (D3 ++ (B ++ [.lst (l.map en)])) := by
    rw [hM3.clo]
    simp? [List.length_append]
    exact cloA_more (by omega) hcB
  obtain ⟨D4, E, hM4, hE, e4⟩ := law_ties_ok hM3 (n := 1 + v) (w := w) (by omega) (by omega) (by omega) hc3
  have hD4 := hM4.len
  have hEf := hE.few
  unfold G__law_web F__law_web
  refine rd_any (Φ := fun r => ∃ (D' : AH) (n : Nat) (E : List (Nat × Nat)), Mat (k + 800) D' ∧ 1 ≤ n ∧ n ≤ m ∧ TiesOk n E ∧ r = .ok (.tup [.int (n : Nat), .tup (E.map en)]) (D' ++ B)) ?_
  simp? only [e1, e2, nat_1add, e3]
  rw [comp_seq (x := .tup (E.map en)) (A1 := D4 ++ (B ++ [.lst (l.map en)])) E en (by simp? only [e4]) .refl (by omega) (fun t => some (en (relab l t))) (by
    intro t ht zs
    have hlt := hE.lt t ht
    simp? only [en_pair, en_nat, d_at hD4, ix_ok (show t.1 < l.length by omega), ix_ok (show t.2 < l.length by omega), gMin2_int, gMax2_int, ite_min, ite_max, relab])]
  rw [filterMap_all]
  simp? only [hD4, d_at hD4]
  refine ⟨D4, 1 + v, _, hM4.mono (by omega), by omega, by omega, relab_ok pl hE, ?_⟩
  exact gcD_v (D := D) (D' := D4) h hM4 hc (Enc.dat (1 + v, srtNN (E.map (relab l))))

theorem law_coins_ok {k : Nat} {D B : AH} (h : Mat k D) {n : Nat} (hk : k + n < 100000) (hc : Clo (D ++ B)) : ∃ (D' : AH) (st : List Nat), Mat (k + n) D' ∧ StOk n st ∧ G__law_coins [.obj 0, .int (n : Nat)] (D ++ B) = .ok (.tup (st.map en)) (D' ++ B) := by
  have hb : n < 1000000 := by omega
  have hcB := h.clo.mp hc
  have hD := h.len
  unfold G__law_coins F__law_coins
  refine rd_any (Φ := fun r => ∃ (D' : AH) (st : List Nat), Mat (k + n) D' ∧ StOk n st ∧ r = .ok (.tup (st.map en)) (D' ++ B)) ?_
  simp? only []
  refine wp_s (rp_bind (rp_bind ?_))
  refine rp_comp (List.range n) en (A1 := D ++ B) (by simp? only [kRange1_nat hb]) (by rw [List.length_range]; exact hb)
    (fun i acc C => ∃ (D' : AH) (st : List Nat), acc = st.map en ∧ C = D' ++ (B ++ [.lst acc]) ∧ Mat (k + i) D' ∧ StOk i st) ⟨D, [], rfl, by simp, h, rfl, by simp⟩ ?_ ?_
  · rintro i y acc C hy hC ⟨D', st, rfl, rfl, hM, hst⟩
    have hi := (List.getElem?_eq_some_iff.mp hy).1
    rw [List.length_range] at hi
    have hD' := hM.len
    have hc' : Clo (D' ++ (B ++ [.lst (st.map en)])) := by
      rw [hM.clo]
      simp? [List.length_append]
      exact cloA_more (by omega) hcB
    obtain ⟨v, D2, hv, hM2, e⟩ := draw hM (by omega) hc' (m := 2) (by omega) (by omega)
    have e : G__law_draw [.obj 0, .int 2] (D' ++ (B ++ [.lst (st.map en)])) = .ok (.int (v : Nat)) (D2 ++ (B ++ [.lst (st.map en)])) := e
    have hD2 := hM2.len
    simp? only [e, hD, d_at hD2, d_set hD2, addO, app_nat]
    refine ⟨trivial, D2, st ++ [v], rfl, rfl, hM2, by rw [List.length_append, hst.len]; rfl, fun c hc => ?_⟩
    rcases List.mem_append.mp hc with hc | hc
    · exact hst.le c hc
    · rw [List.mem_singleton] at hc
      omega
  · rintro acc C hC ⟨D', st, rfl, rfl, hM, hst⟩
    rw [List.length_range] at hM hst
    have hD' := hM.len
    simp? only [hD, d_at hD']
    exact ⟨D', st, hM, hst, gcD_v h hM hc (Enc.dat st)⟩
/-! ### turns -/
def turnedM (st t : List Nat) : List Nat := (List.range st.length).map fun p => if p ∈ t then 1 - gt st p else gt st p
theorem turnedM_ok {n : Nat} {st t : List Nat} (h : StOk n st) : StOk n (turnedM st t) := by
  refine ⟨by unfold turnedM; rw [List.length_map, List.length_range]; exact h.len, fun c hc => ?_⟩
  obtain ⟨p, hp, rfl⟩ := List.mem_map.mp hc
  have := h.le _ (gt_mem (List.mem_range.mp hp))
  split <;> omega
theorem gt_turned {st t : List Nat} {p : Nat} (hp : p < st.length) : gt (turnedM st t) p = if p ∈ t then 1 - gt st p else gt st p := gt_range hp
theorem law_turned_ok {n : Nat} {st t : List Nat} (h : StOk n st) (h24 : n ≤ 24) {A : AH} (hA : Clo A) : G__law_turned [.tup (st.map en), .tup (t.map en)] A = .ok (.tup ((turnedM st t).map en)) A := by
  have hl := h.len
  have hb : st.length < 1000000 := by omega
  unfold G__law_turned F__law_turned
  refine rd_eq ?_
  simp? only []
  rw [comp_pure (A1 := A) (List.range st.length) en (by simp? only [kRange1_nat hb]) (by rw [List.length_range]; exact hb) (fun p => some (en (if p ∈ t then 1 - gt st p else gt st p))) (by
    intro p hp zs
    have hp := List.mem_range.mp hp
    have hle := h.le _ (gt_mem hp)
    have e1 : (1 : Int) - ((gt st p : Nat) : Int) = ((1 - gt st p : Nat) : Int) := by omega
    by_cases z : p ∈ t
    · simp? only [en_nat, z, decide_true, ix_ok hp, e1]
    · simp? only [en_nat, z, decide_false, ix_ok hp])]
  rw [filterMap_all]
  simp? only []
  exact gc_v hA (by simp? [])
def turnsM (E : List (Nat × Nat)) (st : List Nat) : List (Nat × Nat) := E.filter fun t => decide (gt st t.1 = gt st t.2)
theorem law_turns_ok {n : Nat} {E : List (Nat × Nat)} (hE : TiesOk n E) {st : List Nat} (h : StOk n st) {A : AH} (hA : Clo A) : G__law_turns [.tup (E.map en), .tup (st.map en)] A = .ok (.obj A.length) (A ++ [.lst ((turnsM E st).map en)]) := by
  have hl := h.len
  have hf := hE.few
  unfold G__law_turns F__law_turns
  refine rd_eq ?_
  simp? only []
  rw [comp_seq (x := .tup (E.map en)) (A1 := A) E en (by simp? only []) .refl (by omega) (fun t => if decide (gt st t.1 = gt st t.2) = true then some (en t) else none) (by
    intro t ht zs
    have hlt := hE.lt t ht
    by_cases z : gt st t.1 = gt st t.2
    · simp? only [en_pair, en_nat, ix_ok (show t.1 < st.length by omega), ix_ok (show t.2 < st.length by omega), z, decide_true]
    · simp? only [en_pair, en_nat, ix_ok (show t.1 < st.length by omega), ix_ok (show t.2 < st.length by omega), z, decide_false, Int.natCast_inj])]
  have := filterMap_some (p := fun t => decide (gt st t.1 = gt st t.2)) (f := id) E
  simp only [id] at this
  rw [this, List.map_id]
  simp? only []
  exact gc_o0 hA (by simp? [])

/-! ### errors told -/
def tellG (r : Res AV) : Res AV := match r with
  | .ok v B => .ok v B
  | _ => .er
def kTold (cs : List Nat) (G : FD) (r : Res AV) : Res AV := match r with
  | .ok v A' => .ok (.obj A'.length) (A' ++ [.lst [v]])
  | .exc e A' => if e.c ∈ cs then tellG (G [.obj A'.length] (A' ++ [.exn e.c e.fs])) else .er
  | .er => .er
theorem x_told {cs : List Nat} {f : FE} {G : FD} {ρ : Rho} {A : AH} : fTold cs f G ρ A = kTold cs G (f ρ A) := by
  unfold fTold kTold tellG
  rfl
theorem told_v {cs : List Nat} {G : FD} {v : AV} {A : AH} : kTold cs G (.ok v A) = .ok (.obj A.length) (A ++ [.lst [v]]) := (rfl)
theorem told_x {cs : List Nat} {G : FD} {c : Nat} {fs : List AV} {A B : AH} {v : AV} (hc : c ∈ cs) (h : G [.obj A.length] (A ++ [.exn c fs]) = .ok v B) : kTold cs G (.exc ⟨c, fs⟩ A) = .ok v B := by
  show (if c ∈ cs then tellG (G [.obj A.length] (A ++ [.exn c fs])) else .er) = _
  rw [if_pos hc, h]
  rfl
/-! what a kept error is asked -/
def kIsiE (rx : RelC) (x : AV) (A : AH) : Res AV := match x with
  | .obj n => match A[n]? with
    | some (.exn c _) => match relAt rx c with
      | some b => .ok (.bl b) A
      | none => .er
    | _ => .er
  | _ => .er
theorem x_isiE {rx : RelC} {f : FE} {ρ : Rho} {A : AH} : fIsiE rx f ρ A = (f ρ A).bind (kIsiE rx) := by
  unfold fIsiE kIsiE
  rfl
theorem isiE_at {rx : RelC} {n c : Nat} {fs : List AV} {A : AH} {b : Bool} (h : A[n]? = some (.exn c fs)) (hb : relAt rx c = some b) : kIsiE rx (.obj n) A = .ok (.bl b) A := by
  unfold kIsiE
  simp only [h, hb]
def kFldE (tx : Tbl) (x : AV) (A : AH) : Res AV := match x with
  | .obj n => match A[n]? with
    | some (.exn c fs) => match tblAt tx c with
      | some i => match fs[i]? with
        | some v => .ok v A
        | none => .er
      | none => .er
    | _ => .er
  | _ => .er
theorem x_fldE {tx : Tbl} {f : FE} {ρ : Rho} {A : AH} : fFldE tx f ρ A = (f ρ A).bind (kFldE tx) := by
  unfold fFldE kFldE
  rfl
theorem fldE_at {tx : Tbl} {n c : Nat} {v : AV} {A : AH} (h : A[n]? = some (.exn c [v])) (hb : tblAt tx c = some 0) : kFldE tx (.obj n) A = .ok v A := by
  unfold kFldE
  simp only [h, hb]
  rfl
def catO (x y : Option (List AV)) (A : AH) : Res AV := match x, y with
  | some xs, some ys => if xs.length + ys.length < big then .ok (.obj A.length) (A ++ [.lst (xs ++ ys)]) else .er
  | _, _ => .er
theorem gAdd_oo {n m : Nat} {A : AH} : gAdd (.obj n) (.obj m) A = catO (Dn.lstO A[n]?) (Dn.lstO A[m]?) A := by
  unfold gAdd gCat catO
  rw [lstAt_obj, lstAt_obj] <;> rfl
theorem catO_some {xs ys : List AV} {A : AH} : catO (some xs) (some ys) A = if xs.length + ys.length < big then .ok (.obj A.length) (A ++ [.lst (xs ++ ys)]) else .er := (rfl)
theorem x_raise1 {c : Nat} {f : FE} {ρ : Rho} {A : AH} : fRaise1 c f ρ A = (f ρ A).s ρ fun x A => .exc ⟨c, [x]⟩ ρ A := (rfl)
theorem x_raise0 {c : Nat} {ρ : Rho} {A : AH} : fRaise0 c ρ A = .exc ⟨c, []⟩ ρ A := (rfl)
def flagE (t : Str × Bool) : AV := .tup [.str t.1, .bl t.2]
theorem flag_def {s : Str} {b : Bool} : AV.tup [.str s, .bl b] = flagE (s, b) := (rfl)
theorem lstO_l {xs : List AV} : Dn.lstO (some (AO.lst xs)) = some xs := (rfl)
theorem toP_str {s : Str} {A : AH} {n : Nat} (h : PyData.strOk s = true) : AV.toP A (n + 1) (.str s) = some (.str s) := by
  show (if PyData.strOk s = true then some (PyData.str s) else none) = _
  rw [if_pos h]
theorem gEq_str {s t : Str} {A : AH} {b : Bool} (h1 : PyData.strOk s = true) (h2 : PyData.strOk t = true) (hb : (s == t) = b) : gEq (.str s) (.str t) A = .ok (.bl b) A := by
  unfold gEq
  rw [toP_str h1, toP_str h2, ← hb]
  show Res.ok (AV.bl (PyData.eqv (.str s) (.str t))) A = _
  rw [PyData.eqv]
theorem gcE_same {e : Ex} {A : AH} : gcE A e A = .exc e A := by
  unfold gcE
  rw [List.take_length]
  split <;> rfl
theorem gcE_app {e : Ex} {A B : AH} (hA : Clo A) (hf : dats e.fs) : gcE A e (A ++ B) = .exc e A := by
  have h : (A ++ B).take A.length = A := by rw [List.take_left']; rfl
  unfold gcE
  rw [h, if_pos]
  rw [clo_dats hf]
  exact hA
theorem co_exn {k c : Nat} {fs : List AV} : cloO k (.exn c fs) = cloVs k fs := (rfl)

/-! ### the word of BadTurn -/
theorem class_BadTurn {A : AH} {n : Nat} {v : AV} (h : A[n]? = some (.exn 23 [v])) (hv : dat v) (hA : Clo A) : G__law_class [.obj n] A = .ok (.tup [.str "BadTurn", v]) A := by
  have i1 : ∀ {B : AH} {rx : RelC} {b : Bool}, relAt rx 23 = some b → kIsiE rx (.obj n) (A ++ B) = .ok (.bl b) (A ++ B) := fun hb => isiE_at (h_get h _) hb
  have r1 : relAt rx_BadTies 23 = some false := rfl
  have r2 : relAt rx_BadStanding 23 = some false := rfl
  have r3 : relAt rx_BadTurn 23 = some true := rfl
  have r4 : relAt rx_BadNumber 23 = some false := rfl
  have r5 : relAt rx_Unlike 23 = some false := rfl
  have r6 : relAt rx_OneSided 23 = some false := rfl
  have r7 : relAt rx_TooGreat 23 = some false := rfl
  have f1 : ∀ {B : AH}, kFldE tx_place (.obj n) (A ++ B) = .ok v (A ++ B) := fldE_at (h_get h _) rfl
  have i0 : ∀ {rx : RelC} {b : Bool}, relAt rx 23 = some b → kIsiE rx (.obj n) A = .ok (.bl b) A := fun hb => isiE_at h hb
  unfold G__law_class F__law_class
  refine rd_eq ?_
  simp? only [x_isiE, i0 r1, i0 r2, i1 r3, i1 r4, i1 r5, i1 r6, i1 r7, gAdd_oo, lstO_l, catO_some]
  rw [comp_seq (e := flagE) (β := Str × Bool) [("BadTies", false), ("BadStanding", false), ("BadTurn", true), ("BadNumber", false), ("Unlike", false), ("OneSided", false), ("TooGreat", false)]
    (by simp? only []; rfl) (.lst _ rfl (by simp? only []; rfl)) (by decide) (fun t => if t.2 = true then some (.str t.1) else none) (by
      intro y hy zs
      obtain ⟨s, b⟩ := y
      cases b <;> simp? only [flagE])]
  have ew : List.filterMap (fun t : Str × Bool => if t.2 = true then some (AV.str t.1) else none) [("BadTies", false), ("BadStanding", false), ("BadTurn", true), ("BadNumber", false), ("Unlike", false), ("OneSided", false), ("TooGreat", false)] = [.str "BadTurn"] := rfl
  rw [ew]
  have q1 : ∀ {B : AH}, gIn (.str "BadTurn") (.tup [.str "BadTies", .str "BadStanding", .str "BadTurn"]) B = .ok (.bl true) B := fun {B} => by rfl
  have q2 : ∀ {B : AH}, gIn (.str "BadTurn") (.tup [.str "Unlike", .str "OneSided"]) B = .ok (.bl false) B := fun {B} => by rfl
  have q3 : ∀ {B : AH}, gEq (.str "BadTurn") (.str "TooGreat") B = .ok (.bl false) B := gEq_str (by decide +kernel) (by decide +kernel) (by decide +kernel)
  simp? only [q1, q2, q3, x_fldE, f1]
  exact gc_v hA (by simp? [Bool.true_and, clo_dat hv])

/-! ### worlds: a closed heap whose first four places are the material of the draws -/
structure Wrl (k : Nat) (A : AH) : Prop where
  ex : ∃ D B, A = D ++ B ∧ Mat k D
  clo : Clo A
theorem Wrl.mono {k j : Nat} {A : AH} (h : Wrl k A) (i : k ≤ j) : Wrl j A := by
  obtain ⟨D, B, e, m⟩ := h.ex
  exact ⟨⟨D, B, e, m.mono i⟩, h.clo⟩
theorem Wrl.len {k : Nat} {A : AH} (h : Wrl k A) : 4 ≤ A.length := by
  obtain ⟨D, B, rfl, m⟩ := h.ex
  rw [List.length_append, m.len]
  omega
theorem Wrl.apps {k : Nat} {A X : AH} (h : Wrl k A) (hX : cloA (A.length + X.length) X = true) : Wrl k (A ++ X) := by
  obtain ⟨D, B, rfl, m⟩ := h.ex
  exact ⟨⟨D, B ++ X, by rw [List.append_assoc], m⟩, (clo_app h.clo).mpr hX⟩
theorem Wrl.app {k : Nat} {A : AH} {o : AO} (h : Wrl k A) (ho : cloO A.length o = true) : Wrl k (A ++ [o]) :=
  h.apps (by rw [clo_cons, clo_nil, Bool.and_true]; exact cloO_mono (Nat.le_add_right _ _) ho)
theorem Wrl.lst {k : Nat} {A : AH} {xs : List AV} (h : Wrl k A) (ho : cloVs A.length xs = true) : Wrl k (A ++ [.lst xs]) := h.app ho
/-- all stands that stood -/
def Stay (A A' : AH) : Prop := ∀ (i : Nat) (o : AO), A[i]? = some o → A'[i]? = some o
theorem Stay.refl (A : AH) : Stay A A := fun _ _ h => h
theorem Stay.trans {A B C : AH} (h : Stay A B) (k : Stay B C) : Stay A C := fun i o e => k i o (h i o e)
theorem Stay.app (A X : AH) : Stay A (A ++ X) := fun _ _ h => h_get h X
theorem Stay.len {A A' : AH} (h : Stay A A') : A.length ≤ A'.length := by
  by_cases z : A.length = 0
  · omega
  · have := h (A.length - 1) A[A.length - 1] (List.getElem?_eq_getElem (by omega))
    have := (List.getElem?_eq_some_iff.mp this).1
    omega
/-- all but the material stands -/
def Kept (A A' : AH) : Prop := ∀ (i : Nat) (o : AO), 4 ≤ i → A[i]? = some o → A'[i]? = some o
theorem Kept.refl (A : AH) : Kept A A := fun _ _ _ h => h
theorem Kept.trans {A B C : AH} (h : Kept A B) (k : Kept B C) : Kept A C := fun i o l e => k i o l (h i o l e)
theorem Stay.kept {A A' : AH} (h : Stay A A') : Kept A A' := fun i o _ e => h i o e
theorem Kept.app (A X : AH) : Kept A (A ++ X) := (Stay.app A X).kept
theorem Wrl.draw {k : Nat} {A : AH} (h : Wrl k A) (hk : k < 1000000) {m : Nat} (h0 : 0 < m) (h1 : m < 1000000) :
    ∃ (v : Nat) (A' : AH), v < m ∧ Wrl (k + 1) A' ∧ Kept A A' ∧ A'.length = A.length ∧ G__law_draw [.obj 0, .int (m : Nat)] A = .ok (.int (v : Nat)) A' := by
  obtain ⟨D, B, rfl, hm⟩ := h.ex
  obtain ⟨v, D', hv, hM, e⟩ := Lk.draw hm hk h.clo h0 h1
  have l1 := hm.len
  have l2 := hM.len
  refine ⟨v, D' ++ B, hv, ⟨⟨D', B, rfl, hM⟩, hM.clo.mpr (hm.clo.mp h.clo)⟩, fun i o hi e => ?_, by rw [List.length_append, List.length_append, l1, l2], e⟩
  rw [List.getElem?_append_right (by omega)] at e ⊢
  rw [l1] at e
  rw [l2]
  exact e
theorem kept_mat {k j : Nat} {D D' B X : AH} (h : Mat k D) (h' : Mat j D') : Kept (D ++ B) (D' ++ (B ++ X)) := fun i o hi e => by
  rw [List.getElem?_append_right (by rw [h.len]; omega), h.len] at e
  rw [List.getElem?_append_right (by rw [h'.len]; omega), h'.len]
  exact h_get e X

/-! ### worlds with webs -/
theorem WebAt.kept {A A' : AH} {k : Nat} {W : Wb} (h : WebAt A k W) (s : Kept A A') (l : 4 ≤ k) : WebAt A' k W := ⟨s _ _ l h.at_⟩
theorem WebAt.stay {A A' : AH} {k : Nat} {W : Wb} (h : WebAt A k W) (s : Stay A A') : WebAt A' k W := ⟨s _ _ h.at_⟩
theorem web_w {k : Nat} {A : AH} (hA : Wrl k A) {m : Nat} (h1 : 1 ≤ m) (h24 : m ≤ 24) (hk : k + 2000 < 1000000) :
    ∃ (A' : AH) (n : Nat) (E : List (Nat × Nat)), Wrl (k + 800) A' ∧ Kept A A' ∧ A'.length = A.length ∧ 1 ≤ n ∧ n ≤ m ∧ TiesOk n E ∧ G__law_web [.obj 0, .int (m : Nat)] A = .ok (.tup [.int (n : Nat), .tup (E.map en)]) A' := by
  obtain ⟨D, B, rfl, hm⟩ := hA.ex
  obtain ⟨D', n, E, hM, n1, nm, hE, e⟩ := law_web_ok hm h1 h24 hk hA.clo
  have l1 := hm.len
  have l2 := hM.len
  refine ⟨D' ++ B, n, E, ⟨⟨D', B, rfl, hM⟩, hM.clo.mpr (hm.clo.mp hA.clo)⟩, ?_, by rw [List.length_append, List.length_append, l1, l2], n1, nm, hE, e⟩
  have := kept_mat (B := B) (X := []) hm hM
  rwa [List.append_nil] at this
theorem clo_webO {k : Nat} {W : Wb} : cloO k (webO W) = true := by
  unfold webO
  simp? []
theorem Wrl.web {k : Nat} {A : AH} (h : Wrl k A) {W : Wb} : Wrl k (A ++ [webO W]) := h.app clo_webO
theorem web_new {A : AH} {W : Wb} : WebAt (A ++ [webO W]) A.length W := ⟨by rw [h_at0]; rfl⟩
/-! lists that are shown -/
theorem toP_lst {A : AH} {n : Nat} {xs : List AV} {ds : List PyData} (h : A[n]? = some (.lst xs)) (hd : mapO (AV.toP A 15) xs = some ds) : AV.toP A 16 (.obj n) = some (.list ds) := by
  show (match A[n]? with | some (.lst xs) => (mapO (AV.toP A 15) xs).map PyData.list | _ => none) = _
  rw [h]
  simp only [hd]
  rfl
theorem repr_lst {A : AH} {n : Nat} {xs : List AV} {ds : List PyData} (h : A[n]? = some (.lst xs)) (hd : mapO (AV.toP A 15) xs = some ds) (ok : okR (.list ds) = true) : gRepr [.obj n] A = .ok (.str (PyData.list ds).shown) A := by
  unfold gRepr
  simp only [toP_lst h hd]
  rw [if_pos ok]
theorem repr_of {A : AH} {v : AV} {d : PyData} (h : AV.toP A 16 v = some d) (ok : okR d = true) : gRepr [v] A = .ok (.str d.shown) A := by
  unfold gRepr
  simp only [h]
  rw [if_pos ok]
theorem mapO_en {α : Type} [Enc α] {A : AH} {l : List α} (h : Enc.dep α < 15) : mapO (AV.toP A 15) (l.map en) = some (l.map pd) := mapO_map (fun x => Enc.toP A 15 x h) l

/-! ### shown -/
theorem repr_en {α : Type} [Enc α] {x : α} {A : AH} (h : okR (pd x) = true) (hd : Enc.dep α < 16 := by decide) : gRepr [en x] A = .ok (.str (pd x).shown) A := by
  unfold gRepr
  simp only [Enc.toP A 16 x hd]
  rw [if_pos h]
theorem gNeS_str {s : Str} {A : AH} : gNeS (.str s) (.str s) A = .ok (.bl false) A := by
  unfold gNeS
  simp
theorem short_nat : ∀ i, i ≤ 60 → ((PyData.shown (.int ((i : Nat) : Int))).length ≤ 100) := by decide +kernel
/-- data that can be shown: at most b parts, at most k deep -/
structure Sh (b k : Nat) (d : PyData) : Prop where
  s : d.showable = true
  h : d.hasDict = false
  l : d.leavesShort 100 = true
  b : d.bulk ≤ b
  k : d.depth ≤ k
theorem Sh.all {b k : Nat} : ∀ {ds : List PyData}, (∀ d ∈ ds, Sh b k d) → PyData.showableAll ds = true ∧ PyData.hasDictAll ds = false ∧ PyData.leavesShortAll 100 ds = true ∧ PyData.bulkAll ds ≤ ds.length * (b + 1) ∧ PyData.depthAll ds ≤ k
  | [], _ => ⟨rfl, rfl, rfl, Nat.zero_le _, Nat.zero_le _⟩
  | d :: ds, h => by
    obtain ⟨h1, h2, h3, h4, h5⟩ := Sh.all fun e he => h e (List.mem_cons_of_mem _ he)
    have g := h d List.mem_cons_self
    refine ⟨?_, ?_, ?_, ?_, ?_⟩
    · rw [PyData.showableAll, g.s, h1]; rfl
    · rw [PyData.hasDictAll, g.h, h2]; rfl
    · rw [PyData.leavesShortAll, g.l, h3]; rfl
    · have := g.b
      rw [PyData.bulkAll, List.length_cons, Nat.add_mul]
      omega
    · have := g.k
      rw [PyData.depthAll]
      omega
theorem Sh.tuple {b k m : Nat} {ds : List PyData} (h : ∀ d ∈ ds, Sh b k d) (hm : ds.length ≤ m) : Sh (m * (b + 1)) (k + 1) (.tuple ds) := by
  obtain ⟨h1, h2, h3, h4, h5⟩ := Sh.all h
  have := Nat.mul_le_mul_right (b + 1) hm
  exact ⟨by rw [PyData.showable]; exact h1, by rw [PyData.hasDict]; exact h2, by rw [PyData.leavesShort]; exact h3, by rw [PyData.bulk]; omega, by rw [PyData.depth]; omega⟩
theorem Sh.list {b k m : Nat} {ds : List PyData} (h : ∀ d ∈ ds, Sh b k d) (hm : ds.length ≤ m) : Sh (m * (b + 1)) (k + 1) (.list ds) := by
  obtain ⟨h1, h2, h3, h4, h5⟩ := Sh.all h
  have := Nat.mul_le_mul_right (b + 1) hm
  exact ⟨by rw [PyData.showable]; exact h1, by rw [PyData.hasDict]; exact h2, by rw [PyData.leavesShort]; exact h3, by rw [PyData.bulk]; omega, by rw [PyData.depth]; omega⟩
theorem show_nat : ∀ i, i ≤ 60 → (PyData.int ((i : Nat) : Int)).showable = true := by decide +kernel
theorem Sh.nat {i : Nat} (h : i ≤ 60) : Sh 0 0 (pd i) := ⟨show_nat i h, rfl, by
  show PyData.leavesShort 100 (.int ((i : Nat) : Int)) = true
  rw [PyData.leavesShort]
  exact decide_eq_true (short_nat i h), Nat.le_refl 0, Nat.le_refl 0⟩
theorem Sh.ok {b k : Nat} {d : PyData} (h : Sh b k d) (t : topI d = true) (hb : b < 20000) (hk : k ≤ 16) : okR d = true := by
  unfold okR
  have h1 := h.b
  have h2 := h.k
  rw [t, h.s, h.h, h.l, decide_eq_true (show d.bulk < 20000 by omega), decide_eq_true (show d.depth ≤ 16 by omega)]
  rfl
theorem okR_nats {l : List Nat} (h : ∀ x ∈ l, x ≤ 60) (hl : l.length ≤ 100) : okR (pd l) = true := by
  have : Sh (100 * (0 + 1)) (0 + 1) (pd l) := Sh.tuple (ds := l.map pd) (fun d hd => by
    obtain ⟨x, hx, rfl⟩ := List.mem_map.mp hd
    exact Sh.nat (h x hx)) (by rw [List.length_map]; exact hl)
  exact this.ok rfl (by decide) (by decide)

/-! ### benches: turns that can be done -/
theorem in_pair {p a b : Nat} {A : AH} : gIn (.int ((p : Nat) : Int)) (.tup [.int ((a : Nat) : Int), .int ((b : Nat) : Int)]) A = .ok (.bl (decide (p ∈ [a, b]))) A := gIn_tup (l := [a, b])
theorem near_mem {n : Nat} {E : List (Nat × Nat)} {t : Nat × Nat} (h : TiesOk n E) (ht : t ∈ E) : t.2 ∈ gt (nearOf n E) t.1 := by
  have hlt := h.lt t ht
  unfold nearOf
  rw [gt_range (by omega)]
  refine (srtN_perm _).mem_iff.mpr ?_
  unfold nbrs
  rw [List.mem_filterMap]
  exact ⟨t, ht, by rw [if_pos rfl]⟩
theorem is_turn_ok {n : Nat} {E : List (Nat × Nat)} {t : Nat × Nat} (hE : TiesOk n E) (ht : t ∈ E) {A : AH} {w : Nat} (hw : WebAt A w (mkW n E)) {st : List Nat} (hst : StOk n st) :
    G_is_turn [.obj w, .tup (st.map en), .tup [.int (t.1 : Nat), .int (t.2 : Nat)]] A = .ok (.bl (decide (gt st t.1 = gt st t.2))) A := by
  have hlt := hE.lt t ht
  have hl := hst.len
  have hm := near_mem hE ht
  have hnl : (nearOf n E).length = n := by unfold nearOf; rw [List.length_map, List.length_range]
  have e0 : (mkW n E).n = n := rfl
  have e1 : (mkW n E).near = nearOf n E := rfl
  unfold G_is_turn F_is_turn
  refine rd_eq ?_
  simp? only [is_tie_ok hlt, hw.get, ts_many, ti_many, ts_near, ti_near, e0, e1, ix_ok (show t.1 < (nearOf n E).length by omega), en_list, gNotIn_tup, hm, ix_ok (show t.1 < st.length by omega), ix_ok (show t.2 < st.length by omega), en_nat, Int.natCast_inj]
  exact gc_same rfl
theorem turned_ok {n : Nat} {st : List Nat} {t : Nat × Nat} (h : StOk n st) (h24 : n ≤ 24) {A : AH} (hA : Clo A) : G_turned [.tup (st.map en), .tup [.int (t.1 : Nat), .int (t.2 : Nat)]] A = .ok (.tup ((turnedM st [t.1, t.2]).map en)) A := by
  have hl := h.len
  unfold G_turned F_turned
  refine rd_eq ?_
  simp? only []
  rw [comp_pure (A1 := A) st.zipIdx (fun p => pairI p.2 (en p.1)) (by simp? only [kEnum_tup, enumF_map]) (by rw [List.length_zipIdx]; omega) (fun p => some (en (if p.2 ∈ [t.1, t.2] then 1 - p.1 else p.1))) (by
    rintro ⟨c, i⟩ hp zs
    have hc : c ≤ 1 := h.le c (by
      have := List.mem_zipIdx hp
      rw [this.2.2]
      exact List.getElem_mem _)
    have e1 : (1 : Int) - ((c : Nat) : Int) = ((1 - c : Nat) : Int) := by omega
    by_cases z : i ∈ [t.1, t.2]
    · simp? only [pairI, en_nat, in_pair, z, decide_true, e1]
    · simp? only [pairI, en_nat, in_pair, z, decide_false])]
  rw [filterMap_all]
  have e2 : st.zipIdx.map (fun p => if p.2 ∈ [t.1, t.2] then 1 - p.1 else p.1) = turnedM st [t.1, t.2] := by
    unfold turnedM
    refine List.ext_getElem (by simp) fun i h1 h2 => ?_
    simp only [List.getElem_map, List.getElem_zipIdx, List.getElem_range]
    rw [List.length_map, List.length_zipIdx] at h1
    rw [Nat.zero_add, show gt st i = st[i] from gt_of (List.getElem?_eq_getElem h1)]
  rw [e2]
  simp? only []
  exact gc_v hA (by simp? [])
theorem done_at_ok {n : Nat} {E : List (Nat × Nat)} {t : Nat × Nat} (hE : TiesOk n E) (ht : t ∈ E) (h24 : n ≤ 24) {A : AH} (hA : Clo A) {w : Nat} (hw : WebAt A w (mkW n E)) {st : List Nat} (hst : StOk n st) (he : gt st t.1 = gt st t.2) {i : Int} :
    G_done_at [.obj w, .tup (st.map en), .tup [.int (t.1 : Nat), .int (t.2 : Nat)], .int i] A = .ok (.tup ((turnedM st [t.1, t.2]).map en)) A := by
  have e1 := is_turn_ok hE ht hw hst
  rw [decide_eq_true he] at e1
  unfold G_done_at F_done_at
  refine rd_eq ?_
  simp? only [e1, turned_ok hst h24 hA]
  exact gc_same (by simp? [])

/-! ### turns, right or not -/
theorem near_iff {n : Nat} {E : List (Nat × Nat)} (h : TiesOk n E) {a b : Nat} (ha : a < n) (hab : a < b) : b ∈ gt (nearOf n E) a ↔ (a, b) ∈ E := by
  unfold nearOf
  rw [gt_range ha, (srtN_perm _).mem_iff]
  unfold nbrs
  rw [List.mem_filterMap]
  constructor
  · rintro ⟨t, ht, e⟩
    have hlt := h.lt t ht
    by_cases z : t.1 = a
    · rw [if_pos z] at e
      cases e
      rw [← z]
      exact ht
    · rw [if_neg z] at e
      by_cases z2 : t.2 = a
      · rw [if_pos z2] at e
        cases e
        omega
      · rw [if_neg z2] at e
        cases e
  · intro ht
    exact ⟨(a, b), ht, by rw [if_pos rfl]⟩
theorem is_turn_pair {n : Nat} {E : List (Nat × Nat)} (hE : TiesOk n E) {A : AH} {w : Nat} (hw : WebAt A w (mkW n E)) {st : List Nat} (hst : StOk n st) {x : AV} (hx : SeqIs A x (st.map en)) {a b : Nat} (ha : a < n) (hb : b < n) :
    G_is_turn [.obj w, x, .tup [.int (a : Nat), .int (b : Nat)]] A = .ok (.bl (decide ((a, b) ∈ E ∧ gt st a = gt st b))) A := by
  have hl := hst.len
  have hnl : (nearOf n E).length = n := by unfold nearOf; rw [List.length_map, List.length_range]
  have e0 : (mkW n E).n = n := rfl
  have e1 : (mkW n E).near = nearOf n E := rfl
  unfold G_is_turn F_is_turn
  refine rd_eq ?_
  have f1 : decide ((0 : Int) ≤ (a : Nat)) = true := decide_eq_true (by omega)
  have f2 : decide (((a : Nat) : Int) ≤ ((n : Nat) : Int) - 1) = true := decide_eq_true (by omega)
  have f3 : decide (((b : Nat) : Int) ≤ ((n : Nat) : Int) - 1) = true := decide_eq_true (by omega)
  by_cases z : a < b
  · have f4 : decide (((a + 1 : Nat) : Int) ≤ ((b : Nat) : Int)) = true := decide_eq_true (by omega)
    by_cases y : (a, b) ∈ E
    · have hm := (near_iff hE ha z).mpr y
      have e5 : decide ((a, b) ∈ E ∧ gt st a = gt st b) = decide (gt st a = gt st b) := decide_eq_decide.mpr ⟨fun h => h.2, fun h => ⟨y, h⟩⟩
      rw [e5]
      simp? only [is_tie_pair, f1, f2, f3, f4, hw.get, ts_many, ti_many, ts_near, ti_near, e0, e1, ix_ok (show a < (nearOf n E).length by omega), en_list, gNotIn_tup, hm, hx.ix, ix_ok (show a < st.length by omega), ix_ok (show b < st.length by omega), en_nat, Int.natCast_inj]
      exact gc_same rfl
    · have hm : ¬ b ∈ gt (nearOf n E) a := fun h => y ((near_iff hE ha z).mp h)
      have e5 : decide ((a, b) ∈ E ∧ gt st a = gt st b) = false := decide_eq_false fun h => y h.1
      rw [e5]
      simp? only [is_tie_pair, f1, f2, f3, f4, hw.get, ts_many, ti_many, ts_near, ti_near, e0, e1, ix_ok (show a < (nearOf n E).length by omega), en_list, gNotIn_tup, hm]
      exact gc_same rfl
  · have f4 : decide (((a + 1 : Nat) : Int) ≤ ((b : Nat) : Int)) = false := decide_eq_false (by omega)
    have e5 : decide ((a, b) ∈ E ∧ gt st a = gt st b) = false := decide_eq_false fun h => z (hE.lt _ h.1).1
    rw [e5]
    simp? only [is_tie_pair, f1, f2, f3, f4, hw.get, ts_many, e0]
    exact gc_same rfl

/-! ### what is no turn -/
theorem whole_non {A : AH} : G_is_whole [.non] A = .ok (.bl false) A := by
  unfold G_is_whole F_is_whole
  refine rd_eq ?_
  simp? only []
  exact gc_same rfl
theorem whole_bl {b : Bool} {A : AH} : G_is_whole [.bl b] A = .ok (.bl false) A := by
  unfold G_is_whole F_is_whole
  refine rd_eq ?_
  simp? only []
  exact gc_same rfl
theorem whole_str {s : Str} {A : AH} : G_is_whole [.str s] A = .ok (.bl false) A := by
  unfold G_is_whole F_is_whole
  refine rd_eq ?_
  simp? only []
  exact gc_same rfl
theorem among_no {v : AV} {l m : Int} {A : AH} (h : G_is_whole [v] A = .ok (.bl false) A) : G_is_among [v, .int l, .int m] A = .ok (.bl false) A := by
  unfold G_is_among F_is_among
  refine rd_eq ?_
  simp? only [h]
  exact gc_same rfl

/-! ### rows of turns -/
def walkM (st : List Nat) (l : List (Nat × Nat)) : List Nat := l.foldl (fun s t => turnedM s [t.1, t.2]) st
theorem walkM_snoc {st : List Nat} {l : List (Nat × Nat)} {t : Nat × Nat} : walkM st (l ++ [t]) = turnedM (walkM st l) [t.1, t.2] := by
  unfold walkM
  rw [List.foldl_append]
  rfl
theorem walkM_ok {n : Nat} {st : List Nat} (h : StOk n st) : ∀ l : List (Nat × Nat), StOk n (walkM st l) := fun l => by
  induction l generalizing st with
  | nil => exact h
  | cons t l ih => exact ih (turnedM_ok h)
/-- a row that can be done -/
def RowW (E : List (Nat × Nat)) (st : List Nat) (l : List (Nat × Nat)) : Prop := ∀ i t, l[i]? = some t → t ∈ E ∧ gt (walkM st (l.take i)) t.1 = gt (walkM st (l.take i)) t.2
theorem RowW.nil {E : List (Nat × Nat)} {st : List Nat} : RowW E st [] := fun i t h => by simp at h
theorem RowW.snoc {E : List (Nat × Nat)} {st : List Nat} {l : List (Nat × Nat)} {t : Nat × Nat} (h : RowW E st l) (ht : t ∈ E) (e : gt (walkM st l) t.1 = gt (walkM st l) t.2) : RowW E st (l ++ [t]) := fun i u hi => by
  by_cases z : i < l.length
  · rw [List.getElem?_append_left z] at hi
    rw [List.take_append_of_le_length (Nat.le_of_lt z)]
    exact h i u hi
  · have hl := (List.getElem?_eq_some_iff.mp hi).1
    rw [List.length_append, List.length_singleton] at hl
    have e0 : i = l.length := by omega
    subst e0
    rw [List.getElem?_append_right (Nat.le_refl _), Nat.sub_self] at hi
    cases hi
    rw [List.take_left']
    · exact ⟨ht, e⟩
    · rfl
section
variable {n : Nat} {E : List (Nat × Nat)} {st : List Nat} {A : AH} {w : Nat} {x y z : AV}
theorem done_at_no {i : Int} (h : G_is_turn [.obj w, x, y] A = .ok (.bl false) A) : G_done_at [.obj w, x, y, .int i] A = .exc ⟨23, [.int i]⟩ A := by
  unfold G_done_at F_done_at
  refine rd_eq ?_
  simp? only [h, x_raise1, gcE_same]
theorem walked_ok (hE : TiesOk n E) (hA : Clo A) (hw : WebAt A w (mkW n E)) (h24 : n ≤ 24) (hst : StOk n st) (hx : SeqIs A x (st.map en)) {l : List (Nat × Nat)} (hl : l.length < 1000000) (hy : SeqIs A y (l.map en)) (hr : RowW E st l) :
    G_walked [.obj w, x, y] A = .ok (.tup ((walkM st l).map en)) A := by
  have hs := need_standing_ok hw h24 hx hst
  unfold G_walked F_walked
  refine rd_eq ?_
  simp? only [hs, is_list_seq hy, hx.tuple]
  refine wp_nxt ?_
  refine wp_enum l en (A1 := A) (x := y) (by simp? only []) hy hl (fun i ρ B => ∃ o1 o2 : Option AV, ρ = [some (.obj w), some x, some y, some (.tup ((walkM st (l.take i)).map en)), o1, o2] ∧ B = A) ⟨_, _, rfl, rfl⟩ (by rintro i ρ B ⟨_, _, _, rfl⟩; exact hy) ?_ ?_
  · rintro i t ρ B ht ⟨o1, o2, rfl, rfl⟩
    obtain ⟨h1, h2⟩ := hr i t ht
    have e := done_at_ok hE h1 h24 hA hw (walkM_ok hst (l.take i)) h2 (i := ((i : Nat) : Int))
    have e2 : l.take (i + 1) = l.take i ++ [t] := by rw [List.take_add_one, ht]; rfl
    rw [e2, walkM_snoc]
    simp? only [pairI, en_pair, en_nat, e]
    exact ⟨_, _, rfl, trivial⟩
  · rintro ρ B ⟨o1, o2, rfl, rfl⟩
    rw [List.take_length]
    simp? only []
    exact gc_same (by simp? [])
theorem walked_bad (hE : TiesOk n E) (hA : Clo A) (hw : WebAt A w (mkW n E)) (h24 : n ≤ 24) (hst : StOk n st) (hx : SeqIs A x (st.map en)) {l : List (Nat × Nat)} {r : List AV} (hl : l.length + (r.length + 1) < 1000000) (hy : SeqIs A y (l.map en ++ z :: r)) (hr : RowW E st l)
    (hz : G_is_turn [.obj w, .tup ((walkM st l).map en), z] A = .ok (.bl false) A) :
    G_walked [.obj w, x, y] A = .exc ⟨23, [.int (l.length : Nat)]⟩ A := by
  have hs := need_standing_ok hw h24 hx hst
  unfold G_walked F_walked
  refine rd_eq ?_
  simp? only [hs, is_list_seq hy, hx.tuple]
  refine wp_nxt ?_
  refine wp_enum (l.map en ++ z :: r) id (A1 := A) (x := y) (by simp? only []) (by rw [List.map_id]; exact hy) (by rw [List.length_append, List.length_map, List.length_cons]; exact hl) (fun i ρ B => i ≤ l.length ∧ ∃ o1 o2 : Option AV, ρ = [some (.obj w), some x, some y, some (.tup ((walkM st (l.take i)).map en)), o1, o2] ∧ B = A) ⟨Nat.zero_le _, _, _, rfl, rfl⟩ (by rintro i ρ B ⟨_, _, _, _, rfl⟩; rw [List.map_id]; exact hy) ?_ ?_
  · rintro i u ρ B hu ⟨hi, o1, o2, rfl, rfl⟩
    by_cases zl : i < l.length
    · rw [List.getElem?_append_left (by rw [List.length_map]; exact zl), List.getElem?_map, List.getElem?_eq_getElem zl] at hu
      cases hu
      have ht : l[i]? = some l[i] := List.getElem?_eq_getElem zl
      obtain ⟨h1, h2⟩ := hr i _ ht
      have e := done_at_ok hE h1 h24 hA hw (walkM_ok hst (l.take i)) h2 (i := ((i : Nat) : Int))
      have e2 : l.take (i + 1) = l.take i ++ [l[i]] := by rw [List.take_add_one, ht]; rfl
      rw [e2, walkM_snoc]
      simp? only [pairI, id, en_pair, en_nat, e]
      exact ⟨zl, _, _, rfl, trivial⟩
    · have e0 : i = l.length := by omega
      subst e0
      rw [List.getElem?_append_right (by rw [List.length_map]; exact Nat.le_refl _), List.length_map, Nat.sub_self] at hu
      cases hu
      rw [List.take_length]
      have e := done_at_no (i := ((l.length : Nat) : Int)) hz
      simp? only [pairI, id, e, gcE_same]
  · rintro ρ B ⟨hi, _⟩
    rw [List.length_append, List.length_map, List.length_cons] at hi
    omega
theorem walked_none (hw : WebAt A w (mkW n E)) (h24 : n ≤ 24) (hst : StOk n st) (hx : SeqIs A x (st.map en)) (hy : G_is_list [y] A = .ok (.bl false) A) : G_walked [.obj w, x, y] A = .exc ⟨23, [.non]⟩ A := by
  have hs := need_standing_ok hw h24 hx hst
  unfold G_walked F_walked
  refine rd_eq ?_
  simp? only [hs, hy, x_raise1, gcE_same]
end

/-! ### k05: worlds, lists -/
theorem coins_w {k : Nat} {A : AH} (hA : Wrl k A) {n : Nat} (hk : k + n < 100000) : ∃ (A' : AH) (st : List Nat), Wrl (k + n) A' ∧ Kept A A' ∧ A'.length = A.length ∧ StOk n st ∧ G__law_coins [.obj 0, .int (n : Nat)] A = .ok (.tup (st.map en)) A' := by
  obtain ⟨D, B, rfl, hm⟩ := hA.ex
  obtain ⟨D', st, hM, hst, e⟩ := law_coins_ok hm hk hA.clo
  have l1 := hm.len
  have l2 := hM.len
  refine ⟨D' ++ B, st, ⟨⟨D', B, rfl, hM⟩, hM.clo.mpr (hm.clo.mp hA.clo)⟩, ?_, by rw [List.length_append, List.length_append, l1, l2], hst, e⟩
  have := kept_mat (B := B) (X := []) hm hM
  rwa [List.append_nil] at this
theorem SeqIs.stay {A A' : AH} {x : AV} {xs : List AV} (h : SeqIs A x xs) (s : Stay A A') : SeqIs A' x xs := by
  cases h with
  | tup h => exact .tup h
  | lst n h hA => exact .lst n h (s _ _ hA)

/-! ### lists at their end -/
theorem at_last {α : Type} [Enc α] {l : List α} {x : α} {A : AH} : resI (atI ((l ++ [x]).map en) (-1)) A = .ok (en x) A := by
  rw [List.map_append, List.map_cons, List.map_nil, L2.atI_last]
  rfl
theorem app_en {α : Type} [Enc α] {l : List α} {x : α} {v : AV} (h : en x = v) : l.map en ++ [v] = (l ++ [x]).map en := by
  rw [List.map_append, ← h]
  rfl
theorem app_e {l : List (Nat × Nat)} {x : Nat × Nat} : l.map en ++ [(en x : AV)] = (l ++ [x]).map en := app_en rfl

theorem atI_get {xs : List AV} {v : Nat} {x : AV} {A : AH} (h : xs[v]? = some x) : resI (atI xs ((v : Nat) : Int)) A = .ok x A := by
  have hv := (List.getElem?_eq_some_iff.mp h).1
  rw [atI_nat hv, h]
  rfl
theorem mapO2 {f : AV → Option PyData} {x y : AV} {d e : PyData} (h : f x = some d) (k : f y = some e) : mapO f [x, y] = some [d, e] := by
  simp [mapO, h, k]
theorem mapO1 {f : AV → Option PyData} {x : AV} {d : PyData} (h : f x = some d) : mapO f [x] = some [d] := by
  simp [mapO, h]
theorem toP_word {w : Str} {A : AH} {x : AV} {d : PyData} (hw : PyData.strOk w = true) (h : AV.toP A 15 x = some d) : AV.toP A 16 (.tup [.str w, x]) = some (.tuple [.str w, d]) := by
  have e : AV.toP A 15 (.str w) = some (.str w) := toP_str hw
  show (mapO (AV.toP A 15) [.str w, x]).map PyData.tuple = _
  rw [mapO2 e h]
  rfl

/-! ### webs of written ties -/
theorem init_lit {k n : Nat} {E : List (Nat × Nat)} (h : TiesOk n E) (h1 : 1 ≤ n) (h24 : n ≤ 24) {A : AH} (hA : Wrl k A) : G_Web___init__ [.obj (A.length + 1), .int (n : Nat), .obj A.length] (A ++ [.lst (E.map en), .slt 0 []]) = .ok .non (A ++ [.lst (E.map en), webO (mkW n E)]) := by
  have W1 : Wrl k (A ++ [.lst (E.map en)]) := hA.lst (by simp? [])
  have := web_init h h1 h24 (x := .obj A.length) (A := A ++ [.lst (E.map en)]) (.lst _ rfl h_at0) W1.clo
  simpa only [List.length_append, List.length_cons, List.length_nil, Nat.zero_add, List.append_assoc, List.cons_append, List.nil_append] using this
theorem lit_w {k n : Nat} {E : List (Nat × Nat)} {A : AH} (hA : Wrl k A) : Wrl k (A ++ [.lst (E.map en), webO (mkW n E)]) := hA.apps (by simp? [webO])
theorem lit_at {n : Nat} {E : List (Nat × Nat)} {A : AH} : WebAt (A ++ [.lst (E.map en), webO (mkW n E)]) (A.length + 1) (mkW n E) := ⟨by
  rw [List.getElem?_append_right (by omega), Nat.add_sub_cancel_left]
  rfl⟩

/-! ### k07: rows the other way -/
theorem walkM_cons {st : List Nat} {t : Nat × Nat} {l : List (Nat × Nat)} : walkM st (t :: l) = walkM (turnedM st [t.1, t.2]) l := rfl
theorem walkM_app {st : List Nat} {l r : List (Nat × Nat)} : walkM st (l ++ r) = walkM (walkM st l) r := by
  unfold walkM
  rw [List.foldl_append]
theorem turned_back {n : Nat} {st : List Nat} {a b : Nat} (h : StOk n st) : turnedM (turnedM st [a, b]) [a, b] = st := by
  have hl := h.len
  have hl2 := (turnedM_ok (t := [a, b]) h).len
  refine List.ext_getElem (by unfold turnedM; simp) fun i h1 h2 => ?_
  have e1 : (turnedM (turnedM st [a, b]) [a, b])[i] = gt (turnedM (turnedM st [a, b]) [a, b]) i := (gt_of (List.getElem?_eq_getElem h1)).symm
  have e2 : st[i] = gt st i := (gt_of (List.getElem?_eq_getElem h2)).symm
  have hc : gt st i ≤ 1 := by rw [← e2]; exact h.le _ (List.getElem_mem _)
  rw [e1, e2, gt_turned (by omega), gt_turned (by omega)]
  split
  · omega
  · rfl
theorem RowW.cons {E : List (Nat × Nat)} {st : List Nat} {t : Nat × Nat} {l : List (Nat × Nat)} (ht : t ∈ E) (e : gt st t.1 = gt st t.2) (h : RowW E (turnedM st [t.1, t.2]) l) : RowW E st (t :: l) := fun i u hu => by
  cases i with
  | zero =>
    cases hu
    exact ⟨ht, e⟩
  | succ i =>
    rw [List.getElem?_cons_succ] at hu
    rw [List.take_succ_cons, walkM_cons]
    exact h i u hu
theorem RowW.un {E : List (Nat × Nat)} {st : List Nat} {t : Nat × Nat} {l : List (Nat × Nat)} (h : RowW E st (t :: l)) : t ∈ E ∧ gt st t.1 = gt st t.2 ∧ RowW E (turnedM st [t.1, t.2]) l := by
  obtain ⟨h1, h2⟩ := h 0 t rfl
  refine ⟨h1, h2, fun i u hu => ?_⟩
  have := h (i + 1) u (by rw [List.getElem?_cons_succ]; exact hu)
  rw [List.take_succ_cons, walkM_cons] at this
  exact this
theorem row_back {n : Nat} {E : List (Nat × Nat)} (hE : TiesOk n E) : ∀ (l : List (Nat × Nat)) {st : List Nat}, StOk n st → RowW E st l → RowW E (walkM st l) l.reverse ∧ walkM (walkM st l) l.reverse = st
  | [], st, _, _ => ⟨RowW.nil, rfl⟩
  | t :: l, st, hst, h => by
    obtain ⟨ht, he, h'⟩ := h.un
    have hlt := hE.lt t ht
    have hl := hst.len
    obtain ⟨r1, r2⟩ := row_back hE l (turnedM_ok hst) h'
    rw [walkM_cons, List.reverse_cons]
    refine ⟨r1.snoc ht ?_, ?_⟩
    · rw [r2, gt_turned (by omega), gt_turned (by omega), he]
      simp
    · rw [walkM_app, r2]
      exact turned_back hst
theorem RowW.take {E : List (Nat × Nat)} {st : List Nat} {l : List (Nat × Nat)} (h : RowW E st l) (k : Nat) : RowW E st (l.take k) := fun i t hi => by
  have hi2 := (List.getElem?_eq_some_iff.mp hi).1
  rw [List.length_take] at hi2
  rw [List.getElem?_take_of_lt (by omega)] at hi
  rw [List.take_take, Nat.min_eq_left (by omega)]
  exact h i t hi
theorem SeqIs.list {A : AH} {x : AV} {xs : List AV} (h : SeqIs A x xs) : gList [x] A = .ok (.obj A.length) (A ++ [.lst xs]) := by
  cases h with
  | tup h =>
    subst h
    rw [gList_tup]
  | lst n h hA =>
    subst h
    rw [gList_obj, hA, gListO_lst]
theorem gNe_lstsE {α : Type} [Enc α] [DecidableEq α] [EncEq α] {n k : Nat} {l m : List α} {A : AH} (hl : A[n]? = some (.lst (l.map en))) (hm : A[k]? = some (.lst (m.map en))) (h : Enc.dep α < 15) : gNe (.obj n) (.obj k) A = .ok (.bl (!decide (l = m))) A := by
  unfold gNe
  rw [toP_lstE hl h, toP_lstE hm h]
  show Res.ok (AV.bl (!PyData.eqv (.list (l.map pd)) (.list (m.map pd)))) A = _
  rw [PyData.eqv, eqvAll_map]
def kRev (x : AV) (A : AH) : Res AV := match x with
  | .tup xs => .ok (.tup xs.reverse) A
  | x => match lsAt A x with
    | some xs => .ok (.obj A.length) (A ++ [.lst xs.reverse])
    | none => .er
theorem x_rev {f : FE} {ρ : Rho} {A : AH} : fRev f ρ A = (f ρ A).bind kRev := by
  unfold fRev kRev
  rfl
theorem rev_obj {n : Nat} {xs : List AV} {A : AH} (h : A[n]? = some (.lst xs)) : kRev (.obj n) A = .ok (.obj A.length) (A ++ [.lst xs.reverse]) := by
  unfold kRev lsAt
  simp only [h]
/-! what is no turn -/
structure Bad7 (n : Nat) (A : AH) (z : AV) : Prop where
  tie : ∀ B : AH, Stay A B → G_is_tie [z, .int (n : Nat)] B = .ok (.bl false) B
theorem tie_non {m : Int} {A : AH} : G_is_tie [.non, .int m] A = .ok (.bl false) A := by
  unfold G_is_tie F_is_tie
  refine rd_eq ?_
  simp? only []
  exact gc_same rfl
theorem tie_int {i m : Int} {A : AH} : G_is_tie [.int i, .int m] A = .ok (.bl false) A := by
  unfold G_is_tie F_is_tie
  refine rd_eq ?_
  simp? only []
  exact gc_same rfl
theorem tie_str {s : Str} {m : Int} {A : AH} : G_is_tie [.str s, .int m] A = .ok (.bl false) A := by
  unfold G_is_tie F_is_tie
  refine rd_eq ?_
  simp? only []
  exact gc_same rfl
theorem tie_lst {k : Nat} {xs : List AV} {m : Int} {A : AH} (h : A[k]? = some (.lst xs)) : G_is_tie [.obj k, .int m] A = .ok (.bl false) A := by
  unfold G_is_tie F_is_tie
  refine rd_eq ?_
  simp? only [h]
  exact gc_same rfl
theorem tie_b1 {b : Bool} {m : Int} {A : AH} : G_is_tie [.tup [.bl b, .int 1], .int m] A = .ok (.bl false) A := by
  unfold G_is_tie F_is_tie
  refine rd_eq ?_
  simp? only [among_no whole_bl]
  exact gc_same rfl
def odds7 (n p : Nat) : List AV := [.non, .int 5, .tup [.int 0, .int 0], .obj p, .tup [.int 0, .int (n : Nat)], .tup [.bl true, .int 1], .str "01", .tup [.int 1, .int 0]]
theorem odds7_ok {n p : Nat} {A : AH} (hp : A[p]? = some (.lst [.int 0, .int 1])) : ∀ z ∈ odds7 n p, Bad7 n A z := by
  intro z hz
  unfold odds7 at hz
  simp only [List.mem_cons, List.not_mem_nil, or_false] at hz
  rcases hz with rfl | rfl | rfl | rfl | rfl | rfl | rfl | rfl
  · exact ⟨fun B _ => tie_non⟩
  · exact ⟨fun B _ => tie_int⟩
  · exact ⟨fun B _ => by rw [is_tie_pair]; simp⟩
  · exact ⟨fun B s => tie_lst (s _ _ hp)⟩
  · exact ⟨fun B _ => by
      rw [is_tie_pair]
      have : decide (((n : Nat) : Int) ≤ ((n : Nat) : Int) - 1) = false := decide_eq_false (by omega)
      rw [this, Bool.and_false]⟩
  · exact ⟨fun B _ => tie_b1⟩
  · exact ⟨fun B _ => tie_str⟩
  · exact ⟨fun B _ => by
      rw [is_tie_pair]
      have : decide ((1 : Int) + 1 ≤ 0) = false := rfl
      rw [this, Bool.and_false, Bool.false_and]⟩
theorem Bad7.turn {n : Nat} {E : List (Nat × Nat)} {A B : AH} {x z : AV} {w : Nat} (h : Bad7 n A z) (s : Stay A B) (hw : WebAt B w (mkW n E)) : G_is_turn [.obj w, x, z] B = .ok (.bl false) B := by
  have e0 : (mkW n E).n = n := rfl
  unfold G_is_turn F_is_turn
  refine rd_eq ?_
  simp? only [hw.get, ts_many, e0, h.tie B s]
  exact gc_same rfl
theorem odds7_clo {n p k : Nat} (hp : p < k) : ∀ z ∈ odds7 n p, cloV k z = true := by
  intro z hz
  unfold odds7 at hz
  simp only [List.mem_cons, List.not_mem_nil, or_false] at hz
  rcases hz with rfl | rfl | rfl | rfl | rfl | rfl | rfl | rfl <;> simp? []
  exact decide_eq_true hp
theorem gNe_word {w : Str} {d : PyData} {x : AV} {A : AH} (hw : PyData.strOk w = true) (h : AV.toP A 15 x = some d) (hd : PyData.eqv d d = true) : gNe (.tup [.str w, x]) (.tup [.str w, x]) A = .ok (.bl false) A := by
  unfold gNe
  rw [toP_word hw h]
  show Res.ok (AV.bl (!PyData.eqv (.tuple [.str w, d]) (.tuple [.str w, d]))) A = _
  have : PyData.eqv (.tuple [.str w, d]) (.tuple [.str w, d]) = true := by
    rw [PyData.eqv, PyData.eqvAll, PyData.eqvAll, PyData.eqvAll, hd, PyData.eqv]
    simp
  rw [this]
  rfl
def wrongs (p : Nat) : List AV := [.non, .int 5, .str "01", .obj p, .bl true]
theorem is_list_non {A : AH} : G_is_list [.non] A = .ok (.bl false) A := by
  unfold G_is_list F_is_list
  refine rd_eq ?_
  simp? only []
  exact gc_same rfl
theorem is_list_int {i : Int} {A : AH} : G_is_list [.int i] A = .ok (.bl false) A := by
  unfold G_is_list F_is_list
  refine rd_eq ?_
  simp? only []
  exact gc_same rfl
theorem is_list_str {i : Str} {A : AH} : G_is_list [.str i] A = .ok (.bl false) A := by
  unfold G_is_list F_is_list
  refine rd_eq ?_
  simp? only []
  exact gc_same rfl
theorem is_list_bl {i : Bool} {A : AH} : G_is_list [.bl i] A = .ok (.bl false) A := by
  unfold G_is_list F_is_list
  refine rd_eq ?_
  simp? only []
  exact gc_same rfl
theorem is_list_dk {k : Nat} {xs : List (Key × AV)} {A : AH} (h : A[k]? = some (.dK xs)) : G_is_list [.obj k] A = .ok (.bl false) A := by
  unfold G_is_list F_is_list
  refine rd_eq ?_
  simp? only [h]
  exact gc_same rfl
theorem wrongs_ok {p : Nat} {A : AH} (hp : A[p]? = some (.dK [])) : ∀ z ∈ wrongs p, G_is_list [z] A = .ok (.bl false) A := by
  intro z hz
  unfold wrongs at hz
  simp only [List.mem_cons, List.not_mem_nil, or_false] at hz
  rcases hz with rfl | rfl | rfl | rfl | rfl
  · exact is_list_non
  · exact is_list_int
  · exact is_list_str
  · exact is_list_dk hp
  · exact is_list_bl
theorem gEq_word {w : Str} {d : PyData} {x : AV} {A : AH} (hw : PyData.strOk w = true) (h : AV.toP A 15 x = some d) (hd : PyData.eqv d d = true) : gEq (.tup [.str w, x]) (.tup [.str w, x]) A = .ok (.bl true) A := by
  unfold gEq
  rw [toP_word hw h]
  show Res.ok (AV.bl (PyData.eqv (.tuple [.str w, d]) (.tuple [.str w, d]))) A = _
  have : PyData.eqv (.tuple [.str w, d]) (.tuple [.str w, d]) = true := by
    rw [PyData.eqv, PyData.eqvAll, PyData.eqvAll, PyData.eqvAll, hd, PyData.eqv]
    simp
  rw [this]

/-! ### lists repeated -/
def repO (o : Option (List AV)) (k : Int) (A : AH) : Res AV := match o with
  | some xs => if -1000000 < k ∧ k < 1000000 ∧ xs.length * k.toNat < big then .ok (.obj A.length) (A ++ [.lst (List.replicate k.toNat xs).flatten]) else .er
  | none => .er
theorem gMul_obj {n : Nat} {k : Int} {A : AH} : gMul (.obj n) (.int k) A = repO (Dn.lstO A[n]?) k A := by
  show gRep (.obj n) (.int k) A = _
  unfold gRep repO
  simp only [lstAt_obj]
  cases Dn.lstO A[n]? <;> rfl
theorem flat_rep {α : Type} {v : α} : ∀ k : Nat, (List.replicate k [v]).flatten = List.replicate k v
  | 0 => rfl
  | k + 1 => by rw [List.replicate_succ, List.flatten_cons, flat_rep k, List.replicate_succ]; rfl
theorem repO_one {v : AV} {k : Nat} (h : k < 1000000) {A : AH} : repO (some [v]) ((k : Nat) : Int) A = .ok (.obj A.length) (A ++ [.lst (List.replicate k v)]) := by
  unfold repO
  simp only
  rw [if_pos ⟨by omega, by omega, by rw [Int.toNat_natCast]; show 1 * k < 1000000; omega⟩, Int.toNat_natCast, flat_rep]

theorem isTrueR_any {r : Res AV} (h : ∃ A, r = .ok (.bl true) A) : isTrueR r = true := by
  obtain ⟨A, rfl⟩ := h
  rfl
def Inv7 (ns : List Int) (k : Nat) (ρ : Rho) (A : AH) : Prop := ∃ (o2 o3 o4 o5 o6 o7 o8 o9 o10 o11 o12 o13 o14 o15 o16 o17 : Option AV), ρ = [some (.scr ns), some (.obj 0), o2, o3, o4, o5, o6, o7, o8, o9, o10, o11, o12, o13, o14, o15, o16, o17, none] ∧ Wrl k A
theorem law_true (ns : List Int) (hl : ns.length ≤ 63) : isTrueR (G_law [.scr ns] []) = true := by
  obtain ⟨D0, hM0, eB⟩ := begun hl
  have W0 : Wrl 0 D0 := ⟨⟨D0, [], by simp, hM0⟩, by have := hM0.clo (B := []); rw [List.append_nil] at this; exact this.mpr rfl⟩
  unfold G_law F_law
  refine rd_any (Φ := fun r => isTrueR r = true) ?_
  simp? only [eB]
  refine wp_cut (Inv7 ns 10000) ?_ ?_
  · refine wp_for [4, 8, 14] en (A1 := D0) (by simp? only []; rfl) (fun i ρ C => Inv7 ns (i * 2000) ρ C) ⟨none, none, none, none, none, none, none, none, none, none, none, none, none, none, none, none, rfl, by simpa using W0⟩ ?_ ?_
    · rintro i m ρ A hm ⟨o2, o3, o4, o5, o6, o7, o8, o9, o10, o11, o12, o13, o14, o15, o16, o17, rfl, hA⟩
      have him := (List.getElem?_eq_some_iff.mp hm).1
      have hm2 : 1 ≤ m ∧ m ≤ 14 := by
        have := List.mem_of_getElem? hm
        simp at this
        omega
      simp only [List.length_cons, List.length_nil] at him
      obtain ⟨A1, n, E, W1, K1, l1, n1, nm, hE, e1⟩ := web_w hA hm2.1 (by omega) (by omega)
      have n24 : n ≤ 24 := by omega
      have ew := web_init hE n1 n24 (x := .tup (E.map en)) (A := A1) .refl W1.clo
      obtain ⟨A2, hA2⟩ : ∃ A2, A2 = A1 ++ [webO (mkW n E)] := ⟨_, rfl⟩
      have W2 : Wrl (i * 2000 + 800) A2 := by rw [hA2]; exact W1.web
      have hw2 : WebAt A2 A1.length (mkW n E) := by rw [hA2]; exact web_new
      obtain ⟨A3, st, W3, K3, l3, hst, e3⟩ := coins_w W2 (n := n) (by omega)
      have hw3 : WebAt A3 A1.length (mkW n E) := hw2.kept K3 W1.len
      rw [← hA2] at ew
      obtain ⟨D, B, rfl, hM⟩ := W3.ex
      have hD := hM.len
      have hcB := hM.clo.mp W3.clo
      simp? only [en_nat, e1, ew, e3, hD]
      have hcc : ∀ {k : Nat} {D : AH} (hM : Mat k D) (X : AH), cloA 0 X = true → Clo (D ++ (B ++ X)) := fun hM X hX => by
        rw [hM.clo, cloA_app, cloz hX, Bool.and_true]
        exact cloA_more (by rw [List.length_append]; omega) hcB
      obtain ⟨v, D4, hv, hM4, e4⟩ := draw (B := B ++ [.lst []]) hM (by omega) (hcc hM _ rfl) (m := 31) (by omega) (by omega)
      have e4 : G__law_draw [.obj 0, .int 31] (D ++ (B ++ [.lst []])) = .ok (.int (v : Nat)) (D4 ++ (B ++ [.lst []])) := e4
      have hD4 := hM4.len
      obtain ⟨k0, hk0⟩ : ∃ k0, k0 = i * 2000 + 800 + n + 1 := ⟨_, rfl⟩
      rw [← hk0] at hM4
      refine wp_nxt ?_
      refine wp_for (List.range v) en (A1 := D4 ++ (B ++ [.lst []])) (by simp? only [e4, kRange1_nat (show v < 1000000 by omega)])
        (fun j ρ C => ∃ (D' : AH) (row : List (Nat × Nat)) (G : AH) (o9 o10 : Option AV), ρ = [some (.scr ns), some (.obj 0), some (.int (m : Nat)), some (.int (n : Nat)), some (.tup (E.map en)), some (.obj A1.length), some (.tup (st.map en)), some (.obj (4 + B.length)), some (.tup ((walkM st row).map en)), o9, o10, o11, o12, o13, o14, o15, o16, o17, none] ∧
          C = D' ++ (B ++ .lst (row.map en) :: G) ∧ Mat (k0 + j) D' ∧ cloA 0 G = true ∧ RowW E st row ∧ row.length ≤ j)
        ⟨D4, [], [], _, _, rfl, rfl, hM4, rfl, .nil, Nat.le_refl _⟩ ?_ ?_
      · rintro j p ρ C hp ⟨D', row, G, o9, o10, rfl, rfl, hM', hG, hR, hl⟩
        have hj := (List.getElem?_eq_some_iff.mp hp).1
        rw [List.length_range] at hj
        have hD' := hM'.len
        have hnow := walkM_ok hst row
        have hc1 : ∀ X : AH, cloA 0 X = true → cloA 0 (AO.lst (row.map en) :: X) = true := fun X hX => by simp? [hX]
        have e1 := law_turns_ok hE hnow (hcc hM' _ (hc1 G hG))
        simp only [List.length_append, List.length_cons, hD', List.append_assoc, List.cons_append] at e1
        have hG2 : cloA 0 (G ++ [.lst ((turnsM E (walkM st row)).map en), .lst []]) = true := by
          simp? [hG]
        simp? only [e1, hD']
        rw [gNe_lst0 (l := turnsM E (walkM st row)) (by simp? only [d_at hD']) (by simp? only [d_at hD'])]
        cases er : (turnsM E (walkM st row)).isEmpty with
        | true =>
          simp? only []
          exact ⟨D', row, G ++ [.lst ((turnsM E (walkM st row)).map en), .lst []], _, _, rfl, rfl, hM'.mono (by omega), hG2, hR, by omega⟩
        | false =>
          have hr : turnsM E (walkM st row) ≠ [] := fun z => by rw [z] at er; cases er
          have hr0 := List.length_pos_iff.mpr hr
          have hfew := hE.few
          have htl : (turnsM E (walkM st row)).length ≤ E.length := List.length_filter_le _ _
          obtain ⟨u, D2, hu, hM2, eD⟩ := draw hM' (by omega) (hcc hM' _ (hc1 _ hG2)) hr0 (by omega)
          have hD2 := hM2.len
          have htm : gt (turnsM E (walkM st row)) u ∈ turnsM E (walkM st row) := gt_mem hu
          have ix := fun A : AH => ix_ok (A := A) hu
          revert htm ix
          generalize gt (turnsM E (walkM st row)) u = t
          intro htm ix
          have htE := List.mem_filter.mp htm
          have hee : gt (walkM st row) t.1 = gt (walkM st row) t.2 := by simpa using htE.2
          have hc3 : Clo (D2 ++ (B ++ .lst ((row ++ [t]).map en) :: (G ++ [.lst ((turnsM E (walkM st row)).map en), .lst []]))) := hcc hM2 _ (by simp? [hG])
          have e5 : G__law_turned [.tup ((walkM st row).map en), en t] (D2 ++ (B ++ .lst ((row ++ [t]).map en) :: (G ++ [.lst ((turnsM E (walkM st row)).map en), .lst []]))) = .ok (.tup ((turnedM (walkM st row) [t.1, t.2]).map en)) (D2 ++ (B ++ .lst ((row ++ [t]).map en) :: (G ++ [.lst ((turnsM E (walkM st row)).map en), .lst []]))) :=
            law_turned_ok (t := [t.1, t.2]) hnow n24 hc3
          have hfl : row.length < 1000000 := by omega
          simp? only [d_at hD', d_at hD2, d_set hD2, eD, ix, hfl, app_e, at_last, e5]
          refine ⟨D2, row ++ [t], G ++ [.lst ((turnsM E (walkM st row)).map en), .lst []], some (en p), _, by rw [walkM_snoc], rfl, hM2, hG2, hR.snoc htE.1 hee, by rw [List.length_append]; simp; omega⟩
      · rintro ρ C ⟨D', row, G, o9, o10, rfl, rfl, hM', hG, hR, hl⟩
        rw [List.length_range] at hM' hl
        have hD' := hM'.len
        have hc1 : ∀ X : AH, cloA 0 X = true → cloA 0 (AO.lst (row.map en) :: X) = true := fun X hX => by simp? [hX]
        obtain ⟨C, hC⟩ : ∃ C, C = D' ++ (B ++ .lst (row.map en) :: G) := ⟨_, rfl⟩
        have WC : Wrl (k0 + v) C := by rw [hC]; exact ⟨⟨D', _, rfl, hM'⟩, hcc hM' _ (hc1 G hG)⟩
        have hwC : WebAt C A1.length (mkW n E) := by rw [hC]; exact hw3.kept (kept_mat hM hM') W1.len
        obtain ⟨R, hR0⟩ : ∃ R, R = 4 + B.length := ⟨_, rfl⟩
        have hRC : C[R]? = some (.lst (row.map en)) := by rw [hC, hR0]; simp? only [d_at hD']
        have hR4 : 4 ≤ R := by omega
        rw [← hC, ← hR0]
        have hRl : R < C.length := (List.getElem?_eq_some_iff.mp hRC).1
        clear hC hR0
        obtain ⟨K, hK⟩ : ∃ K, K = k0 + v := ⟨_, rfl⟩
        rw [← hK] at WC
        have hKb : K ≤ i * 2000 + 900 := by omega
        have rl60 : row.length ≤ 31 := by omega
        have hend := walkM_ok hst row
        obtain ⟨C1, hC1⟩ : ∃ C1, C1 = C ++ [.lst [.obj R, .tup (row.map en)]] := ⟨_, rfl⟩
        have W1' : Wrl K C1 := by
          rw [hC1]
          refine WC.lst ?_
          simp? []
          rw [decide_eq_true hRl]
        obtain ⟨u, C2, hu, WC2, K2', l2', e6⟩ := W1'.draw (by omega) (m := 2) (by omega) (by omega)
        have e6 : G__law_draw [.obj 0, .int 2] C1 = .ok (.int (u : Nat)) C2 := e6
        have hwC2 : WebAt C2 A1.length (mkW n E) := WebAt.kept (by rw [hC1]; exact hwC.app _) K2' W1.len
        have hR2 : C2[R]? = some (.lst (row.map en)) := K2' _ _ hR4 (by rw [hC1]; exact h_get hRC _)
        have at2 : C2[C.length]? = some (.lst [.obj R, .tup (row.map en)]) := K2' _ _ WC.len (by rw [hC1]; exact h_at0)
        obtain ⟨y, hy, sy2⟩ : ∃ y, [AV.obj R, AV.tup (row.map en)][u]? = some y ∧ SeqIs C2 y (row.map en) := by
          have hv2 : u = 0 ∨ u = 1 := by omega
          rcases hv2 with rfl | rfl
          · exact ⟨_, rfl, .lst _ rfl hR2⟩
          · exact ⟨_, rfl, .refl⟩
        obtain ⟨C3, hC3⟩ : ∃ C3, C3 = C2 ++ [.lst (row.map en)] := ⟨_, rfl⟩
        have W3' : Wrl K.succ C3 := by rw [hC3]; exact WC2.lst (by simp? [])
        obtain ⟨C4, hC4⟩ : ∃ C4, C4 = C3 ++ [.lst (st.map en)] := ⟨_, rfl⟩
        have W4' : Wrl K.succ C4 := by rw [hC4]; exact W3'.lst (by simp? [])
        have s24 : Stay C2 C4 := by rw [hC4, hC3]; exact (Stay.app _ _).trans (Stay.app _ _)
        have hw4 : WebAt C4 A1.length (mkW n E) := hwC2.stay s24
        have cp4 : C4[C2.length]? = some (.lst (row.map en)) := by rw [hC4]; exact h_get (by rw [hC3]; exact h_at0) _
        have co4 : C4[C3.length]? = some (.lst (st.map en)) := by rw [hC4]; exact h_at0
        have sy4 := SeqIs.stay sy2 s24
        have l3' : C3.length = C2.length + 1 := by rw [hC3, List.length_append]; rfl
        rw [l3'] at co4
        have h4' : C2 ++ [AO.lst (row.map en), .lst (st.map en)] = C4 := by rw [hC4, hC3, List.append_assoc]; rfl
        have ewk := walked_ok hE W4'.clo hw4 n24 hst (.lst _ rfl co4) (l := row) (by omega) sy4 hR
        have ow : okR (pd (walkM st row)) = true := okR_nats (fun x hx => by have := hend.le x hx; omega) (by rw [hend.len]; omega)
        have rw1 : ∀ A, gRepr [.tup ((walkM st row).map en)] A = .ok (.str (pd (walkM st row)).shown) A := fun A => repr_en (x := walkM st row) ow
        simp? only [hRC]
        rw [← hC1]
        obtain ⟨C5, hC5⟩ : ∃ C5, C5 = C4 ++ [.lst (row.map en)] := ⟨_, rfl⟩
        have W5' : Wrl K.succ C5 := by rw [hC5]; exact W4'.lst (by simp? [])
        have ne5 : gNe (.obj C4.length) (.obj C2.length) C5 = .ok (.bl (!decide (row = row))) C5 := gNe_lsts (by rw [hC5]; exact h_at0) (by rw [hC5]; exact h_get cp4 _)
        obtain ⟨C6, hC6⟩ : ∃ C6, C6 = C5 ++ [.lst (st.map en)] := ⟨_, rfl⟩
        have W6' : Wrl K.succ C6 := by rw [hC6]; exact W5'.lst (by simp? [])
        have ne6 : gNe (.obj (C2.length + 1)) (.obj C5.length) C6 = .ok (.bl (!decide (st = st))) C6 := gNe_lsts (by rw [hC6, hC5]; exact h_get (h_get co4 _) _) (by rw [hC6]; exact h_at0)
        obtain ⟨C7, hC7⟩ : ∃ C7, C7 = C6 ++ [.lst (row.reverse.map en)] := ⟨_, rfl⟩
        have W7' : Wrl K.succ C7 := by rw [hC7]; exact W6'.lst (by simp? [])
        have s47 : Stay C4 C7 := by rw [hC7, hC6, hC5]; exact ((Stay.app _ _).trans (Stay.app _ _)).trans (Stay.app _ _)
        have hw7 : WebAt C7 A1.length (mkW n E) := hw4.stay s47
        have hR6 : C6[R]? = some (.lst (row.map en)) := by rw [hC6, hC5]; exact h_get (h_get (s24 _ _ hR2) _) _
        obtain ⟨rb1, rb2⟩ := row_back hE row hst hR
        have ewb := walked_ok hE W7'.clo hw7 n24 hend (x := .tup ((walkM st row).map en)) .refl (l := row.reverse) (by rw [List.length_reverse]; omega) (y := .obj C6.length) (.lst _ rfl (by rw [hC7]; exact h_at0)) rb1
        rw [rb2] at ewb
        have h7' : C6 ++ [AO.lst ((row.map en).reverse)] = C7 := by rw [hC7, List.map_reverse]
        have ne7 : ∀ A, gNe (.tup (st.map en)) (.tup (st.map en)) A = .ok (.bl (!decide (st = st))) A := fun A => gNe_en (x := st) (y := st)
        simp? only [e6, at2, atI_get hy, hR2]
        rw [h4']
        simp? only [ewk, rw1, gNeS_str, SeqIs.list sy4]
        rw [← hC5]
        simp? only [ne5]
        rw [← hC6]
        simp? only [ne6, x_rev, rev_obj hR6]
        rw [h7']
        have hR7 : C7[R]? = some (.lst (row.map en)) := by rw [hC7]; exact h_get hR6 _
        obtain ⟨kk, C8, hkk, W8', K8, l8, e8⟩ := W7'.draw (by omega) (m := row.length + 1) (by omega) (by omega)
        have hw8 : WebAt C8 A1.length (mkW n E) := hw7.kept K8 W1.len
        have hR8 : C8[R]? = some (.lst (row.map en)) := K8 _ _ hR4 hR7
        obtain ⟨C9, hC9⟩ : ∃ C9, C9 = C8 ++ [.lst [.int 0, .int 1], .lst (odds7 n C8.length)] := ⟨_, rfl⟩
        have W9' : Wrl (K.succ + 1) C9 := by
          rw [hC9]
          refine W8'.apps ?_
          have hc : cloVs (C8.length + 2) (odds7 n C8.length) = true := by
            unfold odds7
            simp? []
            rw [decide_eq_true (by omega)]
            rfl
          show cloA (C8.length + 2) _ = true
          simp? [clo_cons, co_lst, hc]
        have p9 : C9[C8.length]? = some (.lst [.int 0, .int 1]) := by rw [hC9]; exact h_at0
        have o9' : C9[C8.length + 1]? = some (.lst (odds7 n C8.length)) := by
          rw [hC9, List.getElem?_append_right (by omega), Nat.add_sub_cancel_left]
          rfl
        obtain ⟨q, C10, hq, W10', K10, l10, e10⟩ := W9'.draw (by omega) (m := 8) (by omega) (by omega)
        have e10 : G__law_draw [.obj 0, .int 8] C9 = .ok (.int (q : Nat)) C10 := e10
        have hl8 : 4 ≤ C8.length := W8'.len
        have p10 : C10[C8.length]? = some (.lst [.int 0, .int 1]) := K10 _ _ hl8 p9
        have o10' : C10[C8.length + 1]? = some (.lst (odds7 n C8.length)) := K10 _ _ (by omega) o9'
        have hw10 : WebAt C10 A1.length (mkW n E) := WebAt.kept (by rw [hC9]; exact hw8.app _) K10 W1.len
        have hR10 : C10[R]? = some (.lst (row.map en)) := K10 _ _ hR4 (by rw [hC9]; exact h_get hR8 _)
        obtain ⟨z, hz, bz⟩ : ∃ z, (odds7 n C8.length)[q]? = some z ∧ Bad7 n C10 z := by
          have h8 : (odds7 n C8.length).length = 8 := rfl
          refine ⟨(odds7 n C8.length)[q], List.getElem?_eq_getElem (by omega), odds7_ok p10 _ (List.getElem_mem _)⟩
        have zc : ∀ k, C8.length < k → cloV k z = true := fun k hk => odds7_clo hk z (List.mem_of_getElem? hz)
        have l10' : C8.length + 2 ≤ C10.length := by rw [l10, hC9, List.length_append]; exact Nat.le_refl _
        obtain ⟨X2, hX2⟩ : ∃ X2, X2 = C10 ++ [.lst ((row.map en).take kk), .lst [z]] := ⟨_, rfl⟩
        have ctk : ∀ k, cloVs k ((row.map en).take kk) = true := fun k => by rw [← List.map_take]; simp? []
        have cdr : ∀ k, cloVs k ((row.map en).drop kk) = true := fun k => by rw [← List.map_drop]; simp? []
        have WX2 : Wrl (K.succ + 1 + 1) X2 := by
          rw [hX2]
          refine W10'.apps ?_
          show cloA (C10.length + 2) _ = true
          simp only [clo_cons, clo_nil, co_lst, ctk, cvs_cons, cvs_nil, zc _ (show C8.length < C10.length + 2 by omega), Bool.and_true]
        obtain ⟨v3, X3, hv3, WX3, KX3, lX3, e11⟩ := WX2.draw (by omega) (m := 2) (by omega) (by omega)
        have e11 : G__law_draw [.obj 0, .int 2] X2 = .ok (.int (v3 : Nat)) X3 := e11
        have g10 : 4 ≤ C10.length := W10'.len
        have x3a : X3[C10.length]? = some (.lst ((row.map en).take kk)) := KX3 _ _ g10 (by rw [hX2]; exact h_at0)
        have x3b : X3[C10.length + 1]? = some (.lst [z]) := KX3 _ _ (by omega) (by rw [hX2, List.getElem?_append_right (by omega), Nat.add_sub_cancel_left]; rfl)
        have hRX3 : X3[R]? = some (.lst (row.map en)) := KX3 _ _ hR4 (by rw [hX2]; exact h_get hR10 _)
        have hwX3 : WebAt X3 A1.length (mkW n E) := WebAt.kept (by rw [hX2]; exact hw10.app _) KX3 W1.len
        have eo9 : C8 ++ [AO.lst [.int 0, .int 1], .lst [.non, .int 5, .tup [.int 0, .int 0], .obj C8.length, .tup [.int 0, .int ((n : Nat) : Int)], .tup [.bl true, .int 1], .str "01", .tup [.int 1, .int 0]]] = C9 := by rw [hC9]; rfl
        have rp : repO (some [z]) (1 + ((v3 : Nat) : Int)) X3 = .ok (.obj X3.length) (X3 ++ [.lst ((z :: List.replicate v3 z))]) := by
          rw [show (1 + ((v3 : Nat) : Int)) = ((v3 + 1 : Nat) : Int) by omega]
          exact repO_one (by omega)
        obtain ⟨X4, hX4⟩ : ∃ X4, X4 = X3 ++ [.lst ((z :: List.replicate v3 z))] := ⟨_, rfl⟩
        have lx3 : X3.length = C10.length + 2 := by rw [lX3, hX2, List.length_append]; rfl
        have zk : ∀ k, C8.length < k → ∀ j, cloVs k (List.replicate j z) = true := fun k hk j => by
          induction j with
          | zero => rfl
          | succ j ih => rw [List.replicate_succ, cvs_cons, zc k hk, ih]; rfl
        have zk' : ∀ k, C8.length < k → cloVs k (z :: List.replicate v3 z) = true := fun k hk => zk k hk (v3 + 1)
        have WX4 : Wrl (K.succ + 1 + 1 + 1) X4 := by rw [hX4]; exact WX3.lst (zk' _ (by omega))
        have eg1 : gAdd (.obj C10.length) (.obj X3.length) X4 = .ok (.obj X4.length) (X4 ++ [.lst ((row.map en).take kk ++ (z :: List.replicate v3 z))]) := by
          have y1 : X4[C10.length]? = some (.lst ((row.map en).take kk)) := by rw [hX4]; exact h_get x3a _
          have y2 : X4[X3.length]? = some (.lst ((z :: List.replicate v3 z))) := by rw [hX4]; exact h_at0
          rw [gAdd_oo, y1, y2, lstO_l, lstO_l, catO_some, if_pos]
          rw [List.length_take, List.length_map, List.length_cons, List.length_replicate]
          show _ < 1000000
          omega
        obtain ⟨X5, hX5⟩ : ∃ X5, X5 = X4 ++ [.lst ((row.map en).take kk ++ (z :: List.replicate v3 z))] := ⟨_, rfl⟩
        have lx4 : X4.length = X3.length + 1 := by rw [hX4, List.length_append]; rfl
        have WX5 : Wrl (K.succ + 1 + 1 + 1) X5 := by rw [hX5]; exact WX4.lst (by rw [cloVs_app, ctk, zk' _ (by omega)]; rfl)
        have hRX5 : X5[R]? = some (.lst (row.map en)) := by rw [hX5, hX4]; exact h_get (h_get hRX3 _) _
        obtain ⟨X6, hX6⟩ : ∃ X6, X6 = X5 ++ [.lst ((row.map en).drop kk)] := ⟨_, rfl⟩
        have WX6 : Wrl (K.succ + 1 + 1 + 1) X6 := by rw [hX6]; exact WX5.lst (cdr _)
        have eg2 : gAdd (.obj X4.length) (.obj X5.length) X6 = .ok (.obj X6.length) (X6 ++ [.lst ((row.map en).take kk ++ z :: (List.replicate v3 z ++ (row.map en).drop kk))]) := by
          have y1 : X6[X4.length]? = some (.lst ((row.map en).take kk ++ (z :: List.replicate v3 z))) := by rw [hX6, hX5]; exact h_get h_at0 _
          have y2 : X6[X5.length]? = some (.lst ((row.map en).drop kk)) := by rw [hX6]; exact h_at0
          rw [gAdd_oo, y1, y2, lstO_l, lstO_l, catO_some, if_pos, List.append_assoc, List.cons_append]
          rw [List.length_append, List.length_take, List.length_drop, List.length_map, List.length_cons, List.length_replicate]
          show _ < 1000000
          omega
        obtain ⟨X7, hX7⟩ : ∃ X7, X7 = X6 ++ [.lst ((row.map en).take kk ++ z :: (List.replicate v3 z ++ (row.map en).drop kk))] := ⟨_, rfl⟩
        have lx56 : X3.length < X6.length := by rw [hX6, hX5, hX4]; simp only [List.length_append, List.length_cons, List.length_nil]; omega
        have WX7 : Wrl (K.succ + 1 + 1 + 1) X7 := by rw [hX7]; exact WX6.lst (by rw [cloVs_app, ctk, cvs_cons, zc _ (by omega), cloVs_app, zk _ (by omega) v3, cdr]; rfl)
        have sX : Stay X3 X7 := by rw [hX7, hX6, hX5, hX4]; exact (((Stay.app _ _).trans (Stay.app _ _)).trans (Stay.app _ _)).trans (Stay.app _ _)
        have hwX7 : WebAt X7 A1.length (mkW n E) := hwX3.stay sX
        have bz7 : G_is_turn [.obj A1.length, .tup ((walkM st (row.take kk)).map en), z] X7 = .ok (.bl false) X7 := by
          refine Bad7.turn (A := X7) ⟨fun B s => ?_⟩ (Stay.refl _) hwX7
          have := odds7_ok (n := n) (A := X7) (sX _ _ (KX3 _ _ hl8 (by rw [hX2]; exact h_get p10 _))) z (List.mem_of_getElem? hz)
          exact this.tie B s
        have sb7 : SeqIs X7 (.obj X6.length) ((row.take kk).map en ++ z :: (List.replicate v3 z ++ (row.map en).drop kk)) := .lst _ rfl (by
          rw [hX7, h_at0, List.map_take]
          rfl)
        have ebad := walked_bad hE WX7.clo hwX7 n24 hst (x := .tup (st.map en)) .refl (by rw [List.length_take, List.length_append, List.length_replicate, List.length_drop, List.length_map]; omega) sb7 (hR.take kk) bz7
        have ekk : (row.take kk).length = kk := by rw [List.length_take]; omega
        rw [ekk] at ebad
        have WX8 : Wrl (K.succ + 1 + 1 + 1) (X7 ++ [.exn 23 [.int (kk : Nat)]]) := WX7.app (by rw [co_exn]; simp? [])
        have ek := class_BadTurn (A := X7 ++ [.exn 23 [.int (kk : Nat)]]) (n := X7.length) (v := .int (kk : Nat)) h_at0 rfl WX8.clo
        have et := told_x (cs := xC) (by decide) ek
        obtain ⟨X8, hX8⟩ : ∃ X8, X8 = X7 ++ [.exn 23 [.int (kk : Nat)]] := ⟨_, rfl⟩
        rw [← hX8] at WX8 et
        have hwX8 : WebAt X8 A1.length (mkW n E) := by rw [hX8]; exact hwX7.app _
        obtain ⟨X9, hX9⟩ : ∃ X9, X9 = X8 ++ [.dK [], .lst (wrongs X8.length)] := ⟨_, rfl⟩
        have WX9 : Wrl (K.succ + 1 + 1 + 1) X9 := by
          rw [hX9]
          refine WX8.apps ?_
          have hc : cloVs (X8.length + 2) (wrongs X8.length) = true := by
            unfold wrongs
            simp? []
            rw [decide_eq_true (by omega)]
            rfl
          show cloA (X8.length + 2) _ = true
          simp? [clo_cons, co_lst, hc]
        have d9 : X9[X8.length]? = some (.dK []) := by rw [hX9]; exact h_at0
        have w9 : X9[X8.length + 1]? = some (.lst (wrongs X8.length)) := by
          rw [hX9, List.getElem?_append_right (by omega), Nat.add_sub_cancel_left]
          rfl
        obtain ⟨q5, X10, hq5, WX10, KX10, lX10, e12⟩ := WX9.draw (by omega) (m := 5) (by omega) (by omega)
        have e12 : G__law_draw [.obj 0, .int 5] X9 = .ok (.int (q5 : Nat)) X10 := e12
        have g8 : 4 ≤ X8.length := WX8.len
        have w10 : X10[X8.length + 1]? = some (.lst (wrongs X8.length)) := KX10 _ _ (by omega) w9
        have hwX10 : WebAt X10 A1.length (mkW n E) := WebAt.kept (by rw [hX9]; exact hwX8.app _) KX10 W1.len
        obtain ⟨z5, hz5, bz5⟩ : ∃ z5, (wrongs X8.length)[q5]? = some z5 ∧ G_is_list [z5] X10 = .ok (.bl false) X10 := by
          have h5 : (wrongs X8.length).length = 5 := rfl
          exact ⟨(wrongs X8.length)[q5], List.getElem?_eq_getElem (by omega), wrongs_ok (KX10 _ _ g8 d9) _ (List.getElem_mem _)⟩
        have enone := walked_none hwX10 n24 hst (x := .tup (st.map en)) .refl bz5
        obtain ⟨X11, hX11⟩ : ∃ X11, X11 = X10 ++ [.exn 23 [.non]] := ⟨_, rfl⟩
        have WX11 : Wrl (K.succ + 1 + 1 + 1 + 1) X11 := by rw [hX11]; exact WX10.app (by rw [co_exn]; simp? [])
        have hwX11 : WebAt X11 A1.length (mkW n E) := by rw [hX11]; exact hwX10.app _
        have ek2 := class_BadTurn (A := X11) (n := X10.length) (v := .non) (by rw [hX11]; exact h_at0) rfl WX11.clo
        have et2 : kTold xC G__law_class (.exc ⟨23, [.non]⟩ X10) = .ok (.tup [.str "BadTurn", .non]) X11 := told_x (by decide) (by rw [← hX11]; exact ek2)
        have nw2 : ∀ A, gNe (.tup [.str "BadTurn", .non]) (.tup [.str "BadTurn", .non]) A = .ok (.bl false) A := fun A => gNe_word (by decide +kernel) (d := .none) rfl (by rw [PyData.eqv])
        have eend := walked_ok hE WX11.clo hwX11 n24 hst (x := .tup (st.map en)) .refl (l := []) (by decide) (y := .tup []) .refl .nil
        have eend : G_walked [.obj A1.length, .tup (st.map en), .tup []] X11 = .ok (.tup (st.map en)) X11 := eend
        have eo5 : X8 ++ [AO.dK [], .lst [.non, .int 5, .str "01", .obj X8.length, .bl true]] = X9 := by rw [hX9]; rfl
        have nw : ∀ A, gNe (.tup [.str "BadTurn", .int ((kk : Nat) : Int)]) (.tup [.str "BadTurn", .int ((kk : Nat) : Int)]) A = .ok (.bl false) A := fun A => gNe_word (by decide +kernel) (d := .int (kk : Nat)) rfl (by rw [PyData.eqv]; simp)
        simp? only [ewb, ne7, hR7, e8]
        rw [eo9]
        simp? only [e10, o10', atI_get hz, hR10, cut_take]
        rw [← hX2]
        simp? only [e11, gMul_obj, x3b]
        rw [rp]
        rw [← hX4]
        simp? only [eg1]
        rw [← hX5]
        simp? only [hRX5, cut_drop]
        rw [← hX6]
        simp? only [eg2]
        rw [← hX7]
        simp? only [x_told, ebad, et, nw]
        rw [eo5]
        simp? only [e12, w10, atI_get hz5, x_told, enone, et2, nw2, eend, ne7]
        exact ⟨_, _, _, _, _, _, _, _, _, _, _, _, _, _, _, _, rfl, WX11.mono (by simp only [Nat.succ_eq_add_one]; omega)⟩
    · rintro ρ C ⟨o2, o3, o4, o5, o6, o7, o8, o9, o10, o11, o12, o13, o14, o15, o16, o17, rfl, hA⟩
      exact ⟨_, _, _, _, _, _, _, _, _, _, _, _, _, _, _, _, rfl, hA.mono (by decide)⟩
  · rintro ρ A ⟨o2, o3, o4, o5, o6, o7, o8, o9, o10, o11, o12, o13, o14, o15, o16, o17, rfl, hA⟩
    have ok3 : TiesOk 3 [(0, 1), (1, 2)] := ⟨by decide, by decide, by simp [ltNN]⟩
    have ew := init_lit ok3 (by decide) (by decide) hA
    obtain ⟨B, hB⟩ : ∃ B, B = A ++ [.lst (([(0, 1), (1, 2)] : List (Nat × Nat)).map en), webO (mkW 3 [(0, 1), (1, 2)])] := ⟨_, rfl⟩
    have WB : Wrl 10000 B := by rw [hB]; exact lit_w hA
    have hw : WebAt B (A.length + 1) (mkW 3 [(0, 1), (1, 2)]) := by rw [hB]; exact lit_at
    have ew : G_Web___init__ [.obj (A.length + 1), .int 3, .obj A.length] (A ++ [.lst [.tup [.int 0, .int 1], .tup [.int 1, .int 2]], .slt 0 []]) = .ok .non B := by rw [hB]; exact ew
    have s1 : StOk 3 [0, 0, 1] := ⟨rfl, by decide⟩
    obtain ⟨C, hC⟩ : ∃ C, C = B ++ [.lst (([0, 0, 1] : List Nat).map en), .lst (([(0, 1), (1, 2)] : List (Nat × Nat)).map en)] := ⟨_, rfl⟩
    have hC' : B ++ [AO.lst [.int 0, .int 0, .int 1], .lst [.tup [.int 0, .int 1], .tup [.int 1, .int 2]]] = C := hC.symm
    have WC : Wrl 10000 C := by rw [hC]; exact WB.apps (by simp? [])
    have hwC : WebAt C (A.length + 1) (mkW 3 [(0, 1), (1, 2)]) := by rw [hC]; exact hw.app _
    have x1 : SeqIs C (.obj B.length) (([0, 0, 1] : List Nat).map en) := .lst _ rfl (by rw [hC]; exact h_at0)
    have y1 : SeqIs C (.obj (B.length + 1)) (([(0, 1), (1, 2)] : List (Nat × Nat)).map en) := .lst _ rfl (by rw [hC, List.getElem?_append_right (by omega), Nat.add_sub_cancel_left]; rfl)
    have r1 : RowW [(0, 1), (1, 2)] [0, 0, 1] [(0, 1), (1, 2)] := .cons (by decide) (by rfl) (.cons (by decide) (by rfl) .nil)
    have e1 := walked_ok ok3 WC.clo hwC (by decide) s1 x1 (by decide) y1 r1
    have e1 : G_walked [.obj (A.length + 1), .obj B.length, .obj (B.length + 1)] C = .ok (.tup [.int 1, .int 0, .int 0]) C := e1
    have q1 : ∀ A, gNe (.tup [.int 1, .int 0, .int 0]) (.tup [.int 1, .int 0, .int 0]) A = .ok (.bl false) A := fun A => by rfl
    obtain ⟨D, hD⟩ : ∃ D, D = C ++ [.lst [.tup [.int 0, .int 1], .tup [.int 0, .int 1], .tup [.int 1, .int 2]]] := ⟨_, rfl⟩
    have WD : Wrl 10000 D := by rw [hD]; exact WC.lst (by simp? [])
    have hwD : WebAt D (A.length + 1) (mkW 3 [(0, 1), (1, 2)]) := by rw [hD]; exact hwC.app _
    have y2 : SeqIs D (.obj C.length) (([(0, 1), (0, 1)] : List (Nat × Nat)).map en ++ (.tup [.int 1, .int 2]) :: []) := .lst _ rfl (by rw [hD]; exact h_at0)
    have r2 : RowW [(0, 1), (1, 2)] [0, 0, 1] [(0, 1), (0, 1)] := .cons (by decide) (by rfl) (.cons (by decide) (by rfl) .nil)
    have t2 := is_turn_pair (a := 1) (b := 2) ok3 hwD (walkM_ok s1 [(0, 1), (0, 1)]) (x := .tup ((walkM [0, 0, 1] [(0, 1), (0, 1)]).map en)) .refl (by decide) (by decide)
    rw [decide_eq_false (show ¬ ((1, 2) ∈ [(0, 1), (1, 2)] ∧ gt (walkM [0, 0, 1] [(0, 1), (0, 1)]) 1 = gt (walkM [0, 0, 1] [(0, 1), (0, 1)]) 2) from fun h => absurd h.2 (by decide))] at t2
    have e2 := walked_bad ok3 WD.clo hwD (by decide) s1 (x := .tup (([0, 0, 1] : List Nat).map en)) .refl (by decide) y2 r2 t2
    have e2 : G_walked [.obj (A.length + 1), .tup [.int 0, .int 0, .int 1], .obj C.length] D = .exc ⟨23, [.int 2]⟩ D := e2
    obtain ⟨F, hF⟩ : ∃ F, F = D ++ [.exn 23 [.int 2]] := ⟨_, rfl⟩
    have WF : Wrl 10000 F := by rw [hF]; exact WD.app (by rw [co_exn]; simp? [])
    have ek := class_BadTurn (A := F) (n := D.length) (v := .int 2) (by rw [hF]; exact h_at0) rfl WF.clo
    have et : kTold xC G__law_class (.exc ⟨23, [.int 2]⟩ D) = .ok (.tup [.str "BadTurn", .int 2]) F := told_x (by decide) (by rw [← hF]; exact ek)
    have q2 : ∀ A, gEq (.tup [.str "BadTurn", .int 2]) (.tup [.str "BadTurn", .int 2]) A = .ok (.bl true) A := fun A => gEq_word (by decide +kernel) (d := .int 2) rfl (by rw [PyData.eqv]; rfl)
    simp? only [ew]
    rw [hC']
    simp? only [e1, q1, x_told]
    rw [← hD]
    simp? only [e2, et, q2]
    exact isTrueR_any ⟨_, rfl⟩

end Lk
namespace Lk
open PySem PySem.Spec L2 PyProof.Rows Dn

def top (i : Nat) : Stmt := PySem.Challenge.pw_likepairs_k07_rows_of_turns.main.body.getD i (.Pass ⟨0, 0, 0, 0⟩)
/-! ### the classes, the fields -/
def nam : Nat → List Str
  | 21 => ["place"]
  | 22 => ["place"]
  | 23 => ["place"]
  | 24 => ["value"]
  | 25 => ["number"]
  | 26 => ["number"]
  | 31 => ["most"]
  | _ => []
abbrev mkCf (K : PySem.W.Frag) (cls : Nat → Addr) (lam : List (Str × Addr × Addr)) : Cfg := ⟨K, cls, nam, lam⟩
/-! ### what the text must have -/
structure Txt (P : Program) (cf : Cfg) (mg : Str → Option Value) : Prop where
  hn : cf.nam = nam
  b_bool : mg "bool" = none
  b_enumerate : mg "enumerate" = none
  b_int : mg "int" = none
  b_isinstance : mg "isinstance" = none
  b_len : mg "len" = none
  b_list : mg "list" = none
  b_max : mg "max" = none
  b_min : mg "min" = none
  b_range : mg "range" = none
  b_repr : mg "repr" = none
  b_sorted : mg "sorted" = none
  b_tuple : mg "tuple" = none
  k_MOST_PLACES : ∃ t, mg "MOST_PLACES" = some (.int 24 t)
  k_MOST_TIES : ∃ t, mg "MOST_TIES" = some (.int 60 t)
  r_is_whole : Raw cf mg "is_whole" (top 12)
  r_is_among : Raw cf mg "is_among" (top 13)
  r_is_list : Raw cf mg "is_list" (top 14)
  r_is_tie : Raw cf mg "is_tie" (top 15)
  r_need_ties : Raw cf mg "need_ties" (top 16)
  r_Web___init__ : RawM cf 0 "__init__" "Web.__init__" (inClass (top 17) 1)
  r__law_folded : Raw cf mg "_law_folded" (top 26)
  r__law_begun : Raw cf mg "_law_begun" (top 28)
  r__law_class : Raw cf mg "_law_class" (top 35)
  r__law_mixed : Raw cf mg "_law_mixed" (top 25)
  r__law_draw : Raw cf mg "_law_draw" (top 27)
  r__law_coins : Raw cf mg "_law_coins" (top 32)
  r__law_turned : Raw cf mg "_law_turned" (top 33)
  r__law_turns : Raw cf mg "_law_turns" (top 34)
  r__law_order : Raw cf mg "_law_order" (top 31)
  r__law_ties : Raw cf mg "_law_ties" (top 29)
  r__law_web : Raw cf mg "_law_web" (top 30)
  r_is_turn : Raw cf mg "is_turn" (top 20)
  r_turned : Raw cf mg "turned" (top 21)
  r_done_at : Raw cf mg "done_at" (top 22)
  r_need_standing : Raw cf mg "need_standing" (top 19)
  r_walked : Raw cf mg "walked" (top 23)
  l_law : LamD cf mg "law" (top 37)
  r__law_told : Raw cf mg "_law_told" (top 36)
  g_CoinError : mg "CoinError" = some (.ref (cf.cls 20))
  g_BadTies : mg "BadTies" = some (.ref (cf.cls 21))
  g_BadStanding : mg "BadStanding" = some (.ref (cf.cls 22))
  g_BadTurn : mg "BadTurn" = some (.ref (cf.cls 23))
  g_BadNumber : mg "BadNumber" = some (.ref (cf.cls 24))
  g_Unlike : mg "Unlike" = some (.ref (cf.cls 25))
  g_OneSided : mg "OneSided" = some (.ref (cf.cls 26))
  g_TooGreat : mg "TooGreat" = some (.ref (cf.cls 31))
  x_BadStanding : XMk1 P cf mg "BadStanding" 22 "place"
  e_BadStanding : PySem.W.exmAny cf.K (.ref (cf.cls 22)) [.ref (cf.cls 20), .ref (cf.cls 31)] = some true
  f_BadStanding : ExnF cf "place" 22 0
  w_BadStanding : XisC cf.K (cf.cls 22)
  i_BadStanding_BadTies : PySem.W.kitOne cf.K (.ref (cf.cls 22)) (.ref (cf.cls 21)) = some false
  i_BadStanding_BadStanding : PySem.W.kitOne cf.K (.ref (cf.cls 22)) (.ref (cf.cls 22)) = some true
  i_BadStanding_BadTurn : PySem.W.kitOne cf.K (.ref (cf.cls 22)) (.ref (cf.cls 23)) = some false
  i_BadStanding_BadNumber : PySem.W.kitOne cf.K (.ref (cf.cls 22)) (.ref (cf.cls 24)) = some false
  i_BadStanding_Unlike : PySem.W.kitOne cf.K (.ref (cf.cls 22)) (.ref (cf.cls 25)) = some false
  i_BadStanding_OneSided : PySem.W.kitOne cf.K (.ref (cf.cls 22)) (.ref (cf.cls 26)) = some false
  i_BadStanding_TooGreat : PySem.W.kitOne cf.K (.ref (cf.cls 22)) (.ref (cf.cls 31)) = some false
  x_BadTurn : XMk1 P cf mg "BadTurn" 23 "place"
  e_BadTurn : PySem.W.exmAny cf.K (.ref (cf.cls 23)) [.ref (cf.cls 20), .ref (cf.cls 31)] = some true
  f_BadTurn : ExnF cf "place" 23 0
  w_BadTurn : XisC cf.K (cf.cls 23)
  i_BadTurn_BadTies : PySem.W.kitOne cf.K (.ref (cf.cls 23)) (.ref (cf.cls 21)) = some false
  i_BadTurn_BadStanding : PySem.W.kitOne cf.K (.ref (cf.cls 23)) (.ref (cf.cls 22)) = some false
  i_BadTurn_BadTurn : PySem.W.kitOne cf.K (.ref (cf.cls 23)) (.ref (cf.cls 23)) = some true
  i_BadTurn_BadNumber : PySem.W.kitOne cf.K (.ref (cf.cls 23)) (.ref (cf.cls 24)) = some false
  i_BadTurn_Unlike : PySem.W.kitOne cf.K (.ref (cf.cls 23)) (.ref (cf.cls 25)) = some false
  i_BadTurn_OneSided : PySem.W.kitOne cf.K (.ref (cf.cls 23)) (.ref (cf.cls 26)) = some false
  i_BadTurn_TooGreat : PySem.W.kitOne cf.K (.ref (cf.cls 23)) (.ref (cf.cls 31)) = some false
  m_Web : Mak cf mg "Web" 0
  c_Web : SlX.SCls cf.K (cf.cls 0)
  n_Web_many : SltF cf "many" 0 0
  n_Web_near : SltF cf "near" 0 1
  n_Web_ties : SltF cf "ties" 0 2
section
variable {P : Program} {w : World} {cf : Cfg} {mg : Str → Option Value} {base : Heap}
theorem Txt.r_law (T : Txt P cf mg) : Raw cf mg "law" (top 37) := T.l_law.raw
theorem hx_most (T : Txt P cf mg) : ∀ p ∈ tx_most, ExnF cf "most" p.1 p.2 := fun p hp => nomatch hp
theorem hx_number (T : Txt P cf mg) : ∀ p ∈ tx_number, ExnF cf "number" p.1 p.2 := fun p hp => nomatch hp
theorem hx_place (T : Txt P cf mg) : ∀ p ∈ tx_place, ExnF cf "place" p.1 p.2 := fun p hp => by
  simp only [tx_place, List.mem_cons, List.not_mem_nil, or_false] at hp
  rcases hp with rfl | rfl
  · exact T.f_BadStanding
  · exact T.f_BadTurn

theorem hx_value (T : Txt P cf mg) : ∀ p ∈ tx_value, ExnF cf "value" p.1 p.2 := fun p hp => nomatch hp
theorem hy_BadTies (T : Txt P cf mg) : ∀ q ∈ rx_BadTies, IsiE cf (.ref (cf.cls 21)) q.1 q.2 := fun p hp => by
  simp only [rx_BadTies, List.mem_cons, List.not_mem_nil, or_false] at hp
  rcases hp with rfl | rfl
  · exact ⟨T.w_BadStanding, T.i_BadStanding_BadTies⟩
  · exact ⟨T.w_BadTurn, T.i_BadTurn_BadTies⟩

theorem hy_BadStanding (T : Txt P cf mg) : ∀ q ∈ rx_BadStanding, IsiE cf (.ref (cf.cls 22)) q.1 q.2 := fun p hp => by
  simp only [rx_BadStanding, List.mem_cons, List.not_mem_nil, or_false] at hp
  rcases hp with rfl | rfl
  · exact ⟨T.w_BadStanding, T.i_BadStanding_BadStanding⟩
  · exact ⟨T.w_BadTurn, T.i_BadTurn_BadStanding⟩

theorem hy_BadTurn (T : Txt P cf mg) : ∀ q ∈ rx_BadTurn, IsiE cf (.ref (cf.cls 23)) q.1 q.2 := fun p hp => by
  simp only [rx_BadTurn, List.mem_cons, List.not_mem_nil, or_false] at hp
  rcases hp with rfl | rfl
  · exact ⟨T.w_BadStanding, T.i_BadStanding_BadTurn⟩
  · exact ⟨T.w_BadTurn, T.i_BadTurn_BadTurn⟩

theorem hy_BadNumber (T : Txt P cf mg) : ∀ q ∈ rx_BadNumber, IsiE cf (.ref (cf.cls 24)) q.1 q.2 := fun p hp => by
  simp only [rx_BadNumber, List.mem_cons, List.not_mem_nil, or_false] at hp
  rcases hp with rfl | rfl
  · exact ⟨T.w_BadStanding, T.i_BadStanding_BadNumber⟩
  · exact ⟨T.w_BadTurn, T.i_BadTurn_BadNumber⟩

theorem hy_Unlike (T : Txt P cf mg) : ∀ q ∈ rx_Unlike, IsiE cf (.ref (cf.cls 25)) q.1 q.2 := fun p hp => by
  simp only [rx_Unlike, List.mem_cons, List.not_mem_nil, or_false] at hp
  rcases hp with rfl | rfl
  · exact ⟨T.w_BadStanding, T.i_BadStanding_Unlike⟩
  · exact ⟨T.w_BadTurn, T.i_BadTurn_Unlike⟩

theorem hy_OneSided (T : Txt P cf mg) : ∀ q ∈ rx_OneSided, IsiE cf (.ref (cf.cls 26)) q.1 q.2 := fun p hp => by
  simp only [rx_OneSided, List.mem_cons, List.not_mem_nil, or_false] at hp
  rcases hp with rfl | rfl
  · exact ⟨T.w_BadStanding, T.i_BadStanding_OneSided⟩
  · exact ⟨T.w_BadTurn, T.i_BadTurn_OneSided⟩

theorem hy_TooGreat (T : Txt P cf mg) : ∀ q ∈ rx_TooGreat, IsiE cf (.ref (cf.cls 31)) q.1 q.2 := fun p hp => by
  simp only [rx_TooGreat, List.mem_cons, List.not_mem_nil, or_false] at hp
  rcases hp with rfl | rfl
  · exact ⟨T.w_BadStanding, T.i_BadStanding_TooGreat⟩
  · exact ⟨T.w_BadTurn, T.i_BadTurn_TooGreat⟩

theorem hxC (T : Txt P cf mg) : ∀ i ∈ xC, PySem.W.exmAny cf.K (.ref (cf.cls i)) [.ref (cf.cls 20), .ref (cf.cls 31)] = some true := fun p hp => by
  simp only [xC, List.mem_cons, List.not_mem_nil, or_false] at hp
  rcases hp with rfl | rfl
  · exact T.e_BadStanding
  · exact T.e_BadTurn

theorem told_body : ToldBody (defBody (top 36)) := ⟨_, _, _, _, _, _, _, _, _, _, _, _, _, _, _, _, _, _, _, _, _, _, _, _, _, _, _, _, _, _, _, _, _, _, _, rfl⟩
theorem told_sc : ToldSc (defScope (top 36)) := ⟨⟨rfl, rfl, rfl, by decide +kernel, rfl, by decide +kernel, by decide +kernel⟩, by decide +kernel, rfl, rfl, rfl⟩
theorem b__law_told : BindsT "_law_told" "_law_told" (top 36) ["_law_call"] := fun _ _ _ _ _ _ us hl => match us, hl with | [_], _ => rfl
theorem told (T : Txt P cf mg) : ToldF cf mg (cf.cls 20) (cf.cls 31) := told_of T.r__law_told told_body told_sc b__law_told T.g_CoinError T.g_TooGreat
theorem hi_many (T : Txt P cf mg) : ∀ p ∈ ti_many, InsF cf "many" p.1 p.2 := fun p hp => nomatch hp
theorem hs_many (T : Txt P cf mg) : ∀ p ∈ ts_many, SltF cf "many" p.1 p.2 := fun p hp => by
  simp only [ts_many, List.mem_cons, List.not_mem_nil, or_false] at hp
  rcases hp with rfl

  · exact T.n_Web_many
theorem hi_near (T : Txt P cf mg) : ∀ p ∈ ti_near, InsF cf "near" p.1 p.2 := fun p hp => nomatch hp
theorem hs_near (T : Txt P cf mg) : ∀ p ∈ ts_near, SltF cf "near" p.1 p.2 := fun p hp => by
  simp only [ts_near, List.mem_cons, List.not_mem_nil, or_false] at hp
  rcases hp with rfl

  · exact T.n_Web_near
theorem hi_ties (T : Txt P cf mg) : ∀ p ∈ ti_ties, InsF cf "ties" p.1 p.2 := fun p hp => nomatch hp
theorem hs_ties (T : Txt P cf mg) : ∀ p ∈ ts_ties, SltF cf "ties" p.1 p.2 := fun p hp => by
  simp only [ts_ties, List.mem_cons, List.not_mem_nil, or_false] at hp
  rcases hp with rfl

  · exact T.n_Web_ties
/-! ### the defs -/
theorem sc_is_whole : FnScope ["value"] ["value"] (defScope (top 12)) := ⟨rfl, rfl, rfl, by decide +kernel, rfl, by decide +kernel, by decide +kernel⟩
theorem b_is_whole : BindsT "is_whole" "is_whole" (top 12) ["value"] := fun _ _ _ _ _ _ us hl => match us, hl with | [_], _ => rfl
theorem D_is_whole (T : Txt P cf mg) : Df P w cf mg base "is_whole" (top 12) ["value"] 1 G_is_whole :=
  df_of T.r_is_whole sc_is_whole (fs := F_is_whole) RunOf.re fun _ _ _ _ _ _ _ hr => by
    unfold F_is_whole
    exact (cb_one (cs_ret (c_and (c_isiT rfl T.b_isinstance T.b_int PyProof.Rows.boot_int (by decide) (c_var 0)) (c_one (c_not (c_isiT rfl T.b_isinstance T.b_bool PyProof.Rows.boot_bool (by decide) (c_var 0)))))))
theorem sc_is_among : FnScope ["value", "least", "most"] ["value", "least", "most"] (defScope (top 13)) := ⟨rfl, rfl, rfl, by decide +kernel, rfl, by decide +kernel, by decide +kernel⟩
theorem b_is_among : BindsT "is_among" "is_among" (top 13) ["value", "least", "most"] := fun _ _ _ _ _ _ us hl => match us, hl with | [_, _, _], _ => rfl
theorem D_is_among (T : Txt P cf mg) (D_is_whole : Df P w cf mg base "is_whole" (top 12) ["value"] 1 G_is_whole) : Df P w cf mg base "is_among" (top 13) ["value", "least", "most"] 2 G_is_among :=
  df_of T.r_is_among sc_is_among (fs := F_is_among) RunOf.re fun _ _ _ _ _ _ _ hr => by
    unfold F_is_among
    exact (cb_one (cs_ret (c_and (c_df D_is_whole b_is_whole rfl hr (by decide) (takes_of rfl rfl rfl rfl) (ca_cons (c_var 0) ca_nil)) (c_one (c_chain op_le ok_le op_le ok_le (c_var 1) (c_var 0) (c_var 2))))))
theorem sc_is_list : FnScope ["value"] ["value"] (defScope (top 14)) := ⟨rfl, rfl, rfl, by decide +kernel, rfl, by decide +kernel, by decide +kernel⟩
theorem b_is_list : BindsT "is_list" "is_list" (top 14) ["value"] := fun _ _ _ _ _ _ us hl => match us, hl with | [_], _ => rfl
theorem D_is_list (T : Txt P cf mg) : Df P w cf mg base "is_list" (top 14) ["value"] 1 G_is_list :=
  df_of T.r_is_list sc_is_list (fs := F_is_list) RunOf.re fun _ _ _ _ _ _ _ hr => by
    unfold F_is_list
    exact (cb_one (cs_ret (c_isiT2 rfl T.b_isinstance T.b_list PyProof.Rows.boot_list (by decide) T.b_tuple PyProof.Rows.boot_tuple (by decide) (c_var 0))))
theorem sc_is_tie : FnScope ["value", "many"] ["value", "many"] (defScope (top 15)) := ⟨rfl, rfl, rfl, by decide +kernel, rfl, by decide +kernel, by decide +kernel⟩
theorem b_is_tie : BindsT "is_tie" "is_tie" (top 15) ["value", "many"] := fun _ _ _ _ _ _ us hl => match us, hl with | [_, _], _ => rfl
theorem D_is_tie (T : Txt P cf mg) (D_is_among : Df P w cf mg base "is_among" (top 13) ["value", "least", "most"] 2 G_is_among) : Df P w cf mg base "is_tie" (top 15) ["value", "many"] 3 G_is_tie :=
  df_of T.r_is_tie sc_is_tie (fs := F_is_tie) RunOf.re fun _ _ _ _ _ _ _ hr => by
    unfold F_is_tie
    exact (cb_cons (cs_if (CW.ct (cw_or (ct_not (ct_val (c_isiT rfl T.b_isinstance T.b_tuple PyProof.Rows.boot_tuple (by decide) (c_var 0)))) (cw_or (ct_cmp (op_neD hr.units) ok_ne (c_callB call_lenAll ok_len T.b_len PySem.boot_len (ca_cons (c_var 0) ca_nil)) c_int) (cw_or1 (ct_not (ct_val (c_df D_is_among b_is_among rfl hr (by decide) (takes_of rfl rfl rfl rfl) (ca_cons (c_ix rfl (hu_of hr) (c_var 0) c_int) (ca_cons c_int (ca_cons (c_op op_sub ok_sub (c_var 1) c_int) ca_nil)))))))))) (cb_one (cs_ret c_bl)) cb_nil) (cb_one (cs_ret (c_df D_is_among b_is_among rfl hr (by decide) (takes_of rfl rfl rfl rfl) (ca_cons (c_ix rfl (hu_of hr) (c_var 0) c_int) (ca_cons (c_op op_addAll ok_addAll (c_ix rfl (hu_of hr) (c_var 0) c_int) c_int) (ca_cons (c_op op_sub ok_sub (c_var 1) c_int) ca_nil)))))))
theorem sc_need_ties : FnScope ["many", "ties", "number", "tie"] ["many", "ties"] (defScope (top 16)) := ⟨rfl, rfl, rfl, by decide +kernel, rfl, by decide +kernel, by decide +kernel⟩
theorem b_need_ties : BindsT "need_ties" "need_ties" (top 16) ["many", "ties"] := fun _ _ _ _ _ _ us hl => match us, hl with | [_, _], _ => rfl
theorem D_need_ties (T : Txt P cf mg) (D_is_list : Df P w cf mg base "is_list" (top 14) ["value"] 1 G_is_list) (D_is_tie : Df P w cf mg base "is_tie" (top 15) ["value", "many"] 3 G_is_tie) : Df P w cf mg base "need_ties" (top 16) ["many", "ties"] 4 G_need_ties :=
  df_of T.r_need_ties sc_need_ties (fs := F_need_ties) RunOf.re fun _ _ _ _ _ _ _ hr => by
    unfold F_need_ties
    exact (cb_cons (cs_if (ct_not (ct_val (c_df D_is_list b_is_list rfl hr (by decide) (takes_of rfl rfl rfl rfl) (ca_cons (c_var 1) ca_nil)))) (cb_one cs_never) cb_nil) (cb_cons (cs_if (ct_cmp (op_gtA hr.units) ok_gtA (c_callB call_lenAll ok_len T.b_len PySem.boot_len (ca_cons (c_var 1) ca_nil)) (c_gi T.k_MOST_TIES)) (cb_one cs_never) cb_nil) (cb_one (cs_for (passes_of rfl) rfl (ci_enum rfl T.b_enumerate (c_var 1)) (cg_tup rfl (cgs_cons (cg_name 2 sc_need_ties.nd) (cgs_cons (cg_name 3 sc_need_ties.nd) cgs_nil))) (cb_one (cs_if (CW.ct (cw_or (ct_not (ct_val (c_df D_is_tie b_is_tie rfl hr (by decide) (takes_of rfl rfl rfl rfl) (ca_cons (c_var 3) (ca_cons (c_var 0) ca_nil))))) (cw_or1 (CW.ct (cw_and (ct_cmp (op_gtA hr.units) ok_gtA (c_var 2) c_int) (cw_and1 (ct_cmp (op_geA hr.units) ok_geA (c_ix rfl (hu_of hr) (c_var 1) (c_op op_sub ok_sub (c_var 2) c_int)) (c_var 3)))))))) (cb_one cs_never) cb_nil))))))
theorem sc_Web___init__ : FnScope ["self", "many", "ties", "near", "one", "other", "place", "some"] ["self", "many", "ties"] (defScope (inClass (top 17) 1)) := ⟨rfl, rfl, rfl, by decide +kernel, rfl, by decide +kernel, by decide +kernel⟩
theorem b_Web___init__ : BindsT "__init__" "Web.__init__" (inClass (top 17) 1) ["self", "many", "ties"] := fun _ _ _ _ _ _ us hl => match us, hl with | [_, _, _], _ => rfl
theorem D_Web___init__ (T : Txt P cf mg) (D_is_among : Df P w cf mg base "is_among" (top 13) ["value", "least", "most"] 2 G_is_among) (D_need_ties : Df P w cf mg base "need_ties" (top 16) ["many", "ties"] 4 G_need_ties) : Mf P w cf mg base 0 "__init__" "Web.__init__" (inClass (top 17) 1) ["self", "many", "ties"] 5 G_Web___init__ :=
  mf_of T.r_Web___init__ sc_Web___init__ (fs := F_Web___init__) RunOf.re fun _ _ _ _ _ _ _ hr => by
    unfold F_Web___init__
    exact (cb_cons (cs_if (ct_not (ct_val (c_df D_is_among b_is_among rfl hr (by decide) (takes_of rfl rfl rfl rfl) (ca_cons (c_var 1) (ca_cons c_int (ca_cons (c_gi T.k_MOST_PLACES) ca_nil)))))) (cb_one cs_never) cb_nil) (cb_cons (cs_expr (c_df D_need_ties b_need_ties rfl hr (by decide) (takes_of rfl rfl rfl rfl) (ca_cons (c_var 1) (ca_cons (c_var 2) ca_nil)))) (cb_cons (cs_fld ti_many ts_many rfl (hi_many T) (hs_many T) (c_var 1) (c_var 0)) (cb_cons (cs_fld ti_ties ts_ties rfl (hi_ties T) (hs_ties T) (c_callTy call_tuple_of ok_tuple T.b_tuple PyProof.Rows.boot_tuple (ca_cons (c_var 2) ca_nil)) (c_var 0)) (cb_cons (cs_setComp 3 [("place", 6)] rfl sc_Web___init__.nd (ci_range1 rfl T.b_range (ca_cons (c_var 1) ca_nil)) (blk_of (by kernel_rfl)) (fun _ _ _ _ _ => (cg_name 6 sc_Web___init__.nd)) (fun _ _ _ _ _ => cts_nil) (fun _ _ _ _ _ => (c_lst ca_nil)) (sw_true rfl rfl rfl (by decide +kernel))) (cb_cons (cs_for (passes_of rfl) rfl (ci_list (c_var 2) rfl) (cg_tup rfl (cgs_cons (cg_name 4 sc_Web___init__.nd) (cgs_cons (cg_name 5 sc_Web___init__.nd) cgs_nil))) (cb_cons (cs_expr (c_bm PySem.F.plainAttrs_list PySem.F.slot_list_append PySem.F.type_list_append mt_append rfl isL_ok ok_append (c_ix rfl (hu_of hr) (c_var 3) (c_var 4)) (ca_cons (c_var 5) ca_nil))) (cb_one (cs_expr (c_bm PySem.F.plainAttrs_list PySem.F.slot_list_append PySem.F.type_list_append mt_append rfl isL_ok ok_append (c_ix rfl (hu_of hr) (c_var 3) (c_var 5)) (ca_cons (c_var 4) ca_nil)))))) (cb_one (cs_fld ti_near ts_near rfl (hi_near T) (hs_near T) (c_callTy call_tuple_of ok_tuple T.b_tuple PyProof.Rows.boot_tuple (ca_cons (c_comp [("some", 7)] rfl sc_Web___init__.nd (ci_list (c_var 3) rfl) (blk_of (by kernel_rfl)) (fun _ _ _ _ _ => (cg_name 7 sc_Web___init__.nd)) (fun _ _ _ _ _ => cts_nil) (fun _ _ _ _ _ => (c_callTy call_tuple_of ok_tuple T.b_tuple PyProof.Rows.boot_tuple (ca_cons (c_callB call_sorted ok_sorted T.b_sorted PyProof.Rows.boot_sorted (ca_cons (c_var 7) ca_nil)) ca_nil)))) ca_nil)) (c_var 0)))))))))
theorem sc__law_folded : FnScope ["_law_script", "_law_found", "_law_n", "_law_cell"] ["_law_script"] (defScope (top 26)) := ⟨rfl, rfl, rfl, by decide +kernel, rfl, by decide +kernel, by decide +kernel⟩
theorem b__law_folded : BindsT "_law_folded" "_law_folded" (top 26) ["_law_script"] := fun _ _ _ _ _ _ us hl => match us, hl with | [_], _ => rfl
theorem D__law_folded (T : Txt P cf mg) : Df P w cf mg base "_law_folded" (top 26) ["_law_script"] 1 G__law_folded :=
  df_of T.r__law_folded sc__law_folded (fs := F__law_folded) RunOf.gc fun _ _ _ _ _ _ _ hr => by
    unfold F__law_folded
    exact (cb_cons (cs_setComp 1 [("_law_n", 2)] rfl sc__law_folded.nd (ci_range1 rfl T.b_range (ca_cons c_int ca_nil)) (blk_of (by kernel_rfl)) (fun _ _ _ _ _ => (cg_name 2 sc__law_folded.nd)) (fun _ _ _ _ _ => cts_nil) (fun _ _ _ _ _ => (c_op op_addAll ok_addAll c_int (c_var 2))) (sw_true rfl rfl rfl (by decide +kernel))) (cb_cons (cs_for (passes_of rfl) rfl (ci_enum rfl T.b_enumerate (c_var 0)) (cg_tup rfl (cgs_cons (cg_name 2 sc__law_folded.nd) (cgs_cons (cg_name 3 sc__law_folded.nd) cgs_nil))) (cb_one (cs_sub rfl (hu_of hr) (c_op op_mod ok_mod (c_callTy call_int1 ok_int T.b_int PyProof.Rows.boot_int (ca_cons (c_op op_addAll ok_addAll (c_op op_mulAll ok_mulAll (c_ix rfl (hu_of hr) (c_var 1) (c_op op_mod ok_mod (c_callTy call_int1 ok_int T.b_int PyProof.Rows.boot_int (ca_cons (c_var 2) ca_nil)) c_int)) c_int) (c_var 3)) ca_nil)) c_int) (c_var 1) (c_op op_mod ok_mod (c_callTy call_int1 ok_int T.b_int PyProof.Rows.boot_int (ca_cons (c_var 2) ca_nil)) c_int)))) (cb_cons (cs_for (passes_of rfl) rfl (ci_range2 rfl T.b_range (ca_cons c_int (ca_cons c_int ca_nil))) (cg_name 2 sc__law_folded.nd) (cb_one (cs_sub rfl (hu_of hr) (c_op op_mod ok_mod (c_callTy call_int1 ok_int T.b_int PyProof.Rows.boot_int (ca_cons (c_op op_addAll ok_addAll (c_ix rfl (hu_of hr) (c_var 1) (c_var 2)) (c_op op_mulAll ok_mulAll (c_ix rfl (hu_of hr) (c_var 1) (c_op op_sub ok_sub (c_var 2) c_int)) c_int)) ca_nil)) c_int) (c_var 1) (c_var 2)))) (cb_one (cs_ret (c_var 1))))))
theorem sc__law_begun : FnScope ["_law_script", "_law_m", "_law_cell"] ["_law_script"] (defScope (top 28)) := ⟨rfl, rfl, rfl, by decide +kernel, rfl, by decide +kernel, by decide +kernel⟩
theorem b__law_begun : BindsT "_law_begun" "_law_begun" (top 28) ["_law_script"] := fun _ _ _ _ _ _ us hl => match us, hl with | [_], _ => rfl
theorem D__law_begun (T : Txt P cf mg) (D__law_folded : Df P w cf mg base "_law_folded" (top 26) ["_law_script"] 1 G__law_folded) : Df P w cf mg base "_law_begun" (top 28) ["_law_script"] 2 G__law_begun :=
  df_of T.r__law_begun sc__law_begun (fs := F__law_begun) RunOf.gc fun _ _ _ _ _ _ _ hr => by
    unfold F__law_begun
    exact (cb_cons (cs_set 1 sc__law_begun.nd (c_disp (cp_cons c_str (c_df D__law_folded b__law_folded rfl hr (by decide) (takes_of rfl rfl rfl rfl) (ca_cons (c_var 0) ca_nil)) (cp_cons c_str (c_lst ca_nil) (cp_cons c_str c_int cp_nil))))) (cb_cons (cs_sub rfl (hu_of hr) (c_comp [("_law_cell", 2)] rfl sc__law_begun.nd (ci_list (c_var 0) rfl) (blk_of (by kernel_rfl)) (fun _ _ _ _ _ => (cg_name 2 sc__law_begun.nd)) (fun _ _ _ _ _ => cts_nil) (fun _ _ _ _ _ => (c_if (ct_cmp (op_geA hr.units) ok_geA (c_var 2) (c_op op_pow ok_pow c_int c_int)) (c_var 2) c_int))) (c_var 1) c_str) (cb_one (cs_ret (c_var 1)))))
theorem sc__law_class : FnScope ["_law_error", "_law_rows", "_law_words", "_law_word", "_law_holds"] ["_law_error"] (defScope (top 35)) := ⟨rfl, rfl, rfl, by decide +kernel, rfl, by decide +kernel, by decide +kernel⟩
theorem b__law_class : BindsT "_law_class" "_law_class" (top 35) ["_law_error"] := fun _ _ _ _ _ _ us hl => match us, hl with | [_], _ => rfl
theorem D__law_class (T : Txt P cf mg) : Df P w cf mg base "_law_class" (top 35) ["_law_error"] 1 G__law_class :=
  df_of T.r__law_class sc__law_class (fs := F__law_class) RunOf.re fun _ _ _ _ _ _ _ hr => by
    unfold F__law_class
    exact (cb_cons (cs_set 1 sc__law_class.nd (c_lst (ca_cons (c_tup (ca_cons c_str (ca_cons (c_isiE rx_BadTies rfl T.b_isinstance T.g_BadTies (hy_BadTies T) (c_var 0)) ca_nil))) (ca_cons (c_tup (ca_cons c_str (ca_cons (c_isiE rx_BadStanding rfl T.b_isinstance T.g_BadStanding (hy_BadStanding T) (c_var 0)) ca_nil))) ca_nil)))) (cb_cons (cs_set 1 sc__law_class.nd (c_op op_addAll ok_addAll (c_var 1) (c_lst (ca_cons (c_tup (ca_cons c_str (ca_cons (c_isiE rx_BadTurn rfl T.b_isinstance T.g_BadTurn (hy_BadTurn T) (c_var 0)) ca_nil))) (ca_cons (c_tup (ca_cons c_str (ca_cons (c_isiE rx_BadNumber rfl T.b_isinstance T.g_BadNumber (hy_BadNumber T) (c_var 0)) ca_nil))) ca_nil))))) (cb_cons (cs_set 1 sc__law_class.nd (c_op op_addAll ok_addAll (c_var 1) (c_lst (ca_cons (c_tup (ca_cons c_str (ca_cons (c_isiE rx_Unlike rfl T.b_isinstance T.g_Unlike (hy_Unlike T) (c_var 0)) ca_nil))) (ca_cons (c_tup (ca_cons c_str (ca_cons (c_isiE rx_OneSided rfl T.b_isinstance T.g_OneSided (hy_OneSided T) (c_var 0)) ca_nil))) ca_nil))))) (cb_cons (cs_expr (c_bm PySem.F.plainAttrs_list PySem.F.slot_list_append PySem.F.type_list_append mt_append rfl isL_ok ok_append (c_var 1) (ca_cons (c_tup (ca_cons c_str (ca_cons (c_isiE rx_TooGreat rfl T.b_isinstance T.g_TooGreat (hy_TooGreat T) (c_var 0)) ca_nil))) ca_nil))) (cb_cons (cs_setComp 2 [("_law_word", 3), ("_law_holds", 4)] rfl sc__law_class.nd (ci_list (c_var 1) rfl) (blk_of (by kernel_rfl)) (fun _ _ _ _ _ => (cg_tup rfl (cgs_cons (cg_name 3 sc__law_class.nd) (cgs_cons (cg_name 4 sc__law_class.nd) cgs_nil)))) (fun _ _ _ _ _ => (cts_one (ct_val (c_var 4)))) (fun _ _ _ _ _ => (c_var 3)) (sw_true rfl rfl rfl (by decide +kernel))) (cb_cons (cs_if (ct_cmp (op_neD hr.units) ok_ne (c_callB call_lenAll ok_len T.b_len PySem.boot_len (ca_cons (c_var 2) ca_nil)) c_int) (cb_one (cs_ret (c_tup (ca_cons c_str ca_nil)))) cb_nil) (cb_cons (cs_if (ct_in rfl (hu_of hr) (c_ix rfl (hu_of hr) (c_var 2) c_int) (c_tup (ca_cons c_str (ca_cons c_str (ca_cons c_str ca_nil))))) (cb_one (cs_ret (c_tup (ca_cons (c_ix rfl (hu_of hr) (c_var 2) c_int) (ca_cons (c_fldE tx_place rfl (hx_place T) (c_var 0)) ca_nil))))) cb_nil) (cb_cons (cs_if (ct_in rfl (hu_of hr) (c_ix rfl (hu_of hr) (c_var 2) c_int) (c_tup (ca_cons c_str (ca_cons c_str ca_nil)))) (cb_one (cs_ret (c_tup (ca_cons (c_ix rfl (hu_of hr) (c_var 2) c_int) (ca_cons (c_fldE tx_number rfl (hx_number T) (c_var 0)) ca_nil))))) cb_nil) (cb_one (cs_ret (c_tup (ca_cons (c_ix rfl (hu_of hr) (c_var 2) c_int) (ca_cons (c_if (ct_cmp (op_eqD hr.units) ok_eq (c_ix rfl (hu_of hr) (c_var 2) c_int) c_str) (c_fldE tx_most rfl (hx_most T) (c_var 0)) (c_fldE tx_value rfl (hx_value T) (c_var 0))) ca_nil)))))))))))))
theorem sc__law_mixed : FnScope ["_law_cell", "_law_n", "_law_blend"] ["_law_cell", "_law_n"] (defScope (top 25)) := ⟨rfl, rfl, rfl, by decide +kernel, rfl, by decide +kernel, by decide +kernel⟩
theorem b__law_mixed : BindsT "_law_mixed" "_law_mixed" (top 25) ["_law_cell", "_law_n"] := fun _ _ _ _ _ _ us hl => match us, hl with | [_, _], _ => rfl
theorem D__law_mixed (T : Txt P cf mg) : Df P w cf mg base "_law_mixed" (top 25) ["_law_cell", "_law_n"] 1 G__law_mixed :=
  df_of T.r__law_mixed sc__law_mixed (fs := F__law_mixed) RunOf.gc fun _ _ _ _ _ _ _ hr => by
    unfold F__law_mixed
    exact (cb_cons (cs_set 2 sc__law_mixed.nd (c_op op_addAll ok_addAll (c_op op_addAll ok_addAll (c_op op_mod ok_mod (c_callTy call_int1 ok_int T.b_int PyProof.Rows.boot_int (ca_cons (c_op op_mulAll ok_mulAll (c_op op_mulAll ok_mulAll (c_var 0) (c_op op_addAll ok_addAll c_int (c_op op_mulAll ok_mulAll c_int (c_var 1)))) c_int) ca_nil)) c_int) (c_op op_mulAll ok_mulAll (c_op op_mulAll ok_mulAll c_int (c_var 1)) (c_var 1))) (c_op op_mulAll ok_mulAll c_int (c_var 1)))) (cb_one (cs_ret (c_op op_fdiv ok_div (c_op op_mod ok_mod (c_callTy call_int1 ok_int T.b_int PyProof.Rows.boot_int (ca_cons (c_op op_mulAll ok_mulAll (c_var 2) c_int) ca_nil)) c_int) c_int))))
theorem sc__law_draw : FnScope ["_law_m", "_law_limit", "_law_n", "_law_lot", "_law_here", "_law_cell"] ["_law_m", "_law_limit"] (defScope (top 27)) := ⟨rfl, rfl, rfl, by decide +kernel, rfl, by decide +kernel, by decide +kernel⟩
theorem b__law_draw : BindsT "_law_draw" "_law_draw" (top 27) ["_law_m", "_law_limit"] := fun _ _ _ _ _ _ us hl => match us, hl with | [_, _], _ => rfl
theorem D__law_draw (T : Txt P cf mg) (D__law_mixed : Df P w cf mg base "_law_mixed" (top 25) ["_law_cell", "_law_n"] 1 G__law_mixed) : Df P w cf mg base "_law_draw" (top 27) ["_law_m", "_law_limit"] 2 G__law_draw :=
  df_of T.r__law_draw sc__law_draw (fs := F__law_draw) RunOf.gc fun _ _ _ _ _ _ _ hr => by
    unfold F__law_draw
    exact (cb_cons (cs_set 2 sc__law_draw.nd (c_ix rfl (hu_of hr) (c_var 0) c_str)) (cb_cons (cs_sub rfl (hu_of hr) (c_op op_addAll ok_addAll (c_var 2) c_int) (c_var 0) c_str) (cb_cons (cs_if (ct_cmp (op_neD hr.units) ok_ne (c_ix rfl (hu_of hr) (c_var 0) c_str) (c_lst ca_nil)) (cb_cons (cs_set 3 sc__law_draw.nd (c_ix rfl (hu_of hr) (c_var 0) c_str)) (cb_cons (cs_set 4 sc__law_draw.nd (c_op op_mod ok_mod (c_callTy call_int1 ok_int T.b_int PyProof.Rows.boot_int (ca_cons (c_var 2) ca_nil)) (c_callB call_lenAll ok_len T.b_len PySem.boot_len (ca_cons (c_var 3) ca_nil)))) (cb_cons (cs_set 5 sc__law_draw.nd (c_ix rfl (hu_of hr) (c_var 3) (c_var 4))) (cb_one (cs_if (ct_cmp (op_gtA hr.units) ok_gtA (c_var 5) c_int) (cb_cons (cs_sub rfl (hu_of hr) (c_op op_fdiv ok_div (c_var 5) (c_var 1)) (c_var 3) (c_var 4)) (cb_one (cs_ret (c_op op_mod ok_mod (c_callTy call_int1 ok_int T.b_int PyProof.Rows.boot_int (ca_cons (c_var 5) ca_nil)) (c_var 1))))) cb_nil))))) cb_nil) (cb_cons (cs_set 3 sc__law_draw.nd (c_ix rfl (hu_of hr) (c_var 0) c_str)) (cb_one (cs_ret (c_op op_mod ok_mod (c_callTy call_int1 ok_int T.b_int PyProof.Rows.boot_int (ca_cons (c_df D__law_mixed b__law_mixed rfl hr (by decide) (takes_of rfl rfl rfl rfl) (ca_cons (c_df D__law_mixed b__law_mixed rfl hr (by decide) (takes_of rfl rfl rfl rfl) (ca_cons (c_op op_addAll ok_addAll (c_ix rfl (hu_of hr) (c_var 3) (c_op op_mod ok_mod (c_callTy call_int1 ok_int T.b_int PyProof.Rows.boot_int (ca_cons (c_var 2) ca_nil)) c_int)) (c_op op_mulAll ok_mulAll c_int (c_op op_fdiv ok_div (c_var 2) c_int))) (ca_cons (c_var 2) ca_nil))) (ca_cons (c_op op_addAll ok_addAll (c_var 2) c_int) ca_nil))) ca_nil)) (c_var 1))))))))
theorem sc__law_coins : FnScope ["_law_m", "_law_many", "_law_n"] ["_law_m", "_law_many"] (defScope (top 32)) := ⟨rfl, rfl, rfl, by decide +kernel, rfl, by decide +kernel, by decide +kernel⟩
theorem b__law_coins : BindsT "_law_coins" "_law_coins" (top 32) ["_law_m", "_law_many"] := fun _ _ _ _ _ _ us hl => match us, hl with | [_, _], _ => rfl
theorem D__law_coins (T : Txt P cf mg) (D__law_draw : Df P w cf mg base "_law_draw" (top 27) ["_law_m", "_law_limit"] 2 G__law_draw) : Df P w cf mg base "_law_coins" (top 32) ["_law_m", "_law_many"] 3 G__law_coins :=
  df_of T.r__law_coins sc__law_coins (fs := F__law_coins) RunOf.re fun _ _ _ _ _ _ _ hr => by
    unfold F__law_coins
    exact (cb_one (cs_ret (c_callTy call_tuple_of ok_tuple T.b_tuple PyProof.Rows.boot_tuple (ca_cons (c_comp [("_law_n", 2)] rfl sc__law_coins.nd (ci_range1 rfl T.b_range (ca_cons (c_var 1) ca_nil)) (blk_of (by kernel_rfl)) (fun _ _ _ _ _ => (cg_name 2 sc__law_coins.nd)) (fun _ _ _ _ _ => cts_nil) (fun _ _ _ _ _ => (c_df D__law_draw b__law_draw rfl hr (by decide) takes0 (ca_cons (c_var 0) (ca_cons c_int ca_nil))))) ca_nil))))
theorem sc__law_turned : FnScope ["_law_standing", "_law_turn", "_law_n"] ["_law_standing", "_law_turn"] (defScope (top 33)) := ⟨rfl, rfl, rfl, by decide +kernel, rfl, by decide +kernel, by decide +kernel⟩
theorem b__law_turned : BindsT "_law_turned" "_law_turned" (top 33) ["_law_standing", "_law_turn"] := fun _ _ _ _ _ _ us hl => match us, hl with | [_, _], _ => rfl
theorem D__law_turned (T : Txt P cf mg) : Df P w cf mg base "_law_turned" (top 33) ["_law_standing", "_law_turn"] 1 G__law_turned :=
  df_of T.r__law_turned sc__law_turned (fs := F__law_turned) RunOf.re fun _ _ _ _ _ _ _ hr => by
    unfold F__law_turned
    exact (cb_one (cs_ret (c_callTy call_tuple_of ok_tuple T.b_tuple PyProof.Rows.boot_tuple (ca_cons (c_comp [("_law_n", 2)] rfl sc__law_turned.nd (ci_range1 rfl T.b_range (ca_cons (c_callB call_lenAll ok_len T.b_len PySem.boot_len (ca_cons (c_var 0) ca_nil)) ca_nil)) (blk_of (by kernel_rfl)) (fun _ _ _ _ _ => (cg_name 2 sc__law_turned.nd)) (fun _ _ _ _ _ => cts_nil) (fun _ _ _ _ _ => (c_if (ct_in rfl (hu_of hr) (c_var 2) (c_var 1)) (c_op op_sub ok_sub c_int (c_ix rfl (hu_of hr) (c_var 0) (c_var 2))) (c_ix rfl (hu_of hr) (c_var 0) (c_var 2))))) ca_nil))))
theorem sc__law_turns : FnScope ["_law_ties_here", "_law_standing", "_law_tie"] ["_law_ties_here", "_law_standing"] (defScope (top 34)) := ⟨rfl, rfl, rfl, by decide +kernel, rfl, by decide +kernel, by decide +kernel⟩
theorem b__law_turns : BindsT "_law_turns" "_law_turns" (top 34) ["_law_ties_here", "_law_standing"] := fun _ _ _ _ _ _ us hl => match us, hl with | [_, _], _ => rfl
theorem D__law_turns (T : Txt P cf mg) : Df P w cf mg base "_law_turns" (top 34) ["_law_ties_here", "_law_standing"] 1 G__law_turns :=
  df_of T.r__law_turns sc__law_turns (fs := F__law_turns) RunOf.re fun _ _ _ _ _ _ _ hr => by
    unfold F__law_turns
    exact (cb_one (cs_ret (c_comp [("_law_tie", 2)] rfl sc__law_turns.nd (ci_list (c_var 0) rfl) (blk_of (by kernel_rfl)) (fun _ _ _ _ _ => (cg_name 2 sc__law_turns.nd)) (fun _ _ _ _ _ => (cts_one (ct_cmp (op_eqD hr.units) ok_eq (c_ix rfl (hu_of hr) (c_var 1) (c_ix rfl (hu_of hr) (c_var 2) c_int)) (c_ix rfl (hu_of hr) (c_var 1) (c_ix rfl (hu_of hr) (c_var 2) c_int))))) (fun _ _ _ _ _ => (c_var 2)))))
theorem sc__law_order : FnScope ["_law_m", "_law_many", "_law_rest", "_law_found"] ["_law_m", "_law_many"] (defScope (top 31)) := ⟨rfl, rfl, rfl, by decide +kernel, rfl, by decide +kernel, by decide +kernel⟩
theorem b__law_order : BindsT "_law_order" "_law_order" (top 31) ["_law_m", "_law_many"] := fun _ _ _ _ _ _ us hl => match us, hl with | [_, _], _ => rfl
theorem D__law_order (T : Txt P cf mg) (D__law_draw : Df P w cf mg base "_law_draw" (top 27) ["_law_m", "_law_limit"] 2 G__law_draw) : Df P w cf mg base "_law_order" (top 31) ["_law_m", "_law_many"] 3 G__law_order :=
  df_of T.r__law_order sc__law_order (fs := F__law_order) RunOf.re fun _ _ _ _ _ _ _ hr => by
    unfold F__law_order
    exact (cb_cons (by first | exact cs_par2 rfl sc__law_order.nd (ca_cons (c_listRg rfl T.b_list T.b_range (c_var 1)) (ca_cons (c_lst ca_nil) ca_nil)) | exact cs_asg (c_tup (ca_cons (c_listRg rfl T.b_list T.b_range (c_var 1)) (ca_cons (c_lst ca_nil) ca_nil))) (cg_tup rfl (cgs_cons (cg_name 2 sc__law_order.nd) (cgs_cons (cg_name 3 sc__law_order.nd) cgs_nil)))) (cb_cons (cs_while (passes_of rfl) (ct_cmp (op_neD hr.units) ok_ne (c_var 2) (c_lst ca_nil)) (cb_one (cs_expr (c_bm PySem.F.plainAttrs_list PySem.F.slot_list_append PySem.F.type_list_append mt_append rfl isL_ok ok_append (c_var 3) (ca_cons (c_bm PySem.F.plainAttrs_list PySem.F.slot_list_pop PySem.F.type_list_pop mt_popAt rfl isL_ok ok_popAt (c_var 2) (ca_cons (c_df D__law_draw b__law_draw rfl hr (by decide) (takes_of rfl rfl rfl rfl) (ca_cons (c_var 0) (ca_cons (c_callB call_lenAll ok_len T.b_len PySem.boot_len (ca_cons (c_var 2) ca_nil)) ca_nil))) ca_nil)) ca_nil))))) (cb_one (cs_ret (c_var 3)))))
theorem sc__law_ties : FnScope ["_law_m", "_law_many", "_law_way", "_law_found", "_law_b", "_law_a"] ["_law_m", "_law_many", "_law_way"] (defScope (top 29)) := ⟨rfl, rfl, rfl, by decide +kernel, rfl, by decide +kernel, by decide +kernel⟩
theorem b__law_ties : BindsT "_law_ties" "_law_ties" (top 29) ["_law_m", "_law_many", "_law_way"] := fun _ _ _ _ _ _ us hl => match us, hl with | [_, _, _], _ => rfl
theorem D__law_ties (T : Txt P cf mg) (D__law_draw : Df P w cf mg base "_law_draw" (top 27) ["_law_m", "_law_limit"] 2 G__law_draw) : Df P w cf mg base "_law_ties" (top 29) ["_law_m", "_law_many", "_law_way"] 3 G__law_ties :=
  df_of T.r__law_ties sc__law_ties (fs := F__law_ties) RunOf.re fun _ _ _ _ _ _ _ hr => by
    unfold F__law_ties
    exact (cb_cons (cs_set 3 sc__law_ties.nd c_dT) (cb_cons (cs_for (passes_of rfl) rfl (ci_range2 rfl T.b_range (ca_cons c_int (ca_cons (c_var 1) ca_nil))) (cg_name 4 sc__law_ties.nd) (cb_cons (cs_if (ct_in rfl (hu_of hr) (c_var 2) (c_tup (ca_cons c_int (ca_cons c_int ca_nil)))) (cb_one (cs_sub rfl (hu_of hr) c_bl (c_var 3) (c_tup (ca_cons (c_op op_sub ok_sub (c_var 4) c_int) (ca_cons (c_var 4) ca_nil))))) cb_nil) (cb_cons (cs_if (ct_cmp (op_eqD hr.units) ok_eq (c_var 2) c_int) (cb_one (cs_sub rfl (hu_of hr) c_bl (c_var 3) (c_tup (ca_cons (c_df D__law_draw b__law_draw rfl hr (by decide) (takes_of rfl rfl rfl rfl) (ca_cons (c_var 0) (ca_cons (c_var 4) ca_nil))) (ca_cons (c_var 4) ca_nil))))) cb_nil) (cb_one (cs_for (passes_of rfl) rfl (ci_range1 rfl T.b_range (ca_cons (c_var 4) ca_nil)) (cg_name 5 sc__law_ties.nd) (cb_one (cs_if (CW.ct (cw_or (CW.ct (cw_and (ct_cmp (op_eqD hr.units) ok_eq (c_var 2) c_int) (cw_and1 (ct_cmp (op_eqD hr.units) ok_eq (c_df D__law_draw b__law_draw rfl hr (by decide) (takes_of rfl rfl rfl rfl) (ca_cons (c_var 0) (ca_cons c_int ca_nil))) c_int)))) (cw_or1 (CW.ct (cw_and (ct_cmp (op_eqD hr.units) ok_eq (c_var 2) c_int) (cw_and (ct_cmp (op_eqD hr.units) ok_eq (c_op op_mod ok_mod (c_callTy call_int1 ok_int T.b_int PyProof.Rows.boot_int (ca_cons (c_op op_sub ok_sub (c_var 4) (c_var 5)) ca_nil)) c_int) c_int) (cw_and1 (ct_cmp (op_eqD hr.units) ok_eq (c_df D__law_draw b__law_draw rfl hr (by decide) (takes_of rfl rfl rfl rfl) (ca_cons (c_var 0) (ca_cons c_int ca_nil))) c_int)))))))) (cb_one (cs_sub rfl (hu_of hr) c_bl (c_var 3) (c_tup (ca_cons (c_var 5) (ca_cons (c_var 4) ca_nil))))) cb_nil))))))) (cb_cons (cs_if (CW.ct (cw_and (ct_cmp (op_eqD hr.units) ok_eq (c_var 2) c_int) (cw_and1 (ct_cmp (op_gtA hr.units) ok_gtA (c_var 1) c_int)))) (cb_one (cs_sub rfl (hu_of hr) c_bl (c_var 3) (c_tup (ca_cons c_int (ca_cons (c_op op_sub ok_sub (c_var 1) c_int) ca_nil))))) cb_nil) (cb_cons (cs_if (ct_cmp (op_eqD hr.units) ok_eq (c_var 2) c_int) (cb_one (cs_for (passes_of rfl) rfl (ci_range2 rfl T.b_range (ca_cons c_int (ca_cons (c_var 1) ca_nil))) (cg_name 4 sc__law_ties.nd) (cb_cons (cs_set 5 sc__law_ties.nd (c_df D__law_draw b__law_draw rfl hr (by decide) (takes_of rfl rfl rfl rfl) (ca_cons (c_var 0) (ca_cons (c_var 4) ca_nil)))) (cb_cons (cs_sub rfl (hu_of hr) c_bl (c_var 3) (c_tup (ca_cons (c_var 5) (ca_cons (c_var 4) ca_nil)))) (cb_one (cs_sub rfl (hu_of hr) c_bl (c_var 3) (c_tup (ca_cons c_int (ca_cons (c_var 4) ca_nil))))))))) cb_nil) (cb_one (cs_ret (c_slice rfl (c_callTy call_tuple_of ok_tuple T.b_tuple PyProof.Rows.boot_tuple (ca_cons (c_callB call_sorted ok_sorted T.b_sorted PyProof.Rows.boot_sorted (ca_cons (c_callTy (call_listAll rfl) ok_listAll T.b_list PyProof.Rows.boot_list (ca_cons (c_var 3) ca_nil)) ca_nil)) ca_nil)) co_none (co_some c_int))))))))
theorem sc__law_web : FnScope ["_law_m", "_law_most", "_law_many", "_law_way", "_law_order_here", "_law_ties_here", "_law_a", "_law_b"] ["_law_m", "_law_most"] (defScope (top 30)) := ⟨rfl, rfl, rfl, by decide +kernel, rfl, by decide +kernel, by decide +kernel⟩
theorem b__law_web : BindsT "_law_web" "_law_web" (top 30) ["_law_m", "_law_most"] := fun _ _ _ _ _ _ us hl => match us, hl with | [_, _], _ => rfl
theorem D__law_web (T : Txt P cf mg) (D__law_draw : Df P w cf mg base "_law_draw" (top 27) ["_law_m", "_law_limit"] 2 G__law_draw) (D__law_order : Df P w cf mg base "_law_order" (top 31) ["_law_m", "_law_many"] 3 G__law_order) (D__law_ties : Df P w cf mg base "_law_ties" (top 29) ["_law_m", "_law_many", "_law_way"] 3 G__law_ties) : Df P w cf mg base "_law_web" (top 30) ["_law_m", "_law_most"] 4 G__law_web :=
  df_of T.r__law_web sc__law_web (fs := F__law_web) RunOf.re fun _ _ _ _ _ _ _ hr => by
    unfold F__law_web
    exact (cb_cons (by first | exact cs_par2 rfl sc__law_web.nd (ca_cons (c_op op_addAll ok_addAll c_int (c_df D__law_draw b__law_draw rfl hr (by decide) (takes_of rfl rfl rfl rfl) (ca_cons (c_var 0) (ca_cons (c_var 1) ca_nil)))) (ca_cons (c_df D__law_draw b__law_draw rfl hr (by decide) (takes_of rfl rfl rfl rfl) (ca_cons (c_var 0) (ca_cons c_int ca_nil))) ca_nil)) | exact cs_asg (c_tup (ca_cons (c_op op_addAll ok_addAll c_int (c_df D__law_draw b__law_draw rfl hr (by decide) (takes_of rfl rfl rfl rfl) (ca_cons (c_var 0) (ca_cons (c_var 1) ca_nil)))) (ca_cons (c_df D__law_draw b__law_draw rfl hr (by decide) (takes_of rfl rfl rfl rfl) (ca_cons (c_var 0) (ca_cons c_int ca_nil))) ca_nil))) (cg_tup rfl (cgs_cons (cg_name 2 sc__law_web.nd) (cgs_cons (cg_name 3 sc__law_web.nd) cgs_nil)))) (cb_cons (cs_set 4 sc__law_web.nd (c_df D__law_order b__law_order rfl hr (by decide) (takes_of rfl rfl rfl rfl) (ca_cons (c_var 0) (ca_cons (c_var 2) ca_nil)))) (cb_cons (cs_setComp 5 [("_law_a", 6), ("_law_b", 7)] rfl sc__law_web.nd (ci_list (c_df D__law_ties b__law_ties rfl hr (by decide) (takes_of rfl rfl rfl rfl) (ca_cons (c_var 0) (ca_cons (c_var 2) (ca_cons (c_var 3) ca_nil)))) rfl) (blk_of (by kernel_rfl)) (fun _ _ _ _ _ => (cg_tup rfl (cgs_cons (cg_name 6 sc__law_web.nd) (cgs_cons (cg_name 7 sc__law_web.nd) cgs_nil)))) (fun _ _ _ _ _ => cts_nil) (fun _ _ _ _ _ => (c_tup (ca_cons (c_callB (call_min2 rfl) ok_min2 T.b_min PyProof.Rows.boot_min (ca_cons (c_ix rfl (hu_of hr) (c_var 4) (c_var 6)) (ca_cons (c_ix rfl (hu_of hr) (c_var 4) (c_var 7)) ca_nil))) (ca_cons (c_callB (call_max2 rfl) ok_max2 T.b_max PyProof.Rows.boot_max (ca_cons (c_ix rfl (hu_of hr) (c_var 4) (c_var 6)) (ca_cons (c_ix rfl (hu_of hr) (c_var 4) (c_var 7)) ca_nil))) ca_nil)))) (sw_true rfl rfl rfl (by decide +kernel))) (cb_one (cs_ret (c_tup (ca_cons (c_var 2) (ca_cons (c_callTy call_tuple_of ok_tuple T.b_tuple PyProof.Rows.boot_tuple (ca_cons (c_callB call_sorted ok_sorted T.b_sorted PyProof.Rows.boot_sorted (ca_cons (c_var 5) ca_nil)) ca_nil)) ca_nil))))))))
theorem sc_is_turn : FnScope ["web", "standing", "turn"] ["web", "standing", "turn"] (defScope (top 20)) := ⟨rfl, rfl, rfl, by decide +kernel, rfl, by decide +kernel, by decide +kernel⟩
theorem b_is_turn : BindsT "is_turn" "is_turn" (top 20) ["web", "standing", "turn"] := fun _ _ _ _ _ _ us hl => match us, hl with | [_, _, _], _ => rfl
theorem D_is_turn (T : Txt P cf mg) (D_is_tie : Df P w cf mg base "is_tie" (top 15) ["value", "many"] 3 G_is_tie) : Df P w cf mg base "is_turn" (top 20) ["web", "standing", "turn"] 4 G_is_turn :=
  df_of T.r_is_turn sc_is_turn (fs := F_is_turn) RunOf.re fun _ _ _ _ _ _ _ hr => by
    unfold F_is_turn
    exact (cb_cons (cs_if (CW.ct (cw_or (ct_not (ct_val (c_df D_is_tie b_is_tie rfl hr (by decide) (takes_of rfl rfl rfl rfl) (ca_cons (c_var 2) (ca_cons (c_fld ti_many ts_many rfl (hi_many T) (hs_many T) (c_var 0)) ca_nil))))) (cw_or1 (ct_notIn rfl (hu_of hr) (c_ix rfl (hu_of hr) (c_var 2) c_int) (c_ix rfl (hu_of hr) (c_fld ti_near ts_near rfl (hi_near T) (hs_near T) (c_var 0)) (c_ix rfl (hu_of hr) (c_var 2) c_int)))))) (cb_one (cs_ret c_bl)) cb_nil) (cb_one (cs_ret (c_cmp (op_eqD hr.units) ok_eq (c_ix rfl (hu_of hr) (c_var 1) (c_ix rfl (hu_of hr) (c_var 2) c_int)) (c_ix rfl (hu_of hr) (c_var 1) (c_ix rfl (hu_of hr) (c_var 2) c_int))))))
theorem sc_turned : FnScope ["standing", "turn", "place", "coin"] ["standing", "turn"] (defScope (top 21)) := ⟨rfl, rfl, rfl, by decide +kernel, rfl, by decide +kernel, by decide +kernel⟩
theorem b_turned : BindsT "turned" "turned" (top 21) ["standing", "turn"] := fun _ _ _ _ _ _ us hl => match us, hl with | [_, _], _ => rfl
theorem D_turned (T : Txt P cf mg) : Df P w cf mg base "turned" (top 21) ["standing", "turn"] 1 G_turned :=
  df_of T.r_turned sc_turned (fs := F_turned) RunOf.re fun _ _ _ _ _ _ _ hr => by
    unfold F_turned
    exact (cb_one (cs_ret (c_callTy call_tuple_of ok_tuple T.b_tuple PyProof.Rows.boot_tuple (ca_cons (c_comp [("place", 2), ("coin", 3)] rfl sc_turned.nd (ci_enum rfl T.b_enumerate (c_var 0)) (blk_of (by kernel_rfl)) (fun _ _ _ _ _ => (cg_tup rfl (cgs_cons (cg_name 2 sc_turned.nd) (cgs_cons (cg_name 3 sc_turned.nd) cgs_nil)))) (fun _ _ _ _ _ => cts_nil) (fun _ _ _ _ _ => (c_if (ct_in rfl (hu_of hr) (c_var 2) (c_var 1)) (c_op op_sub ok_sub c_int (c_var 3)) (c_var 3)))) ca_nil))))
theorem sc_done_at : FnScope ["web", "standing", "turn", "number"] ["web", "standing", "turn", "number"] (defScope (top 22)) := ⟨rfl, rfl, rfl, by decide +kernel, rfl, by decide +kernel, by decide +kernel⟩
theorem b_done_at : BindsT "done_at" "done_at" (top 22) ["web", "standing", "turn", "number"] := fun _ _ _ _ _ _ us hl => match us, hl with | [_, _, _, _], _ => rfl
theorem D_done_at (T : Txt P cf mg) (D_is_turn : Df P w cf mg base "is_turn" (top 20) ["web", "standing", "turn"] 4 G_is_turn) (D_turned : Df P w cf mg base "turned" (top 21) ["standing", "turn"] 1 G_turned) : Df P w cf mg base "done_at" (top 22) ["web", "standing", "turn", "number"] 5 G_done_at :=
  df_of T.r_done_at sc_done_at (fs := F_done_at) RunOf.re fun _ _ _ _ _ _ _ hr => by
    unfold F_done_at
    exact (cb_cons (cs_if (ct_not (ct_val (c_df D_is_turn b_is_turn rfl hr (by decide) (takes_of rfl rfl rfl rfl) (ca_cons (c_var 0) (ca_cons (c_var 1) (ca_cons (c_var 2) ca_nil)))))) (cb_one (cs_raise1 T.x_BadTurn rfl rfl hr (takes_of rfl rfl rfl rfl) (c_var 3))) cb_nil) (cb_one (cs_ret (c_df D_turned b_turned rfl hr (by decide) (takes_of rfl rfl rfl rfl) (ca_cons (c_var 1) (ca_cons (c_var 2) ca_nil))))))
theorem sc_need_standing : FnScope ["web", "standing", "place", "coin"] ["web", "standing"] (defScope (top 19)) := ⟨rfl, rfl, rfl, by decide +kernel, rfl, by decide +kernel, by decide +kernel⟩
theorem b_need_standing : BindsT "need_standing" "need_standing" (top 19) ["web", "standing"] := fun _ _ _ _ _ _ us hl => match us, hl with | [_, _], _ => rfl
theorem D_need_standing (T : Txt P cf mg) (D_is_among : Df P w cf mg base "is_among" (top 13) ["value", "least", "most"] 2 G_is_among) (D_is_list : Df P w cf mg base "is_list" (top 14) ["value"] 1 G_is_list) : Df P w cf mg base "need_standing" (top 19) ["web", "standing"] 3 G_need_standing :=
  df_of T.r_need_standing sc_need_standing (fs := F_need_standing) RunOf.re fun _ _ _ _ _ _ _ hr => by
    unfold F_need_standing
    exact (cb_cons (cs_if (CW.ct (cw_or (ct_not (ct_val (c_df D_is_list b_is_list rfl hr (by decide) (takes_of rfl rfl rfl rfl) (ca_cons (c_var 1) ca_nil)))) (cw_or1 (ct_cmp (op_neD hr.units) ok_ne (c_callB call_lenAll ok_len T.b_len PySem.boot_len (ca_cons (c_var 1) ca_nil)) (c_fld ti_many ts_many rfl (hi_many T) (hs_many T) (c_var 0)))))) (cb_one (cs_raise1 T.x_BadStanding rfl rfl hr (takes_of rfl rfl rfl rfl) c_non)) cb_nil) (cb_one (cs_for (passes_of rfl) rfl (ci_enum rfl T.b_enumerate (c_var 1)) (cg_tup rfl (cgs_cons (cg_name 2 sc_need_standing.nd) (cgs_cons (cg_name 3 sc_need_standing.nd) cgs_nil))) (cb_one (cs_if (ct_not (ct_val (c_df D_is_among b_is_among rfl hr (by decide) (takes_of rfl rfl rfl rfl) (ca_cons (c_var 3) (ca_cons c_int (ca_cons c_int ca_nil)))))) (cb_one (cs_raise1 T.x_BadStanding rfl rfl hr (takes_of rfl rfl rfl rfl) (c_var 2))) cb_nil)))))
theorem sc_walked : FnScope ["web", "standing", "turns", "here", "number", "turn"] ["web", "standing", "turns"] (defScope (top 23)) := ⟨rfl, rfl, rfl, by decide +kernel, rfl, by decide +kernel, by decide +kernel⟩
theorem b_walked : BindsT "walked" "walked" (top 23) ["web", "standing", "turns"] := fun _ _ _ _ _ _ us hl => match us, hl with | [_, _, _], _ => rfl
theorem D_walked (T : Txt P cf mg) (D_done_at : Df P w cf mg base "done_at" (top 22) ["web", "standing", "turn", "number"] 5 G_done_at) (D_is_list : Df P w cf mg base "is_list" (top 14) ["value"] 1 G_is_list) (D_need_standing : Df P w cf mg base "need_standing" (top 19) ["web", "standing"] 3 G_need_standing) : Df P w cf mg base "walked" (top 23) ["web", "standing", "turns"] 6 G_walked :=
  df_of T.r_walked sc_walked (fs := F_walked) RunOf.re fun _ _ _ _ _ _ _ hr => by
    unfold F_walked
    exact (cb_cons (cs_expr (c_df D_need_standing b_need_standing rfl hr (by decide) (takes_of rfl rfl rfl rfl) (ca_cons (c_var 0) (ca_cons (c_var 1) ca_nil)))) (cb_cons (cs_if (ct_not (ct_val (c_df D_is_list b_is_list rfl hr (by decide) (takes_of rfl rfl rfl rfl) (ca_cons (c_var 2) ca_nil)))) (cb_one (cs_raise1 T.x_BadTurn rfl rfl hr (takes_of rfl rfl rfl rfl) c_non)) cb_nil) (cb_cons (cs_set 3 sc_walked.nd (c_callTy call_tuple_of ok_tuple T.b_tuple PyProof.Rows.boot_tuple (ca_cons (c_var 1) ca_nil))) (cb_cons (cs_for (passes_of rfl) rfl (ci_enum rfl T.b_enumerate (c_var 2)) (cg_tup rfl (cgs_cons (cg_name 4 sc_walked.nd) (cgs_cons (cg_name 5 sc_walked.nd) cgs_nil))) (cb_one (cs_set 3 sc_walked.nd (c_df D_done_at b_done_at rfl hr (by decide) (takes_of rfl rfl rfl rfl) (ca_cons (c_var 0) (ca_cons (c_var 3) (ca_cons (c_var 5) (ca_cons (c_var 4) ca_nil)))))))) (cb_one (cs_ret (c_var 3)))))))
theorem sc_law : FnScope ["_law_script", "_law_m", "_law_most", "_law_many", "_law_ties_here", "_law_web_here", "_law_standing", "_law_row", "_law_here", "_law_n", "_law_some", "_law_handed", "_law_copy_so", "_law_coins_here", "_law_k", "_law_odd", "_law_bent", "_law_wrong", "_law_line"] ["_law_script"] (defScope (top 37)) := ⟨rfl, rfl, rfl, by decide +kernel, rfl, by decide +kernel, by decide +kernel⟩
theorem b_law : BindsT "law" "law" (top 37) ["_law_script"] := fun _ _ _ _ _ _ us hl => match us, hl with | [_], _ => rfl
theorem D_law (T : Txt P cf mg) (hB : ∀ q ∈ cf.lam, LamX.TabB base mg q.2.1 q.2.2) (D_Web___init__ : Mf P w cf mg base 0 "__init__" "Web.__init__" (inClass (top 17) 1) ["self", "many", "ties"] 5 G_Web___init__) (D__law_begun : Df P w cf mg base "_law_begun" (top 28) ["_law_script"] 2 G__law_begun) (D__law_class : Df P w cf mg base "_law_class" (top 35) ["_law_error"] 1 G__law_class) (D__law_coins : Df P w cf mg base "_law_coins" (top 32) ["_law_m", "_law_many"] 3 G__law_coins) (D__law_draw : Df P w cf mg base "_law_draw" (top 27) ["_law_m", "_law_limit"] 2 G__law_draw) (D__law_turned : Df P w cf mg base "_law_turned" (top 33) ["_law_standing", "_law_turn"] 1 G__law_turned) (D__law_turns : Df P w cf mg base "_law_turns" (top 34) ["_law_ties_here", "_law_standing"] 1 G__law_turns) (D__law_web : Df P w cf mg base "_law_web" (top 30) ["_law_m", "_law_most"] 4 G__law_web) (D_walked : Df P w cf mg base "walked" (top 23) ["web", "standing", "turns"] 6 G_walked) : DfG P w cf mg base "law" (top 37) ["_law_script"] 9 G_law := by
  obtain ⟨c0, pT, hL, hu, R⟩ := T.l_law.ex
  exact dfG_ofL R sc_law (fs := F_law) RunOf.re fun _ _ _ _ _ _ hg hr => by
    unfold F_law
    exact (cb_cons (cs_set 1 sc_law.nd (c_df D__law_begun b__law_begun rfl hr (by decide) (takes_of rfl rfl rfl rfl) (ca_cons (c_var 0) ca_nil))) (cb_cons (cs_for (passes_of rfl) rfl (ci_list (c_tup (ca_cons c_int (ca_cons c_int (ca_cons c_int ca_nil)))) rfl) (cg_name 2 sc_law.nd) (cb_cons (cs_asg (c_df D__law_web b__law_web rfl hr (by decide) (takes_of rfl rfl rfl rfl) (ca_cons (c_var 1) (ca_cons (c_var 2) ca_nil))) (cg_tup rfl (cgs_cons (cg_name 3 sc_law.nd) (cgs_cons (cg_name 4 sc_law.nd) cgs_nil)))) (cb_cons (by first | exact cs_par3 rfl sc_law.nd (ca_cons (c_mk (.slt 0 []) (.inr rfl) D_Web___init__ T.m_Web b_Web___init__ rfl hr (by decide) (takes_of rfl rfl rfl rfl) (ca_cons (c_var 3) (ca_cons (c_var 4) ca_nil))) (ca_cons (c_df D__law_coins b__law_coins rfl hr (by decide) (takes_of rfl rfl rfl rfl) (ca_cons (c_var 1) (ca_cons (c_var 3) ca_nil))) (ca_cons (c_lst ca_nil) ca_nil))) | exact cs_asg (c_tup (ca_cons (c_mk (.slt 0 []) (.inr rfl) D_Web___init__ T.m_Web b_Web___init__ rfl hr (by decide) (takes_of rfl rfl rfl rfl) (ca_cons (c_var 3) (ca_cons (c_var 4) ca_nil))) (ca_cons (c_df D__law_coins b__law_coins rfl hr (by decide) (takes_of rfl rfl rfl rfl) (ca_cons (c_var 1) (ca_cons (c_var 3) ca_nil))) (ca_cons (c_lst ca_nil) ca_nil)))) (cg_tup rfl (cgs_cons (cg_name 5 sc_law.nd) (cgs_cons (cg_name 6 sc_law.nd) (cgs_cons (cg_name 7 sc_law.nd) cgs_nil))))) (cb_cons (cs_set 8 sc_law.nd (c_var 6)) (cb_cons (cs_for (passes_of rfl) rfl (ci_range1 rfl T.b_range (ca_cons (c_df D__law_draw b__law_draw rfl hr (by decide) (takes_of rfl rfl rfl rfl) (ca_cons (c_var 1) (ca_cons c_int ca_nil))) ca_nil)) (cg_name 9 sc_law.nd) (cb_cons (cs_set 10 sc_law.nd (c_df D__law_turns b__law_turns rfl hr (by decide) (takes_of rfl rfl rfl rfl) (ca_cons (c_var 4) (ca_cons (c_var 8) ca_nil)))) (cb_one (cs_if (ct_cmp (op_neD hr.units) ok_ne (c_var 10) (c_lst ca_nil)) (cb_cons (cs_expr (c_bm PySem.F.plainAttrs_list PySem.F.slot_list_append PySem.F.type_list_append mt_append rfl isL_ok ok_append (c_var 7) (ca_cons (c_ix rfl (hu_of hr) (c_var 10) (c_df D__law_draw b__law_draw rfl hr (by decide) (takes_of rfl rfl rfl rfl) (ca_cons (c_var 1) (ca_cons (c_callB call_lenAll ok_len T.b_len PySem.boot_len (ca_cons (c_var 10) ca_nil)) ca_nil)))) ca_nil))) (cb_one (cs_set 8 sc_law.nd (c_df D__law_turned b__law_turned rfl hr (by decide) (takes_of rfl rfl rfl rfl) (ca_cons (c_var 8) (ca_cons (c_ix rfl (hu_of hr) (c_var 7) (c_neg c_int)) ca_nil)))))) cb_nil)))) (cb_cons (by first | exact cs_par3 rfl sc_law.nd (ca_cons (c_ix rfl (hu_of hr) (c_lst (ca_cons (c_var 7) (ca_cons (c_callTy call_tuple_of ok_tuple T.b_tuple PyProof.Rows.boot_tuple (ca_cons (c_var 7) ca_nil)) ca_nil))) (c_df D__law_draw b__law_draw rfl hr (by decide) (takes_of rfl rfl rfl rfl) (ca_cons (c_var 1) (ca_cons c_int ca_nil)))) (ca_cons (c_callTy (call_listAll rfl) ok_listAll T.b_list PyProof.Rows.boot_list (ca_cons (c_var 7) ca_nil)) (ca_cons (c_callTy (call_listAll rfl) ok_listAll T.b_list PyProof.Rows.boot_list (ca_cons (c_var 6) ca_nil)) ca_nil))) | exact cs_asg (c_tup (ca_cons (c_ix rfl (hu_of hr) (c_lst (ca_cons (c_var 7) (ca_cons (c_callTy call_tuple_of ok_tuple T.b_tuple PyProof.Rows.boot_tuple (ca_cons (c_var 7) ca_nil)) ca_nil))) (c_df D__law_draw b__law_draw rfl hr (by decide) (takes_of rfl rfl rfl rfl) (ca_cons (c_var 1) (ca_cons c_int ca_nil)))) (ca_cons (c_callTy (call_listAll rfl) ok_listAll T.b_list PyProof.Rows.boot_list (ca_cons (c_var 7) ca_nil)) (ca_cons (c_callTy (call_listAll rfl) ok_listAll T.b_list PyProof.Rows.boot_list (ca_cons (c_var 6) ca_nil)) ca_nil)))) (cg_tup rfl (cgs_cons (cg_name 11 sc_law.nd) (cgs_cons (cg_name 12 sc_law.nd) (cgs_cons (cg_name 13 sc_law.nd) cgs_nil))))) (cb_cons (cs_if (CW.ct (cw_or (ct_cmp (op_neS hr.units) ok_neS (c_callB (cr_repr hg hr.units) ok_repr T.b_repr PyProof.Rows.boot_repr (ca_cons (c_df D_walked b_walked rfl hr (by decide) (takes_of rfl rfl rfl rfl) (ca_cons (c_var 5) (ca_cons (c_var 13) (ca_cons (c_var 11) ca_nil)))) ca_nil)) (c_callB (cr_repr hg hr.units) ok_repr T.b_repr PyProof.Rows.boot_repr (ca_cons (c_var 8) ca_nil))) (cw_or (ct_cmp (op_neD hr.units) ok_ne (c_callTy (call_listAll rfl) ok_listAll T.b_list PyProof.Rows.boot_list (ca_cons (c_var 11) ca_nil)) (c_var 12)) (cw_or1 (ct_cmp (op_neD hr.units) ok_ne (c_var 13) (c_callTy (call_listAll rfl) ok_listAll T.b_list PyProof.Rows.boot_list (ca_cons (c_var 6) ca_nil))))))) (cb_one (cs_ret c_bl)) cb_nil) (cb_cons (cs_if (ct_cmp (op_neD hr.units) ok_ne (c_df D_walked b_walked rfl hr (by decide) (takes_of rfl rfl rfl rfl) (ca_cons (c_var 5) (ca_cons (c_var 8) (ca_cons (c_rev rfl (c_var 7)) ca_nil)))) (c_var 6)) (cb_one (cs_ret c_bl)) cb_nil) (cb_cons (cs_set 14 sc_law.nd (c_df D__law_draw b__law_draw rfl hr (by decide) (takes_of rfl rfl rfl rfl) (ca_cons (c_var 1) (ca_cons (c_op op_addAll ok_addAll (c_callB call_lenAll ok_len T.b_len PySem.boot_len (ca_cons (c_var 7) ca_nil)) c_int) ca_nil)))) (cb_cons (cs_set 15 sc_law.nd (c_ix rfl (hu_of hr) (c_lst (ca_cons c_non (ca_cons c_int (ca_cons (c_tup (ca_cons c_int (ca_cons c_int ca_nil))) (ca_cons (c_lst (ca_cons c_int (ca_cons c_int ca_nil))) (ca_cons (c_tup (ca_cons c_int (ca_cons (c_var 3) ca_nil))) (ca_cons (c_tup (ca_cons c_bl (ca_cons c_int ca_nil))) (ca_cons c_str (ca_cons (c_tup (ca_cons c_int (ca_cons c_int ca_nil))) ca_nil))))))))) (c_df D__law_draw b__law_draw rfl hr (by decide) (takes_of rfl rfl rfl rfl) (ca_cons (c_var 1) (ca_cons c_int ca_nil))))) (cb_cons (cs_set 16 sc_law.nd (c_op op_addAll ok_addAll (c_op op_addAll ok_addAll (c_slice rfl (c_var 7) co_none (co_some (c_var 14))) (c_op op_mulAll ok_mulAll (c_lst (ca_cons (c_var 15) ca_nil)) (c_op op_addAll ok_addAll c_int (c_df D__law_draw b__law_draw rfl hr (by decide) (takes_of rfl rfl rfl rfl) (ca_cons (c_var 1) (ca_cons c_int ca_nil)))))) (c_slice rfl (c_var 7) (co_some (c_var 14)) co_none))) (cb_cons (cs_if (ct_cmp (op_neD hr.units) ok_ne (c_told (cs := xC) (k := 6) (told T) D__law_class b__law_class rfl (hxC T) hL hu (hB _ hL) rfl (by rfl) hr (by decide) (lamS2_by (by kernel_rfl)) (.none fun _ => rfl) (lamBind0 (fun _ _ _ _ _ _ _ _ => ⟨_, rfl, rfl, rfl⟩)) (fun E A outer s H f c' hr => (c_df D_walked b_walked rfl hr (by decide) (takes_of rfl rfl rfl rfl) (ca_cons (c_var 5) (ca_cons (c_var 6) (ca_cons (c_var 16) ca_nil)))))) (c_tup (ca_cons c_str (ca_cons (c_var 14) ca_nil)))) (cb_one (cs_ret c_bl)) cb_nil) (cb_cons (cs_set 17 sc_law.nd (c_ix rfl (hu_of hr) (c_lst (ca_cons c_non (ca_cons c_int (ca_cons c_str (ca_cons c_dK (ca_cons c_bl ca_nil)))))) (c_df D__law_draw b__law_draw rfl hr (by decide) (takes_of rfl rfl rfl rfl) (ca_cons (c_var 1) (ca_cons c_int ca_nil))))) (cb_cons (cs_if (ct_cmp (op_neD hr.units) ok_ne (c_told (cs := xC) (k := 6) (told T) D__law_class b__law_class rfl (hxC T) hL hu (hB _ hL) rfl (by rfl) hr (by decide) (lamS2_by (by kernel_rfl)) (.none fun _ => rfl) (lamBind0 (fun _ _ _ _ _ _ _ _ => ⟨_, rfl, rfl, rfl⟩)) (fun E A outer s H f c' hr => (c_df D_walked b_walked rfl hr (by decide) (takes_of rfl rfl rfl rfl) (ca_cons (c_var 5) (ca_cons (c_var 6) (ca_cons (c_var 17) ca_nil)))))) (c_tup (ca_cons c_str (ca_cons c_non ca_nil)))) (cb_one (cs_ret c_bl)) cb_nil) (cb_one (cs_if (ct_cmp (op_neD hr.units) ok_ne (c_df D_walked b_walked rfl hr (by decide) (takes_of rfl rfl rfl rfl) (ca_cons (c_var 5) (ca_cons (c_var 6) (ca_cons (c_tup ca_nil) ca_nil)))) (c_var 6)) (cb_one (cs_ret c_bl)) cb_nil)))))))))))))))) (cb_cons (cs_set 18 sc_law.nd (c_mk (.slt 0 []) (.inr rfl) D_Web___init__ T.m_Web b_Web___init__ rfl hr (by decide) (takes_of rfl rfl rfl rfl) (ca_cons c_int (ca_cons (c_lst (ca_cons (c_tup (ca_cons c_int (ca_cons c_int ca_nil))) (ca_cons (c_tup (ca_cons c_int (ca_cons c_int ca_nil))) ca_nil))) ca_nil)))) (cb_cons (cs_if (ct_cmp (op_neD hr.units) ok_ne (c_df D_walked b_walked rfl hr (by decide) (takes_of rfl rfl rfl rfl) (ca_cons (c_var 18) (ca_cons (c_lst (ca_cons c_int (ca_cons c_int (ca_cons c_int ca_nil)))) (ca_cons (c_lst (ca_cons (c_tup (ca_cons c_int (ca_cons c_int ca_nil))) (ca_cons (c_tup (ca_cons c_int (ca_cons c_int ca_nil))) ca_nil))) ca_nil)))) (c_tup (ca_cons c_int (ca_cons c_int (ca_cons c_int ca_nil))))) (cb_one (cs_ret c_bl)) cb_nil) (cb_one (cs_ret (c_cmp (op_eqD hr.units) ok_eq (c_told (cs := xC) (k := 6) (told T) D__law_class b__law_class rfl (hxC T) hL hu (hB _ hL) rfl (by rfl) hr (by decide) (lamS2_by (by kernel_rfl)) (.none fun _ => rfl) (lamBind0 (fun _ _ _ _ _ _ _ _ => ⟨_, rfl, rfl, rfl⟩)) (fun E A outer s H f c' hr => (c_df D_walked b_walked rfl hr (by decide) (takes_of rfl rfl rfl rfl) (ca_cons (c_var 18) (ca_cons (c_tup (ca_cons c_int (ca_cons c_int (ca_cons c_int ca_nil)))) (ca_cons (c_lst (ca_cons (c_tup (ca_cons c_int (ca_cons c_int ca_nil))) (ca_cons (c_tup (ca_cons c_int (ca_cons c_int ca_nil))) (ca_cons (c_tup (ca_cons c_int (ca_cons c_int ca_nil))) ca_nil)))) ca_nil)))))) (c_tup (ca_cons c_str (ca_cons c_int ca_nil))))))))))
/-! ### all of them -/
theorem D_all (T : Txt P cf mg) (hB : ∀ q ∈ cf.lam, LamX.TabB base mg q.2.1 q.2.2) : DfG P w cf mg base "law" (top 37) ["_law_script"] 9 G_law := by
  have h_is_whole := D_is_whole (P := P) (w := w) (base := base) T
  have h_is_among := D_is_among (P := P) (w := w) (base := base) T h_is_whole
  have h_is_list := D_is_list (P := P) (w := w) (base := base) T
  have h_is_tie := D_is_tie (P := P) (w := w) (base := base) T h_is_among
  have h_need_ties := D_need_ties (P := P) (w := w) (base := base) T h_is_list h_is_tie
  have h_Web___init__ := D_Web___init__ (P := P) (w := w) (base := base) T h_is_among h_need_ties
  have h__law_folded := D__law_folded (P := P) (w := w) (base := base) T
  have h__law_begun := D__law_begun (P := P) (w := w) (base := base) T h__law_folded
  have h__law_class := D__law_class (P := P) (w := w) (base := base) T
  have h__law_mixed := D__law_mixed (P := P) (w := w) (base := base) T
  have h__law_draw := D__law_draw (P := P) (w := w) (base := base) T h__law_mixed
  have h__law_coins := D__law_coins (P := P) (w := w) (base := base) T h__law_draw
  have h__law_turned := D__law_turned (P := P) (w := w) (base := base) T
  have h__law_turns := D__law_turns (P := P) (w := w) (base := base) T
  have h__law_order := D__law_order (P := P) (w := w) (base := base) T h__law_draw
  have h__law_ties := D__law_ties (P := P) (w := w) (base := base) T h__law_draw
  have h__law_web := D__law_web (P := P) (w := w) (base := base) T h__law_draw h__law_order h__law_ties
  have h_is_turn := D_is_turn (P := P) (w := w) (base := base) T h_is_tie
  have h_turned := D_turned (P := P) (w := w) (base := base) T
  have h_done_at := D_done_at (P := P) (w := w) (base := base) T h_is_turn h_turned
  have h_need_standing := D_need_standing (P := P) (w := w) (base := base) T h_is_among h_is_list
  have h_walked := D_walked (P := P) (w := w) (base := base) T h_done_at h_is_list h_need_standing
  have h_law := D_law (P := P) (w := w) (base := base) T hB h_Web___init__ h__law_begun h__law_class h__law_coins h__law_draw h__law_turned h__law_turns h__law_web h_walked
  exact h_law
end
end Lk

namespace Lk
open PySem PySem.Spec L2 PyProof.Rows Dn
def clsF (C0 C20 C21 C22 C23 C24 C25 C26 C31 : Addr) : Nat → Addr
  | 0 => C0
  | 20 => C20
  | 21 => C21
  | 22 => C22
  | 23 => C23
  | 24 => C24
  | 25 => C25
  | 26 => C26
  | 31 => C31
  | _ => 0
section
variable {K : PySem.W.Frag} {h : Heap} {mg : Str → Option Value} {Pr : Program} {C0 C20 C21 C22 C23 C24 C25 C26 C31 : Addr} {c_law P_law : Addr}
theorem raw_l {x : Str} {st : Stmt} {f : Addr} {oc : Value} {od an : Option Addr} {osl : Array (Option Value)} {kV doc pm cdv ct : Value} (X : K.In h) (G : h.Ns mainGlobals mg) (a : PySem.W.nsIn K mainGlobals x = some (some (.ref f))) (l : K.lookup f = some ⟨oc, od, .func (PySem.W.fnOf x x (defArgs st) (defBody st) (defScope st) .none kV doc pm an cdv ct), osl⟩) (c : PySem.W.codeIn K cdv x = true) (k : PySem.W.keepIn K (.ref f) = true) : Raw (mkCf K (clsF C0 C20 C21 C22 C23 C24 C25 C26 C31) [("law", c_law, P_law)]) mg x st := raw_of rfl X G a l c k
theorem rawm_0 {m qual : Str} {st : Stmt} {f : Addr} {oc : Value} {od an : Option Addr} {osl : Array (Option Value)} {kV doc pm cdv ct : Value} (a : PySem.W.findIn K (.ref C0) m = some (some (.ref f))) (i : PySem.W.isFn K (.ref f) = true) (l : K.lookup f = some ⟨oc, od, .func (PySem.W.fnOf m qual (defArgs st) (defBody st) (defScope st) .none kV doc pm an cdv ct), osl⟩) (cc : PySem.W.codeIn K cdv qual = true) (k : PySem.W.keepIn K (.ref f) = true) : RawM (mkCf K (clsF C0 C20 C21 C22 C23 C24 C25 C26 C31) [("law", c_law, P_law)]) 0 m qual st := rawm_of rfl rfl a i l cc k
theorem mak_0 {x : Str} (X : K.In h) (G : h.Ns mainGlobals mg) (a : PySem.W.nsIn K mainGlobals x = some (some (.ref C0))) (mk : PySem.W.makesIn K C0 = true) (kp : PySem.W.keepIn K (.ref C0) = true) : Mak (mkCf K (clsF C0 C20 C21 C22 C23 C24 C25 C26 C31) [("law", c_law, P_law)]) mg x 0 := mak_of rfl rfl X G a mk kp
theorem cls_0 (pg : PySem.W.plainGet K C0 Str.empty = true) (ic : PySem.W.isClsIn K C0 = true) (po : PySem.W.plainOver K C0 = true) (sa : PySem.W.findIn K (.ref C0) "__setattr__" = some (some (.builtin "object.__setattr__"))) : SlX.SCls (mkCf K (clsF C0 C20 C21 C22 C23 C24 C25 C26 C31) [("law", c_law, P_law)]).K ((mkCf K (clsF C0 C20 C21 C22 C23 C24 C25 C26 C31) [("law", c_law, P_law)]).cls 0) := scls_of rfl rfl pg ic po sa
theorem noat_0 {f : Str} (a : PySem.W.findIn K (.ref C0) f = some none) : NoAttr (mkCf K (clsF C0 C20 C21 C22 C23 C24 C25 C26 C31) [("law", c_law, P_law)]).K ((mkCf K (clsF C0 C20 C21 C22 C23 C24 C25 C26 C31) [("law", c_law, P_law)]).cls 0) f := noat_of rfl rfl a
theorem sltf_0 {p : Addr} {j : Nat} {f : Str} (cl : SlX.SCls (mkCf K (clsF C0 C20 C21 C22 C23 C24 C25 C26 C31) [("law", c_law, P_law)]).K ((mkCf K (clsF C0 C20 C21 C22 C23 C24 C25 C26 C31) [("law", c_law, P_law)]).cls 0)) (at_ : PySem.W.findIn K (.ref C0) f = some (some (.ref p))) (get : PySem.W.specialIn K (.ref p) "__get__" = some (some (.builtin "member_descriptor.__get__"))) (tk : PySem.W.takesIn K (.ref p) = some true) (ty : PySem.W.typeIn K (.ref p) = some (.type "member_descriptor")) (ix : PySem.W.slotIn K p C0 = some j) (lt : j < 1000) : SltF (mkCf K (clsF C0 C20 C21 C22 C23 C24 C25 C26 C31) [("law", c_law, P_law)]) f 0 j := sltf_of rfl rfl cl at_ get tk ty ix lt
theorem sisi_0 (ca : PySem.W.findIn K (.ref C0) "__class__" = some (some (.builtin "object.__class__"))) (cn : PySem.W.specialIn K (.builtin "object.__class__") "__get__" = some (some (.builtin "getset_descriptor.__get__"))) (ct : PySem.W.takesIn K (.builtin "object.__class__") = some true) (cm : PySem.W.mroIn K C0 (.type "object") = some true) : SlX.SIsi (mkCf K (clsF C0 C20 C21 C22 C23 C24 C25 C26 C31) [("law", c_law, P_law)]).K ((mkCf K (clsF C0 C20 C21 C22 C23 C24 C25 C26 C31) [("law", c_law, P_law)]).cls 0) := sisi_of rfl rfl ca cn ct cm
theorem owneq_0 (ne : PySem.W.findIn K (.ref C0) "__ne__" = some (some (.builtin "object.__ne__"))) (ob : PySem.W.subIn K (.ref C0) (.type "object") = some true) : OwnEq (mkCf K (clsF C0 C20 C21 C22 C23 C24 C25 C26 C31) [("law", c_law, P_law)]) 0 := owneq_of rfl rfl ne ob
theorem xfc_22 (ga : PySem.W.findIn K (.ref C22) "__getattribute__" = some (some (.builtin "BaseException.__getattribute__"))) (gg : PySem.W.findIn K (.ref C22) "__getattr__" = some none) (sb : PySem.W.subIn K (.ref C22) (.type "BaseException") = some true) (hd : PySem.W.hasDictIn K C22 = true) : L2.XfC (mkCf K (clsF C0 C20 C21 C22 C23 C24 C25 C26 C31) [("law", c_law, P_law)]).K ((mkCf K (clsF C0 C20 C21 C22 C23 C24 C25 C26 C31) [("law", c_law, P_law)]).cls 22) := xfc_of rfl rfl ga gg sb hd
theorem exnf_22 (xf : L2.XfC (mkCf K (clsF C0 C20 C21 C22 C23 C24 C25 C26 C31) [("law", c_law, P_law)]).K ((mkCf K (clsF C0 C20 C21 C22 C23 C24 C25 C26 C31) [("law", c_law, P_law)]).cls 22)) (no : PySem.W.findIn K (.ref C22) "place" = some none) : ExnF (mkCf K (clsF C0 C20 C21 C22 C23 C24 C25 C26 C31) [("law", c_law, P_law)]) "place" 22 0 := exnf_of rfl rfl rfl xf no
theorem xis_22 (xf : L2.XfC (mkCf K (clsF C0 C20 C21 C22 C23 C24 C25 C26 C31) [("law", c_law, P_law)]).K ((mkCf K (clsF C0 C20 C21 C22 C23 C24 C25 C26 C31) [("law", c_law, P_law)]).cls 22)) (ca : PySem.W.findIn K (.ref C22) "__class__" = some (some (.builtin "object.__class__"))) (cn : PySem.W.specialIn K (.builtin "object.__class__") "__get__" = some (some (.builtin "getset_descriptor.__get__"))) (ct : PySem.W.takesIn K (.builtin "object.__class__") = some true) (cm : PySem.W.mroIn K C22 (.type "object") = some true) (cl : (PySem.W.clsIn K C22).isSome = true) : XisC (mkCf K (clsF C0 C20 C21 C22 C23 C24 C25 C26 C31) [("law", c_law, P_law)]).K ((mkCf K (clsF C0 C20 C21 C22 C23 C24 C25 C26 C31) [("law", c_law, P_law)]).cls 22) := xisc_of rfl rfl xf (sisi_of rfl rfl ca cn ct cm) cl
theorem xki_22_21 (a : PySem.W.kitOne K (.ref C22) (.ref C21) = some false) : PySem.W.kitOne (mkCf K (clsF C0 C20 C21 C22 C23 C24 C25 C26 C31) [("law", c_law, P_law)]).K (.ref ((mkCf K (clsF C0 C20 C21 C22 C23 C24 C25 C26 C31) [("law", c_law, P_law)]).cls 22)) (.ref ((mkCf K (clsF C0 C20 C21 C22 C23 C24 C25 C26 C31) [("law", c_law, P_law)]).cls 21)) = some false := a
theorem xki_22_22 (a : PySem.W.kitOne K (.ref C22) (.ref C22) = some true) : PySem.W.kitOne (mkCf K (clsF C0 C20 C21 C22 C23 C24 C25 C26 C31) [("law", c_law, P_law)]).K (.ref ((mkCf K (clsF C0 C20 C21 C22 C23 C24 C25 C26 C31) [("law", c_law, P_law)]).cls 22)) (.ref ((mkCf K (clsF C0 C20 C21 C22 C23 C24 C25 C26 C31) [("law", c_law, P_law)]).cls 22)) = some true := a
theorem xki_22_23 (a : PySem.W.kitOne K (.ref C22) (.ref C23) = some false) : PySem.W.kitOne (mkCf K (clsF C0 C20 C21 C22 C23 C24 C25 C26 C31) [("law", c_law, P_law)]).K (.ref ((mkCf K (clsF C0 C20 C21 C22 C23 C24 C25 C26 C31) [("law", c_law, P_law)]).cls 22)) (.ref ((mkCf K (clsF C0 C20 C21 C22 C23 C24 C25 C26 C31) [("law", c_law, P_law)]).cls 23)) = some false := a
theorem xki_22_24 (a : PySem.W.kitOne K (.ref C22) (.ref C24) = some false) : PySem.W.kitOne (mkCf K (clsF C0 C20 C21 C22 C23 C24 C25 C26 C31) [("law", c_law, P_law)]).K (.ref ((mkCf K (clsF C0 C20 C21 C22 C23 C24 C25 C26 C31) [("law", c_law, P_law)]).cls 22)) (.ref ((mkCf K (clsF C0 C20 C21 C22 C23 C24 C25 C26 C31) [("law", c_law, P_law)]).cls 24)) = some false := a
theorem xki_22_25 (a : PySem.W.kitOne K (.ref C22) (.ref C25) = some false) : PySem.W.kitOne (mkCf K (clsF C0 C20 C21 C22 C23 C24 C25 C26 C31) [("law", c_law, P_law)]).K (.ref ((mkCf K (clsF C0 C20 C21 C22 C23 C24 C25 C26 C31) [("law", c_law, P_law)]).cls 22)) (.ref ((mkCf K (clsF C0 C20 C21 C22 C23 C24 C25 C26 C31) [("law", c_law, P_law)]).cls 25)) = some false := a
theorem xki_22_26 (a : PySem.W.kitOne K (.ref C22) (.ref C26) = some false) : PySem.W.kitOne (mkCf K (clsF C0 C20 C21 C22 C23 C24 C25 C26 C31) [("law", c_law, P_law)]).K (.ref ((mkCf K (clsF C0 C20 C21 C22 C23 C24 C25 C26 C31) [("law", c_law, P_law)]).cls 22)) (.ref ((mkCf K (clsF C0 C20 C21 C22 C23 C24 C25 C26 C31) [("law", c_law, P_law)]).cls 26)) = some false := a
theorem xki_22_31 (a : PySem.W.kitOne K (.ref C22) (.ref C31) = some false) : PySem.W.kitOne (mkCf K (clsF C0 C20 C21 C22 C23 C24 C25 C26 C31) [("law", c_law, P_law)]).K (.ref ((mkCf K (clsF C0 C20 C21 C22 C23 C24 C25 C26 C31) [("law", c_law, P_law)]).cls 22)) (.ref ((mkCf K (clsF C0 C20 C21 C22 C23 C24 C25 C26 C31) [("law", c_law, P_law)]).cls 31)) = some false := a
theorem xany_22 (h20 : PySem.W.subIn K (.ref C20) (.type "BaseException") = some true) (d20 : PySem.W.hasDictIn K C20 = true) (t20 : PySem.W.typeIn K (.ref C20) = some (.type "type")) (s20 : PySem.W.subIn K (.ref C22) (.ref C20) = some true) (h31 : PySem.W.subIn K (.ref C31) (.type "BaseException") = some true) (d31 : PySem.W.hasDictIn K C31 = true) (t31 : PySem.W.typeIn K (.ref C31) = some (.type "type")) (s31 : PySem.W.subIn K (.ref C22) (.ref C31) = some false) : PySem.W.exmAny (mkCf K (clsF C0 C20 C21 C22 C23 C24 C25 C26 C31) [("law", c_law, P_law)]).K (.ref ((mkCf K (clsF C0 C20 C21 C22 C23 C24 C25 C26 C31) [("law", c_law, P_law)]).cls 22)) [.ref ((mkCf K (clsF C0 C20 C21 C22 C23 C24 C25 C26 C31) [("law", c_law, P_law)]).cls 20), .ref ((mkCf K (clsF C0 C20 C21 C22 C23 C24 C25 C26 C31) [("law", c_law, P_law)]).cls 31)] = some true := exmAny_of h20 d20 t20 s20 h31 d31 t31 s31 rfl
theorem xt_22 : XTxt1 (inClass (top 3) 0) "BadStanding.__init__" "place" := ⟨_, _, _, _, _, _, _, _, _, _, _, _, _, _, rfl, ⟨rfl, rfl, rfl, by decide +kernel, rfl, rfl, rfl⟩, fun _ => ⟨_, rfl⟩, rfl, rfl, rfl, by decide, by decide, fun _ _ _ _ _ _ _ _ _ => rfl⟩
theorem xcls_22 (X : K.In h) (G : h.Ns mainGlobals mg) (q : PySem.W.excInitIn K C22 [.type "ValueError", .type "Exception", .type "BaseException", .type "object"] "ValueError.__new__" = true) (ov : PySem.W.excOver K C22 [.type "ValueError", .type "Exception", .type "BaseException", .type "object"] = true) (sa : PySem.W.findIn K (.ref C22) "__setattr__" = some (some (.builtin "object.__setattr__"))) (hd : PySem.W.hasDictIn K C22 = true) (sup : PySem.W.ks_superIn K C22 C22 "__init__" = some (some (.builtin "ValueError.__init__"))) (sB : PySem.W.subIn K (.ref C22) (.type "ValueError") = some true) (own : PySem.W.mroIn K C22 (.ref C22) = some true) (op : PySem.W.nsIn K cStatics "thirdparty.any" = some none) (ns : PySem.W.nsIn K mainGlobals "super" = some none) (top : (Pr.main.scope.names.lookup ("super" : Str)).isSome = false) : XCls Pr K mg C22 "ValueError" "ValueError.__new__" "ValueError.__init__" [.type "ValueError", .type "Exception", .type "BaseException", .type "object"] := xcls_of X G q ov sa hd sup sB own op ns top
theorem xini_22 {fI cc cda : Addr} {oc kV doc pm ct ccl cl : Value} {od an cdd cld : Option Addr} {osl ccs csl : Array (Option Value)} {vs : Array Value} {file : Str} {tf : Tok} (hi : PySem.W.findIn K (.ref C22) "__init__" = some (some (.ref fI))) (hf : PySem.W.isFn K (.ref fI) = true) (lk : K.lookup fI = some ⟨oc, od, .func (PySem.W.fnX "__init__" "BadStanding.__init__" (defArgs (inClass (top 3) 0)) (defBody (inClass (top 3) 0)) (defScope (inClass (top 3) 0)) [("__class__", cc)] .none kV doc pm an (.ref cda) ct), osl⟩) (hcd : PySem.W.codeIn K (.ref cda) "BadStanding.__init__" = true) (l2 : K.lookup cda = some ⟨ccl, cdd, .fields vs, ccs⟩) (v2 : vs[2]? = some (.str file tf)) (fl : ((Pr.main.file : Str) == file) = true) (l3 : K.lookup cc = some ⟨cl, cld, .cell (some (.ref C22)), csl⟩) : ∃ fI cc cda, XIni Pr K C22 fI cc cda "BadStanding.__init__" (defArgs (inClass (top 3) 0)) (defBody (inClass (top 3) 0)) (defScope (inClass (top 3) 0)) := ⟨_, _, _, xini_of hi hf lk hcd l2 v2 fl l3⟩
theorem xmk_22 (X : K.In h) (G : h.Ns mainGlobals mg) (a : PySem.W.nsIn K mainGlobals "BadStanding" = some (some (.ref C22))) (kp : PySem.W.keepIn K (.ref C22) = true) (sb : PySem.W.subIn K (.ref C22) (.type "BaseException") = some true) (ty : PySem.W.typeIn K (.ref C22) = some (.type "type")) (tk : PySem.W.takerIn K C22 "place" = some none) (T : XCls Pr K mg C22 "ValueError" "ValueError.__new__" "ValueError.__init__" [.type "ValueError", .type "Exception", .type "BaseException", .type "object"]) (N : ∃ fI cc cda, XIni Pr K C22 fI cc cda "BadStanding.__init__" (defArgs (inClass (top 3) 0)) (defBody (inClass (top 3) 0)) (defScope (inClass (top 3) 0))) : XMk1 Pr (mkCf K (clsF C0 C20 C21 C22 C23 C24 C25 C26 C31) [("law", c_law, P_law)]) mg "BadStanding" 22 "place" := by
  obtain ⟨fI, cc, cda, N⟩ := N
  exact xmk1_of rfl rfl rfl X G xt_22 a kp sb ty tk T N PySem.F.excBase_ValueError PySem.F.store_ValueError PySem.W.kxs_ValueError
theorem xfc_23 (ga : PySem.W.findIn K (.ref C23) "__getattribute__" = some (some (.builtin "BaseException.__getattribute__"))) (gg : PySem.W.findIn K (.ref C23) "__getattr__" = some none) (sb : PySem.W.subIn K (.ref C23) (.type "BaseException") = some true) (hd : PySem.W.hasDictIn K C23 = true) : L2.XfC (mkCf K (clsF C0 C20 C21 C22 C23 C24 C25 C26 C31) [("law", c_law, P_law)]).K ((mkCf K (clsF C0 C20 C21 C22 C23 C24 C25 C26 C31) [("law", c_law, P_law)]).cls 23) := xfc_of rfl rfl ga gg sb hd
theorem exnf_23 (xf : L2.XfC (mkCf K (clsF C0 C20 C21 C22 C23 C24 C25 C26 C31) [("law", c_law, P_law)]).K ((mkCf K (clsF C0 C20 C21 C22 C23 C24 C25 C26 C31) [("law", c_law, P_law)]).cls 23)) (no : PySem.W.findIn K (.ref C23) "place" = some none) : ExnF (mkCf K (clsF C0 C20 C21 C22 C23 C24 C25 C26 C31) [("law", c_law, P_law)]) "place" 23 0 := exnf_of rfl rfl rfl xf no
theorem xis_23 (xf : L2.XfC (mkCf K (clsF C0 C20 C21 C22 C23 C24 C25 C26 C31) [("law", c_law, P_law)]).K ((mkCf K (clsF C0 C20 C21 C22 C23 C24 C25 C26 C31) [("law", c_law, P_law)]).cls 23)) (ca : PySem.W.findIn K (.ref C23) "__class__" = some (some (.builtin "object.__class__"))) (cn : PySem.W.specialIn K (.builtin "object.__class__") "__get__" = some (some (.builtin "getset_descriptor.__get__"))) (ct : PySem.W.takesIn K (.builtin "object.__class__") = some true) (cm : PySem.W.mroIn K C23 (.type "object") = some true) (cl : (PySem.W.clsIn K C23).isSome = true) : XisC (mkCf K (clsF C0 C20 C21 C22 C23 C24 C25 C26 C31) [("law", c_law, P_law)]).K ((mkCf K (clsF C0 C20 C21 C22 C23 C24 C25 C26 C31) [("law", c_law, P_law)]).cls 23) := xisc_of rfl rfl xf (sisi_of rfl rfl ca cn ct cm) cl
theorem xki_23_21 (a : PySem.W.kitOne K (.ref C23) (.ref C21) = some false) : PySem.W.kitOne (mkCf K (clsF C0 C20 C21 C22 C23 C24 C25 C26 C31) [("law", c_law, P_law)]).K (.ref ((mkCf K (clsF C0 C20 C21 C22 C23 C24 C25 C26 C31) [("law", c_law, P_law)]).cls 23)) (.ref ((mkCf K (clsF C0 C20 C21 C22 C23 C24 C25 C26 C31) [("law", c_law, P_law)]).cls 21)) = some false := a
theorem xki_23_22 (a : PySem.W.kitOne K (.ref C23) (.ref C22) = some false) : PySem.W.kitOne (mkCf K (clsF C0 C20 C21 C22 C23 C24 C25 C26 C31) [("law", c_law, P_law)]).K (.ref ((mkCf K (clsF C0 C20 C21 C22 C23 C24 C25 C26 C31) [("law", c_law, P_law)]).cls 23)) (.ref ((mkCf K (clsF C0 C20 C21 C22 C23 C24 C25 C26 C31) [("law", c_law, P_law)]).cls 22)) = some false := a
theorem xki_23_23 (a : PySem.W.kitOne K (.ref C23) (.ref C23) = some true) : PySem.W.kitOne (mkCf K (clsF C0 C20 C21 C22 C23 C24 C25 C26 C31) [("law", c_law, P_law)]).K (.ref ((mkCf K (clsF C0 C20 C21 C22 C23 C24 C25 C26 C31) [("law", c_law, P_law)]).cls 23)) (.ref ((mkCf K (clsF C0 C20 C21 C22 C23 C24 C25 C26 C31) [("law", c_law, P_law)]).cls 23)) = some true := a
theorem xki_23_24 (a : PySem.W.kitOne K (.ref C23) (.ref C24) = some false) : PySem.W.kitOne (mkCf K (clsF C0 C20 C21 C22 C23 C24 C25 C26 C31) [("law", c_law, P_law)]).K (.ref ((mkCf K (clsF C0 C20 C21 C22 C23 C24 C25 C26 C31) [("law", c_law, P_law)]).cls 23)) (.ref ((mkCf K (clsF C0 C20 C21 C22 C23 C24 C25 C26 C31) [("law", c_law, P_law)]).cls 24)) = some false := a
theorem xki_23_25 (a : PySem.W.kitOne K (.ref C23) (.ref C25) = some false) : PySem.W.kitOne (mkCf K (clsF C0 C20 C21 C22 C23 C24 C25 C26 C31) [("law", c_law, P_law)]).K (.ref ((mkCf K (clsF C0 C20 C21 C22 C23 C24 C25 C26 C31) [("law", c_law, P_law)]).cls 23)) (.ref ((mkCf K (clsF C0 C20 C21 C22 C23 C24 C25 C26 C31) [("law", c_law, P_law)]).cls 25)) = some false := a
theorem xki_23_26 (a : PySem.W.kitOne K (.ref C23) (.ref C26) = some false) : PySem.W.kitOne (mkCf K (clsF C0 C20 C21 C22 C23 C24 C25 C26 C31) [("law", c_law, P_law)]).K (.ref ((mkCf K (clsF C0 C20 C21 C22 C23 C24 C25 C26 C31) [("law", c_law, P_law)]).cls 23)) (.ref ((mkCf K (clsF C0 C20 C21 C22 C23 C24 C25 C26 C31) [("law", c_law, P_law)]).cls 26)) = some false := a
theorem xki_23_31 (a : PySem.W.kitOne K (.ref C23) (.ref C31) = some false) : PySem.W.kitOne (mkCf K (clsF C0 C20 C21 C22 C23 C24 C25 C26 C31) [("law", c_law, P_law)]).K (.ref ((mkCf K (clsF C0 C20 C21 C22 C23 C24 C25 C26 C31) [("law", c_law, P_law)]).cls 23)) (.ref ((mkCf K (clsF C0 C20 C21 C22 C23 C24 C25 C26 C31) [("law", c_law, P_law)]).cls 31)) = some false := a
theorem xany_23 (h20 : PySem.W.subIn K (.ref C20) (.type "BaseException") = some true) (d20 : PySem.W.hasDictIn K C20 = true) (t20 : PySem.W.typeIn K (.ref C20) = some (.type "type")) (s20 : PySem.W.subIn K (.ref C23) (.ref C20) = some true) (h31 : PySem.W.subIn K (.ref C31) (.type "BaseException") = some true) (d31 : PySem.W.hasDictIn K C31 = true) (t31 : PySem.W.typeIn K (.ref C31) = some (.type "type")) (s31 : PySem.W.subIn K (.ref C23) (.ref C31) = some false) : PySem.W.exmAny (mkCf K (clsF C0 C20 C21 C22 C23 C24 C25 C26 C31) [("law", c_law, P_law)]).K (.ref ((mkCf K (clsF C0 C20 C21 C22 C23 C24 C25 C26 C31) [("law", c_law, P_law)]).cls 23)) [.ref ((mkCf K (clsF C0 C20 C21 C22 C23 C24 C25 C26 C31) [("law", c_law, P_law)]).cls 20), .ref ((mkCf K (clsF C0 C20 C21 C22 C23 C24 C25 C26 C31) [("law", c_law, P_law)]).cls 31)] = some true := exmAny_of h20 d20 t20 s20 h31 d31 t31 s31 rfl
theorem xt_23 : XTxt1 (inClass (top 4) 0) "BadTurn.__init__" "place" := ⟨_, _, _, _, _, _, _, _, _, _, _, _, _, _, rfl, ⟨rfl, rfl, rfl, by decide +kernel, rfl, rfl, rfl⟩, fun _ => ⟨_, rfl⟩, rfl, rfl, rfl, by decide, by decide, fun _ _ _ _ _ _ _ _ _ => rfl⟩
theorem xcls_23 (X : K.In h) (G : h.Ns mainGlobals mg) (q : PySem.W.excInitIn K C23 [.type "ValueError", .type "Exception", .type "BaseException", .type "object"] "ValueError.__new__" = true) (ov : PySem.W.excOver K C23 [.type "ValueError", .type "Exception", .type "BaseException", .type "object"] = true) (sa : PySem.W.findIn K (.ref C23) "__setattr__" = some (some (.builtin "object.__setattr__"))) (hd : PySem.W.hasDictIn K C23 = true) (sup : PySem.W.ks_superIn K C23 C23 "__init__" = some (some (.builtin "ValueError.__init__"))) (sB : PySem.W.subIn K (.ref C23) (.type "ValueError") = some true) (own : PySem.W.mroIn K C23 (.ref C23) = some true) (op : PySem.W.nsIn K cStatics "thirdparty.any" = some none) (ns : PySem.W.nsIn K mainGlobals "super" = some none) (top : (Pr.main.scope.names.lookup ("super" : Str)).isSome = false) : XCls Pr K mg C23 "ValueError" "ValueError.__new__" "ValueError.__init__" [.type "ValueError", .type "Exception", .type "BaseException", .type "object"] := xcls_of X G q ov sa hd sup sB own op ns top
theorem xini_23 {fI cc cda : Addr} {oc kV doc pm ct ccl cl : Value} {od an cdd cld : Option Addr} {osl ccs csl : Array (Option Value)} {vs : Array Value} {file : Str} {tf : Tok} (hi : PySem.W.findIn K (.ref C23) "__init__" = some (some (.ref fI))) (hf : PySem.W.isFn K (.ref fI) = true) (lk : K.lookup fI = some ⟨oc, od, .func (PySem.W.fnX "__init__" "BadTurn.__init__" (defArgs (inClass (top 4) 0)) (defBody (inClass (top 4) 0)) (defScope (inClass (top 4) 0)) [("__class__", cc)] .none kV doc pm an (.ref cda) ct), osl⟩) (hcd : PySem.W.codeIn K (.ref cda) "BadTurn.__init__" = true) (l2 : K.lookup cda = some ⟨ccl, cdd, .fields vs, ccs⟩) (v2 : vs[2]? = some (.str file tf)) (fl : ((Pr.main.file : Str) == file) = true) (l3 : K.lookup cc = some ⟨cl, cld, .cell (some (.ref C23)), csl⟩) : ∃ fI cc cda, XIni Pr K C23 fI cc cda "BadTurn.__init__" (defArgs (inClass (top 4) 0)) (defBody (inClass (top 4) 0)) (defScope (inClass (top 4) 0)) := ⟨_, _, _, xini_of hi hf lk hcd l2 v2 fl l3⟩
theorem xmk_23 (X : K.In h) (G : h.Ns mainGlobals mg) (a : PySem.W.nsIn K mainGlobals "BadTurn" = some (some (.ref C23))) (kp : PySem.W.keepIn K (.ref C23) = true) (sb : PySem.W.subIn K (.ref C23) (.type "BaseException") = some true) (ty : PySem.W.typeIn K (.ref C23) = some (.type "type")) (tk : PySem.W.takerIn K C23 "place" = some none) (T : XCls Pr K mg C23 "ValueError" "ValueError.__new__" "ValueError.__init__" [.type "ValueError", .type "Exception", .type "BaseException", .type "object"]) (N : ∃ fI cc cda, XIni Pr K C23 fI cc cda "BadTurn.__init__" (defArgs (inClass (top 4) 0)) (defBody (inClass (top 4) 0)) (defScope (inClass (top 4) 0))) : XMk1 Pr (mkCf K (clsF C0 C20 C21 C22 C23 C24 C25 C26 C31) [("law", c_law, P_law)]) mg "BadTurn" 23 "place" := by
  obtain ⟨fI, cc, cda, N⟩ := N
  exact xmk1_of rfl rfl rfl X G xt_23 a kp sb ty tk T N PySem.F.excBase_ValueError PySem.F.store_ValueError PySem.W.kxs_ValueError
theorem lamd_law {st : Stmt} {f : Addr} {oc : Value} {od an : Option Addr} {osl : Array (Option Value)} {kV doc pm ct : Value} (hL : (("law", c_law, P_law) : Str × Addr × Addr) ∈ ([("law", c_law, P_law)] : List (Str × Addr × Addr))) (hu : ∀ q ∈ ([("law", c_law, P_law)] : List (Str × Addr × Addr)), q.2.2 = P_law → q.1 = "law") (X : K.In h) (G : h.Ns mainGlobals mg) (a : PySem.W.nsIn K mainGlobals "law" = some (some (.ref f))) (l : K.lookup f = some ⟨oc, od, .func (PySem.W.fnOf "law" "law" (defArgs st) (defBody st) (defScope st) .none kV doc pm an (.ref c_law) ct), osl⟩) (cc : PySem.W.codeIn K (.ref c_law) "law" = true) (k : PySem.W.keepIn K (.ref f) = true) : LamD (mkCf K (clsF C0 C20 C21 C22 C23 C24 C25 C26 C31) [("law", c_law, P_law)]) mg "law" st := lamD_of rfl hL hu X G a l cc k
end
theorem all_mk {l : PySem.W.OpenLaw} {w : World} {K : PySem.W.Frag} {h : Heap} {mg : Str → Option Value} {fa : Addr} {C0 C20 C21 C22 C23 C24 C25 C26 C31 c_law P_law : Addr} {f_law : Addr} {oc_law kV_law doc_law pm_law ct_law ov_law : Value} {od_law an_law ow_law : Option Addr} {osl_law os_law : Array (Option Value)} {vs_law : Array Value} (X : K.In h) (G : h.Ns mainGlobals mg) (hfa : mg "law" = some (.ref fa)) (aC0 : PySem.W.nsIn K mainGlobals "Web" = some (some (.ref C0))) (aC20 : PySem.W.nsIn K mainGlobals "CoinError" = some (some (.ref C20))) (aC21 : PySem.W.nsIn K mainGlobals "BadTies" = some (some (.ref C21))) (aC22 : PySem.W.nsIn K mainGlobals "BadStanding" = some (some (.ref C22))) (aC23 : PySem.W.nsIn K mainGlobals "BadTurn" = some (some (.ref C23))) (aC24 : PySem.W.nsIn K mainGlobals "BadNumber" = some (some (.ref C24))) (aC25 : PySem.W.nsIn K mainGlobals "Unlike" = some (some (.ref C25))) (aC26 : PySem.W.nsIn K mainGlobals "OneSided" = some (some (.ref C26))) (aC31 : PySem.W.nsIn K mainGlobals "TooGreat" = some (some (.ref C31))) (a1_law : PySem.W.nsIn K mainGlobals "law" = some (some (.ref f_law))) (a2_law : K.lookup f_law = some ⟨oc_law, od_law, .func (PySem.W.fnOf "law" "law" (defArgs (top 37)) (defBody (top 37)) (defScope (top 37)) .none kV_law doc_law pm_law an_law (.ref c_law) ct_law), osl_law⟩) (a3_law : K.lookup c_law = some ⟨ov_law, ow_law, .fields vs_law, os_law⟩) (a4_law : vs_law[11]? = some (.ref P_law)) (t1_law : h.get? P_law = some { cls := .none, data := .fields #[] }) (t2_law : K.lookup P_law = none) (t3_law : PySem.W.CodeHd h c_law P_law) (T : Txt l.prog (mkCf K (clsF C0 C20 C21 C22 C23 C24 C25 C26 C31) [("law", c_law, P_law)]) mg) (hG : ∀ ns : List Int, ns.length ≤ 63 → isTrueR (G_law [.scr ns] []) = true) :
    LawAtT l w K (L2.CX l.prog w) 9 63 "_law_script" mg fa h := by
  obtain ⟨f0, d0, F0, hm0⟩ := T.r_law.ex
  have e := hfa.symm.trans hm0
  cases e
  have t1 : ∀ p ∈ ([(c_law, P_law)] : List (Addr × Addr)), h.get? p.2 = some { cls := .none, data := .fields #[] } := List.forall_mem_cons.mpr ⟨t1_law, fun _ h => nomatch h⟩
  have t2 : ∀ p ∈ ([(c_law, P_law)] : List (Addr × Addr)), K.lookup p.2 = none := List.forall_mem_cons.mpr ⟨t2_law, fun _ h => nomatch h⟩
  have t3 : ∀ p ∈ ([(c_law, P_law)] : List (Addr × Addr)), PySem.W.CodeHd h p.1 p.2 := List.forall_mem_cons.mpr ⟨t3_law, fun _ h => nomatch h⟩
  have hm : ∀ q ∈ (mkCf K (clsF C0 C20 C21 C22 C23 C24 C25 C26 C31) [("law", c_law, P_law)]).lam, q.2 ∈ ([(c_law, P_law)] : List (Addr × Addr)) := fun q hq => List.mem_map.mpr ⟨q, hq, rfl⟩
  refine ⟨d0, [(c_law, P_law)], spLawT (mkCf K (clsF C0 C20 C21 C22 C23 C24 C25 C26 C31) [("law", c_law, P_law)]), t1, t2, t3, fun s v => ?_, fun H a ns hl hO hS => hsp_lawT hl hO (fun p hp => List.mem_map.mpr ⟨p.2, hm p hp, rfl⟩) (fun b hb => ?_) hS, fun base _ _ hB => ?_⟩
  · obtain ⟨oc, od, kV, doc, pm, an, cdv, ct, osl, rfl, lk, hcd⟩ := F0.ex
    exact .of_eq (b_law kV doc pm an cdv ct [v] rfl)
  · obtain ⟨p, hp, rfl⟩ := List.mem_map.mp hb
    exact t2 p hp
  · obtain ⟨f1, d1, F1, hm1, O⟩ := (D_all (P := l.prog) (w := w) (base := base) T fun q hq => hB q.2 (hm q hq)).ex
    have e1 := hm0.symm.trans hm1
    cases e1
    have e2 : d0 = d1 := by
      obtain ⟨oc, od, kV, doc, pm, an, cdv, ct, osl, h1, lk, hcd⟩ := F0.ex
      obtain ⟨oc', od', kV', doc', pm', an', cdv', ct', osl', h1', lk', hcd'⟩ := F1.ex
      rw [lk] at lk'
      cases lk'
      rfl
    subst e2
    exact lawT_ok O hG
theorem walk {l : PySem.W.OpenLaw} {q : Program} {loose : List Str} {XP : (Str → Option Value) → Heap → Prop} {YP : World → Heap → Prop} {d : DefRec} {K : Params → PySem.W.Frag} (hn : l.most = some 63) (hdf : d.params.defaults = [])
    (hY : ∀ (w : World) (h : Heap), YP w h → (K w.params).In h)
    (F : ∀ (w : World) (mg : Str → Option Value) (fa : Addr) (h : Heap), YP w h → (K w.params).In h → h.Ns mainGlobals mg → mg d.name = some (.ref fa) → LawAtT l w (K w.params) (L2.CX l.prog w) 9 63 "_law_script" mg fa h) :
    PySem.W.WalkO q loose XP YP l.row.toRowW d [] (fun f vs => PySem.call f vs) :=
  Dn.walk_ofTT (T := fun w => L2.CX l.prog w) hn (by decide) hdf ⟨rfl, by decide, by decide⟩ hY F fun _ _ _ _ _ z => hcx_law z
end Lk

open PySem PySem.W PyProof.Rows in
set_option maxRecDepth 100000 in
set_option maxHeartbeats 0 in
theorem PySem.Challenge.cw_likepairs_k07_rows_of_turns_holds : PySem.Challenge.rw_likepairs_k07_rows_of_turns.Holds := by
  w_on; o_law; k_head; (case hw => w_witness2)
  k_fill
  refine Lk.walk (l := PySem.Challenge.rw_likepairs_k07_rows_of_turns) rfl rfl (fun w h Y => PySem.W.km_in_of Y) ?F
  case F =>
    intro w mg fa h Y KX G hmg
    refine' Lk.all_mk KX G hmg ?aC0 ?aC20 ?aC21 ?aC22 ?aC23 ?aC24 ?aC25 ?aC26 ?aC31 ?a1_law ?a2_law ?a3_law ?a4_law ?t1_law ?t2_law ?t3_law ?T Lk.law_true
    (case aC0 => k_is)
    (case aC20 => k_is)
    (case aC21 => k_is)
    (case aC22 => k_is)
    (case aC23 => k_is)
    (case aC24 => k_is)
    (case aC25 => k_is)
    (case aC26 => k_is)
    (case aC31 => k_is)
    (case a1_law => k_is)
    (case a2_law => k_is)
    (case a3_law => k_is)
    (case a4_law => rfl)
    (case t1_law => exact PySem.W.km_tabs_of Y _ (by k_mem))
    (case t2_law => kernel_rfl)
    (case t3_law => exact PySem.W.codeHd_of_K KX (by kernel_rfl))
    case T =>
      exact {
        hn := rfl
        b_bool := PySem.W.mg_none_of KX G (by k_is)
        b_enumerate := PySem.W.mg_none_of KX G (by k_is)
        b_int := PySem.W.mg_none_of KX G (by k_is)
        b_isinstance := PySem.W.mg_none_of KX G (by k_is)
        b_len := PySem.W.mg_none_of KX G (by k_is)
        b_list := PySem.W.mg_none_of KX G (by k_is)
        b_max := PySem.W.mg_none_of KX G (by k_is)
        b_min := PySem.W.mg_none_of KX G (by k_is)
        b_range := PySem.W.mg_none_of KX G (by k_is)
        b_repr := PySem.W.mg_none_of KX G (by k_is)
        b_sorted := PySem.W.mg_none_of KX G (by k_is)
        b_tuple := PySem.W.mg_none_of KX G (by k_is)
        k_MOST_PLACES := ⟨_, PySem.W.mg_of KX G (by k_is)⟩
        k_MOST_TIES := ⟨_, PySem.W.mg_of KX G (by k_is)⟩
        r_is_whole := by refine' Lk.raw_l KX G ?a ?l ?c ?k; (case a => k_is); (case l => k_is); (case c => k_is); (case k => k_is)
        r_is_among := by refine' Lk.raw_l KX G ?a ?l ?c ?k; (case a => k_is); (case l => k_is); (case c => k_is); (case k => k_is)
        r_is_list := by refine' Lk.raw_l KX G ?a ?l ?c ?k; (case a => k_is); (case l => k_is); (case c => k_is); (case k => k_is)
        r_is_tie := by refine' Lk.raw_l KX G ?a ?l ?c ?k; (case a => k_is); (case l => k_is); (case c => k_is); (case k => k_is)
        r_need_ties := by refine' Lk.raw_l KX G ?a ?l ?c ?k; (case a => k_is); (case l => k_is); (case c => k_is); (case k => k_is)
        r_Web___init__ := by refine' Lk.rawm_0 ?a ?i ?l ?c ?k; (case a => k_is); (case i => k_is); (case l => k_is); (case c => k_is); (case k => k_is)
        r__law_folded := by refine' Lk.raw_l KX G ?a ?l ?c ?k; (case a => k_is); (case l => k_is); (case c => k_is); (case k => k_is)
        r__law_begun := by refine' Lk.raw_l KX G ?a ?l ?c ?k; (case a => k_is); (case l => k_is); (case c => k_is); (case k => k_is)
        r__law_class := by refine' Lk.raw_l KX G ?a ?l ?c ?k; (case a => k_is); (case l => k_is); (case c => k_is); (case k => k_is)
        r__law_mixed := by refine' Lk.raw_l KX G ?a ?l ?c ?k; (case a => k_is); (case l => k_is); (case c => k_is); (case k => k_is)
        r__law_draw := by refine' Lk.raw_l KX G ?a ?l ?c ?k; (case a => k_is); (case l => k_is); (case c => k_is); (case k => k_is)
        r__law_coins := by refine' Lk.raw_l KX G ?a ?l ?c ?k; (case a => k_is); (case l => k_is); (case c => k_is); (case k => k_is)
        r__law_turned := by refine' Lk.raw_l KX G ?a ?l ?c ?k; (case a => k_is); (case l => k_is); (case c => k_is); (case k => k_is)
        r__law_turns := by refine' Lk.raw_l KX G ?a ?l ?c ?k; (case a => k_is); (case l => k_is); (case c => k_is); (case k => k_is)
        r__law_order := by refine' Lk.raw_l KX G ?a ?l ?c ?k; (case a => k_is); (case l => k_is); (case c => k_is); (case k => k_is)
        r__law_ties := by refine' Lk.raw_l KX G ?a ?l ?c ?k; (case a => k_is); (case l => k_is); (case c => k_is); (case k => k_is)
        r__law_web := by refine' Lk.raw_l KX G ?a ?l ?c ?k; (case a => k_is); (case l => k_is); (case c => k_is); (case k => k_is)
        r_is_turn := by refine' Lk.raw_l KX G ?a ?l ?c ?k; (case a => k_is); (case l => k_is); (case c => k_is); (case k => k_is)
        r_turned := by refine' Lk.raw_l KX G ?a ?l ?c ?k; (case a => k_is); (case l => k_is); (case c => k_is); (case k => k_is)
        r_done_at := by refine' Lk.raw_l KX G ?a ?l ?c ?k; (case a => k_is); (case l => k_is); (case c => k_is); (case k => k_is)
        r_need_standing := by refine' Lk.raw_l KX G ?a ?l ?c ?k; (case a => k_is); (case l => k_is); (case c => k_is); (case k => k_is)
        r_walked := by refine' Lk.raw_l KX G ?a ?l ?c ?k; (case a => k_is); (case l => k_is); (case c => k_is); (case k => k_is)
        l_law := by refine' Lk.lamd_law (by decide +kernel) (by decide +kernel) KX G ?a ?l ?c ?k; (case a => k_is); (case l => k_is); (case c => k_is); (case k => k_is)
        r__law_told := by refine' Lk.raw_l KX G ?a ?l ?c ?k; (case a => k_is); (case l => k_is); (case c => k_is); (case k => k_is)
        g_CoinError := PySem.W.mg_of KX G (by k_is)
        g_BadTies := PySem.W.mg_of KX G (by k_is)
        g_BadStanding := PySem.W.mg_of KX G (by k_is)
        g_BadTurn := PySem.W.mg_of KX G (by k_is)
        g_BadNumber := PySem.W.mg_of KX G (by k_is)
        g_Unlike := PySem.W.mg_of KX G (by k_is)
        g_OneSided := PySem.W.mg_of KX G (by k_is)
        g_TooGreat := PySem.W.mg_of KX G (by k_is)
        x_BadStanding := by refine' Lk.xmk_22 KX G ?a ?k ?s ?t ?f (Lk.xcls_22 KX G ?exq ?ov ?sa ?hd ?sup ?sB ?own ?op ?ns ?top) (Lk.xini_22 ?hi ?hf ?lk ?hcd ?l2 ?v2 ?fl ?l3); (case a => k_is); (case k => k_is); (case s => k_is); (case t => k_is); (case f => k_is); (case exq => kx_is); (case ov => kx_is); (case sup => ks_is); (case sa => k_is); (case hd => k_is); (case sB => k_is); (case own => k_is); (case op => k_is); (case ns => k_is); (case top => kernel_rfl); (case hi => k_is); (case hf => k_is); (case lk => k_is); (case hcd => k_is); (case l2 => k_is); (case v2 => rfl); (case fl => kernel_rfl); (case l3 => k_is)
        e_BadStanding := Lk.xany_22 (by k_is) (by k_is) (by k_is) (by k_is) (by k_is) (by k_is) (by k_is) (by k_is)
        f_BadStanding := Lk.exnf_22 (Lk.xfc_22 (by k_is) (by k_is) (by k_is) (by k_is)) (by k_is)
        w_BadStanding := Lk.xis_22 (Lk.xfc_22 (by k_is) (by k_is) (by k_is) (by k_is)) (by k_is) (by k_is) (by k_is) (by k_is) (by kernel_rfl)
        i_BadStanding_BadTies := Lk.xki_22_21 (by kit_is)
        i_BadStanding_BadStanding := Lk.xki_22_22 (by kit_is)
        i_BadStanding_BadTurn := Lk.xki_22_23 (by kit_is)
        i_BadStanding_BadNumber := Lk.xki_22_24 (by kit_is)
        i_BadStanding_Unlike := Lk.xki_22_25 (by kit_is)
        i_BadStanding_OneSided := Lk.xki_22_26 (by kit_is)
        i_BadStanding_TooGreat := Lk.xki_22_31 (by kit_is)
        x_BadTurn := by refine' Lk.xmk_23 KX G ?a ?k ?s ?t ?f (Lk.xcls_23 KX G ?exq ?ov ?sa ?hd ?sup ?sB ?own ?op ?ns ?top) (Lk.xini_23 ?hi ?hf ?lk ?hcd ?l2 ?v2 ?fl ?l3); (case a => k_is); (case k => k_is); (case s => k_is); (case t => k_is); (case f => k_is); (case exq => kx_is); (case ov => kx_is); (case sup => ks_is); (case sa => k_is); (case hd => k_is); (case sB => k_is); (case own => k_is); (case op => k_is); (case ns => k_is); (case top => kernel_rfl); (case hi => k_is); (case hf => k_is); (case lk => k_is); (case hcd => k_is); (case l2 => k_is); (case v2 => rfl); (case fl => kernel_rfl); (case l3 => k_is)
        e_BadTurn := Lk.xany_23 (by k_is) (by k_is) (by k_is) (by k_is) (by k_is) (by k_is) (by k_is) (by k_is)
        f_BadTurn := Lk.exnf_23 (Lk.xfc_23 (by k_is) (by k_is) (by k_is) (by k_is)) (by k_is)
        w_BadTurn := Lk.xis_23 (Lk.xfc_23 (by k_is) (by k_is) (by k_is) (by k_is)) (by k_is) (by k_is) (by k_is) (by k_is) (by kernel_rfl)
        i_BadTurn_BadTies := Lk.xki_23_21 (by kit_is)
        i_BadTurn_BadStanding := Lk.xki_23_22 (by kit_is)
        i_BadTurn_BadTurn := Lk.xki_23_23 (by kit_is)
        i_BadTurn_BadNumber := Lk.xki_23_24 (by kit_is)
        i_BadTurn_Unlike := Lk.xki_23_25 (by kit_is)
        i_BadTurn_OneSided := Lk.xki_23_26 (by kit_is)
        i_BadTurn_TooGreat := Lk.xki_23_31 (by kit_is)
        m_Web := by refine' Lk.mak_0 KX G ?a ?b ?c; (case a => k_is); (case b => k_is); (case c => k_is)
        c_Web := by refine' Lk.cls_0 ?a ?b ?c ?d; (case a => k_is); (case b => k_is); (case c => k_is); (case d => k_is)
        n_Web_many := by refine' Lk.sltf_0 (Lk.cls_0 (by k_is) (by k_is) (by k_is) (by k_is)) ?a ?b ?c ?d ?e (by decide); (case a => k_is); (case b => k_is); (case c => k_is); (case d => k_is); (case e => k_is)
        n_Web_near := by refine' Lk.sltf_0 (Lk.cls_0 (by k_is) (by k_is) (by k_is) (by k_is)) ?a ?b ?c ?d ?e (by decide); (case a => k_is); (case b => k_is); (case c => k_is); (case d => k_is); (case e => k_is)
        n_Web_ties := by refine' Lk.sltf_0 (Lk.cls_0 (by k_is) (by k_is) (by k_is) (by k_is)) ?a ?b ?c ?d ?e (by decide); (case a => k_is); (case b => k_is); (case c => k_is); (case d => k_is); (case e => k_is)
      }

