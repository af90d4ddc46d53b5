import PyProof.Rows.All
import Wide.All
import OpenK.AllK
import Wide.FinOn
import HandS.ForMost
import HandS.Exc
import HandS.ExcOwn
import HandS.WordsExc
import HandS.Slots
import HandS.IsInst
import HandS.SortInts
import HandS.SortRule
import HandS.Conv
import HandS.TupLen
import HandS.Walk
import HandS.TupAny
import HandS.Star
import HandS.Property
import HandS.SlotsOwn
import KE.GoesEnum
import HandS.AnyAll
import HandS.MakeKwOnly
import KE.DataMinMax
import KE.DataFind
import KE.DataCmp
import KE.DataEq
import HandS.Remove
import HandS.DictTup
import HandS.DictSubView
import HandS.DictComp
import HandS.Small
import HandS.Style
import PyProof.InstNe
import PySem.Challenge.RW_likepairs_k23_first_part_by_names
set_option Elab.async false
set_option linter.all false
set_option maxRecDepth 100000
set_option maxHeartbeats 1000000
/-! Dn, part A: deep values, the heap of what can change, how they lie in the hand layer's heap. -/
namespace Dn
open PySem L2

/-- a value; tuples by what they hold -/
inductive AV where
  | non | bl (b : Bool) | int (i : Int) | str (x : Str) | ty (n : String) | scr (ns : List Int) | obj (n : Nat) | tup (xs : List AV)

/-- what can change -/
inductive AO where
  | lst (xs : List AV)
  | dK (kvs : List (Key × AV))
  | dT (kvs : List (List Key × AV))
  | ins (c : Nat) (fs : List AV)
  | slt (c : Nat) (fs : List (Option AV))
  | lk (kvs : List (List Key × AV))
  | unk

abbrev AH := List AO
structure Cfg where
  K : PySem.W.Frag
  cls : Nat → Addr
  nam : Nat → List Str

def FrzL (K : PySem.W.Frag) (H : Hp) (a : Addr) (xs : List V) : Prop :=
  (∃ o, H a = some (.frz o (.lst xs))) ∨
    ∃ (o : Obj) (its : Array Value) (n : Nat), K.lookup a = some o ∧ o.cls = .type "list" ∧ o.dict = none ∧ o.data = .seq its n ∧ its.size ≤ sizeLine ∧ Vals xs its.toList
theorem FrzL.sq {K : PySem.W.Frag} {H : Hp} {a : Addr} {xs : List V} (h : FrzL K H a xs) : SqL K H a xs := by
  rcases h with h | h
  · exact .inl (.inr h)
  · exact .inr h

mutual
inductive RelA (K : PySem.W.Frag) (m : List Addr) (H : Hp) : AV → V → Prop
  | non : RelA K m H .non .non
  | bl (b : Bool) : RelA K m H (.bl b) (.bl b)
  | int (i : Int) : RelA K m H (.int i) (.int i)
  | str (x : Str) : RelA K m H (.str x) (.str x)
  | ty (n : String) : RelA K m H (.ty n) (.ty n)
  | scr {ns : List Int} {a : Addr} (h : FrzL K H a (ns.map V.int)) : RelA K m H (.scr ns) (.ref a)
  | obj {n : Nat} {a : Addr} (h : m[n]? = some a) : RelA K m H (.obj n) (.ref a)
  | tup {a : Addr} {xs : List AV} {vs : List V} (h : H a = some (.tup vs)) (r : RelAs K m H xs vs) : RelA K m H (.tup xs) (.ref a)
inductive RelAs (K : PySem.W.Frag) (m : List Addr) (H : Hp) : List AV → List V → Prop
  | nil : RelAs K m H [] []
  | cons {x : AV} {v : V} {xs : List AV} {vs : List V} (h : RelA K m H x v) (t : RelAs K m H xs vs) : RelAs K m H (x :: xs) (v :: vs)
end

/-- tuples and what is frozen stay -/
structure Fz (H H' : Hp) : Prop where
  tup : ∀ a xs, H a = some (.tup xs) → H' a = some (.tup xs)
  frz : ∀ a o u, H a = some (.frz o u) → H' a = some (.frz o u)
theorem Fz.refl (H : Hp) : Fz H H := ⟨fun _ _ h => h, fun _ _ _ h => h⟩
theorem Fz.trans {H H1 H2 : Hp} (a : Fz H H1) (b : Fz H1 H2) : Fz H H2 := ⟨fun c x h => b.tup c x (a.tup c x h), fun c o u h => b.frz c o u (a.frz c o u h)⟩
theorem FrzL.mono {K : PySem.W.Frag} {H H' : Hp} {a : Addr} {xs : List V} (f : Fz H H') (h : FrzL K H a xs) : FrzL K H' a xs := by
  rcases h with ⟨o, h⟩ | h
  · exact .inl ⟨o, f.frz _ _ _ h⟩
  · exact .inr h

/-- the places are kept, more may come -/
def Pre (m m' : List Addr) : Prop := ∀ (n : Nat) (a : Addr), m[n]? = some a → m'[n]? = some a
theorem Pre.refl (m : List Addr) : Pre m m := fun _ _ h => h
theorem Pre.trans {m m1 m2 : List Addr} (a : Pre m m1) (b : Pre m1 m2) : Pre m m2 := fun n c h => b n c (a n c h)
theorem Pre.app (m l : List Addr) : Pre m (m ++ l) := fun n a h => by
  obtain ⟨hl, _⟩ := List.getElem?_eq_some_iff.mp h
  rw [List.getElem?_append_left hl]
  exact h

mutual
theorem RelA.mono {K : PySem.W.Frag} {m m' : List Addr} {H H' : Hp} (p : Pre m m') (f : Fz H H') : ∀ {x : AV} {v : V}, RelA K m H x v → RelA K m' H' x v
  | _, _, .non => .non
  | _, _, .bl b => .bl b
  | _, _, .int i => .int i
  | _, _, .str x => .str x
  | _, _, .ty x => .ty x
  | _, _, .scr h => .scr (h.mono f)
  | _, _, .obj h => .obj (p _ _ h)
  | _, _, .tup h r => .tup (f.tup _ _ h) (RelAs.mono p f r)
theorem RelAs.mono {K : PySem.W.Frag} {m m' : List Addr} {H H' : Hp} (p : Pre m m') (f : Fz H H') : ∀ {xs : List AV} {vs : List V}, RelAs K m H xs vs → RelAs K m' H' xs vs
  | _, _, .nil => .nil
  | _, _, .cons h t => .cons (RelA.mono p f h) (RelAs.mono p f t)
end
section
variable {K : PySem.W.Frag} {m m' : List Addr} {H H' : Hp}
theorem RelAs.length : ∀ {xs : List AV} {vs : List V}, RelAs K m H xs vs → xs.length = vs.length
  | _, _, .nil => rfl
  | _, _, .cons _ t => by rw [List.length_cons, List.length_cons, RelAs.length t]
theorem RelAs.get : ∀ {xs : List AV} {vs : List V} {i : Nat} {x : AV}, RelAs K m H xs vs → xs[i]? = some x → ∃ v, vs[i]? = some v ∧ RelA K m H x v
  | _, _, _, _, .nil, e => by simp at e
  | _, _, 0, _, .cons r _, e => by
    simp at e
    subst e
    exact ⟨_, rfl, r⟩
  | _, _, i + 1, x, .cons _ t, e => by
    obtain ⟨u, h1, h2⟩ := RelAs.get (i := i) (x := x) t (by simpa using e)
    exact ⟨u, by simpa using h1, h2⟩
theorem RelAs.get' : ∀ {xs : List AV} {vs : List V} {i : Nat} {v : V}, RelAs K m H xs vs → vs[i]? = some v → ∃ x, xs[i]? = some x ∧ RelA K m H x v
  | _, _, _, _, .nil, e => by simp at e
  | _, _, 0, _, .cons r _, e => by
    simp at e
    subst e
    exact ⟨_, rfl, r⟩
  | _, _, i + 1, x, .cons _ t, e => by
    obtain ⟨u, h1, h2⟩ := RelAs.get' (i := i) (v := x) t (by simpa using e)
    exact ⟨u, by simpa using h1, h2⟩
theorem RelAs.app : ∀ {xs ys : List AV} {vs ws : List V}, RelAs K m H xs vs → RelAs K m H ys ws → RelAs K m H (xs ++ ys) (vs ++ ws)
  | _, _, _, _, .nil, s => s
  | _, _, _, _, .cons r t, s => .cons r (RelAs.app t s)
theorem RelAs.set {x : AV} {v : V} (r : RelA K m H x v) : ∀ {xs : List AV} {vs : List V} (i : Nat), RelAs K m H xs vs → RelAs K m H (xs.set i x) (vs.set i v)
  | _, _, _, .nil => .nil
  | _, _, 0, .cons _ t => .cons r t
  | _, _, i + 1, .cons q t => .cons q (RelAs.set r i t)
theorem RelAs.erase : ∀ {xs : List AV} {vs : List V} (i : Nat), RelAs K m H xs vs → RelAs K m H (xs.eraseIdx i) (vs.eraseIdx i)
  | _, _, _, .nil => .nil
  | _, _, 0, .cons _ t => t
  | _, _, i + 1, .cons q t => .cons q (RelAs.erase i t)
theorem RelAs.take : ∀ {xs : List AV} {vs : List V} (n : Nat), RelAs K m H xs vs → RelAs K m H (xs.take n) (vs.take n)
  | _, _, 0, _ => .nil
  | _, _, _ + 1, .nil => .nil
  | _, _, n + 1, .cons r t => .cons r (RelAs.take n t)
theorem RelAs.drop : ∀ {xs : List AV} {vs : List V} (n : Nat), RelAs K m H xs vs → RelAs K m H (xs.drop n) (vs.drop n)
  | _, _, 0, r => r
  | _, _, _ + 1, .nil => .nil
  | _, _, n + 1, .cons _ t => RelAs.drop n t
theorem RelAs.rev : ∀ {xs : List AV} {vs : List V}, RelAs K m H xs vs → RelAs K m H xs.reverse vs.reverse
  | _, _, .nil => .nil
  | _, _, .cons r t => by
    rw [List.reverse_cons, List.reverse_cons]
    exact (RelAs.rev t).app (.cons r .nil)
theorem RelAs.ints : ∀ (ns : List Int), RelAs K m H (ns.map AV.int) (ns.map V.int)
  | [] => .nil
  | n :: ns => .cons (.int n) (RelAs.ints ns)
theorem RelA.to_int {i : Int} {v : V} (r : RelA K m H (.int i) v) : v = .int i := by cases r; rfl
theorem RelA.to_bl {i : Bool} {v : V} (r : RelA K m H (.bl i) v) : v = .bl i := by cases r; rfl
theorem RelA.to_str {i : Str} {v : V} (r : RelA K m H (.str i) v) : v = .str i := by cases r; rfl
theorem RelA.to_non {v : V} (r : RelA K m H .non v) : v = .non := by cases r; rfl
theorem RelA.to_obj {n : Nat} {v : V} (r : RelA K m H (.obj n) v) : ∃ a, m[n]? = some a ∧ v = .ref a := by
  cases r with
  | obj h => exact ⟨_, h, rfl⟩
theorem RelA.to_tup {xs : List AV} {v : V} (r : RelA K m H (.tup xs) v) : ∃ a vs, v = .ref a ∧ H a = some (.tup vs) ∧ RelAs K m H xs vs := by
  cases r with
  | tup h r => exact ⟨_, _, rfl, h, r⟩
end

/-- the pairs of a dict -/
def RelKV {κ : Type} (K : PySem.W.Frag) (m : List Addr) (H : Hp) : List (κ × AV) → List (κ × V) → Prop := Paired fun p q => p.1 = q.1 ∧ RelA K m H p.2 q.2
theorem RelKV.mono {κ : Type} {K : PySem.W.Frag} {m m' : List Addr} {H H' : Hp} (p : Pre m m') (f : Fz H H') {xs : List (κ × AV)} {vs : List (κ × V)} (r : RelKV K m H xs vs) : RelKV K m' H' xs vs :=
  Paired.mapP r fun _ _ h => ⟨h.1, h.2.mono p f⟩

def RelOA (K : PySem.W.Frag) (m : List Addr) (H : Hp) : Option AV → Option V → Prop
  | some x, some v => RelA K m H x v
  | none, none => True
  | _, _ => False
def RelOs (K : PySem.W.Frag) (m : List Addr) (H : Hp) : List (Option AV) → List (Option V) → Prop := Paired (RelOA K m H)
theorem RelOA.mono {K : PySem.W.Frag} {m m' : List Addr} {H H' : Hp} (p : Pre m m') (f : Fz H H') : ∀ {x : Option AV} {v : Option V}, RelOA K m H x v → RelOA K m' H' x v
  | some _, some _, h => RelA.mono p f h
  | none, none, _ => trivial
  | some _, none, h => h.elim
  | none, some _, h => h.elim
theorem RelOs.mono {K : PySem.W.Frag} {m m' : List Addr} {H H' : Hp} (p : Pre m m') (f : Fz H H') {xs : List (Option AV)} {vs : List (Option V)} (r : RelOs K m H xs vs) : RelOs K m' H' xs vs := Paired.mapP r fun _ _ h => h.mono p f
/-- the kinds of what stands at the places -/
def Mn : HO → Prop
  | .lst _ => True
  | .dK _ => True
  | .dT _ => True
  | .ins _ _ _ => True
  | .ext _ => True
  | _ => False
def ObjS (cf : Cfg) (m : List Addr) (H : Hp) (a : Addr) : AO → Prop
  | .lst xs => ∃ vs, H a = some (.lst vs) ∧ RelAs cf.K m H xs vs
  | .dK kvs => ∃ vs, H a = some (.dK vs) ∧ RelKV cf.K m H kvs vs
  | .dT kvs => ∃ vs, H a = some (.dT vs) ∧ RelKV cf.K m H kvs vs
  | .ins c fs => ∃ dx vs, H a = some (.ins (cf.cls c) dx (((cf.nam c).zip vs))) ∧ fs.length ≤ (cf.nam c).length ∧ RelAs cf.K m H fs vs
  | .slt c fs => ∃ dx vs, dx ≠ a ∧ ((H a = some (.ins (cf.cls c) dx []) ∧ vs = [] ∧ H dx = some (.own a)) ∨ (H a = some (SlX.SlO a (cf.cls c) dx vs) ∧ H dx = some (.xd []))) ∧ RelOs cf.K m H fs vs
  | .lk kvs => ∃ o vs, H a = some (.frz o (.dT vs)) ∧ RelKV cf.K m H kvs vs
  | .unk => ∃ u, H a = some u ∧ Mn u

structure Sim (cf : Cfg) (m : List Addr) (H : Hp) (A : AH) : Prop where
  len : m.length = A.length
  nd : m.Nodup
  at_ : ∀ (n : Nat) (a : Addr) (o : AO), m[n]? = some a → A[n]? = some o → ObjS cf m H a o

/-- the same, or a dict that is locked -/
def Mp : HO → Prop
  | .lst _ => True
  | .dK _ => True
  | .dT _ => True
  | .ins _ _ _ => True
  | .ext _ => True
  | .frz _ (.dT _) => True
  | _ => False
theorem ObjS.main {cf : Cfg} {m : List Addr} {H : Hp} {a : Addr} {o : AO} (h : ObjS cf m H a o) : ∃ u, H a = some u ∧ Mp u := by
  cases o with
  | lst xs => obtain ⟨vs, e, _⟩ := h; exact ⟨_, e, trivial⟩
  | dK xs => obtain ⟨vs, e, _⟩ := h; exact ⟨_, e, trivial⟩
  | dT xs => obtain ⟨vs, e, _⟩ := h; exact ⟨_, e, trivial⟩
  | ins c fs => obtain ⟨dx, vs, e, _⟩ := h; exact ⟨_, e, trivial⟩
  | slt c fs =>
    obtain ⟨dx, vs, _, h, _⟩ := h
    rcases h with ⟨e, _⟩ | ⟨e, _⟩
    · exact ⟨_, e, trivial⟩
    · exact ⟨_, e, trivial⟩
  | lk kvs => obtain ⟨o, vs, e, _⟩ := h; exact ⟨_, e, trivial⟩
  | unk =>
    obtain ⟨u, e, h⟩ := h
    refine ⟨u, e, ?_⟩
    cases u <;> first | trivial | exact h.elim
/-- an object whose own address, dict and tuples stay -/
theorem ObjS.stay {cf : Cfg} {m m' : List Addr} {H H' : Hp} {a : Addr} {o : AO} (h : ObjS cf m H a o) (p : Pre m m') (f : Fz H H') (ha : ∀ u, H a = some u → H' a = some u)
    (hd : ∀ c u, H c = some u → (u = .own a ∨ u = .xd []) → H' c = some u) : ObjS cf m' H' a o := by
  cases o with
  | lst xs => obtain ⟨vs, e, r⟩ := h; exact ⟨vs, ha _ e, r.mono p f⟩
  | dK xs => obtain ⟨vs, e, r⟩ := h; exact ⟨vs, ha _ e, r.mono p f⟩
  | dT xs => obtain ⟨vs, e, r⟩ := h; exact ⟨vs, ha _ e, r.mono p f⟩
  | ins c fs => obtain ⟨dx, vs, e, l, r⟩ := h; exact ⟨dx, vs, ha _ e, l, r.mono p f⟩
  | slt c fs =>
    obtain ⟨dx, vs, ne, h, r⟩ := h
    refine ⟨dx, vs, ne, ?_, r.mono p f⟩
    rcases h with ⟨e, e1, e2⟩ | ⟨e, e2⟩
    · exact .inl ⟨ha _ e, e1, hd _ _ e2 (.inl rfl)⟩
    · exact .inr ⟨ha _ e, hd _ _ e2 (.inr rfl)⟩
  | lk kvs => obtain ⟨o, vs, e, r⟩ := h; exact ⟨o, vs, ha _ e, r.mono p f⟩
  | unk => obtain ⟨u, e, h⟩ := h; exact ⟨u, ha _ e, h⟩
section
variable {cf : Cfg} {m m' : List Addr} {H H' : Hp} {A : AH}
theorem Sim.get (S : Sim cf m H A) {n : Nat} {a : Addr} (h : m[n]? = some a) : ∃ o, A[n]? = some o := by
  obtain ⟨hl, _⟩ := List.getElem?_eq_some_iff.mp h
  rw [S.len] at hl
  exact ⟨A[n], List.getElem?_eq_getElem hl⟩
theorem Sim.addr (S : Sim cf m H A) {n : Nat} {o : AO} (h : A[n]? = some o) : ∃ a, m[n]? = some a := by
  obtain ⟨hl, _⟩ := List.getElem?_eq_some_iff.mp h
  rw [← S.len] at hl
  exact ⟨m[n], List.getElem?_eq_getElem hl⟩
theorem Sim.main (S : Sim cf m H A) {n : Nat} {a : Addr} (h : m[n]? = some a) : ∃ u, H a = some u ∧ Mp u := by
  obtain ⟨o, ho⟩ := S.get h
  exact (S.at_ n a o h ho).main
theorem Sim.obj (S : Sim cf m H A) {n : Nat} {v : V} {o : AO} (r : RelA cf.K m H (.obj n) v) (h : A[n]? = some o) : ∃ a, v = .ref a ∧ m[n]? = some a ∧ ObjS cf m H a o := by
  obtain ⟨a, ha, e⟩ := r.to_obj
  exact ⟨a, e, ha, S.at_ n a o ha h⟩
theorem fz_new {p : Addr} {o : HO} (h : H p = none) : Fz H (upd H p o) := ⟨fun a xs e => by rw [upd_ne (ne_of_none e h)]; exact e, fun a o u e => by rw [upd_ne (ne_of_none e h)]; exact e⟩
theorem fz_main {a : Addr} {u o : HO} (h : H a = some u) (hm : Mn u) : Fz H (upd H a o) := by
  refine ⟨fun b xs e => ?_, fun b q w e => ?_⟩
  · rw [upd_ne (ne_of e h (fun z => by subst z; exact hm))]
    exact e
  · rw [upd_ne (ne_of e h (fun z => by subst z; exact hm))]
    exact e
/-- something that is in no place is made -/
theorem Sim.side (S : Sim cf m H A) {p : Addr} {o : HO} (h : H p = none) : Sim cf m (upd H p o) A :=
  ⟨S.len, S.nd, fun n a q hm hA => (S.at_ n a q hm hA).stay (Pre.refl m) (fz_new h) (fun u e => by rw [upd_ne (ne_of_none e h)]; exact e) fun c u e _ => by rw [upd_ne (ne_of_none e h)]; exact e⟩
theorem Sim.notin (S : Sim cf m H A) {p : Addr} (h : H p = none) : p ∉ m := fun hp => by
  obtain ⟨n, hl, e⟩ := List.getElem_of_mem hp
  obtain ⟨u, hu, _⟩ := S.main (n := n) (a := p) (by rw [List.getElem?_eq_getElem hl, e])
  rw [h] at hu
  cases hu
/-- a new place -/
theorem Sim.new (S : Sim cf m H A) {p : Addr} {o : AO} {ho : HO} (h : H p = none) (hn : ObjS cf (m ++ [p]) (upd H p ho) p o) : Sim cf (m ++ [p]) (upd H p ho) (A ++ [o]) := by
  refine ⟨by rw [List.length_append, List.length_append, S.len]; rfl, ?_, fun n a q hm hA => ?_⟩
  · rw [List.nodup_append]
    refine ⟨S.nd, by simp, fun a ha b hb e => ?_⟩
    rw [List.mem_singleton] at hb
    subst hb e
    exact S.notin h ha
  · by_cases hl : n < m.length
    · rw [List.getElem?_append_left hl] at hm
      rw [List.getElem?_append_left (by rw [← S.len]; exact hl)] at hA
      exact (S.at_ n a q hm hA).stay (Pre.app m _) (fz_new h) (fun u e => by rw [upd_ne (ne_of_none e h)]; exact e) fun c u e _ => by rw [upd_ne (ne_of_none e h)]; exact e
    · rw [List.getElem?_append_right (by omega)] at hm
      rw [List.getElem?_append_right (by rw [← S.len]; omega), ← S.len] at hA
      have e0 : n - m.length = 0 := by
        obtain ⟨q, _⟩ := List.getElem?_eq_some_iff.mp hm
        simp at q
        omega
      rw [e0] at hm hA
      simp at hm hA
      subst hm hA
      exact hn
/-- what stands at a place is changed -/
theorem Sim.put (S : Sim cf m H A) {n : Nat} {a : Addr} {o' : AO} {ho : HO} (hm : m[n]? = some a) {u : HO} (hu : H a = some u) (mu : Mn u) (hn : ObjS cf m (upd H a ho) a o') : Sim cf m (upd H a ho) (A.set n o') := by
  refine ⟨by rw [List.length_set, S.len], S.nd, fun k b q hk hA => ?_⟩
  by_cases e : k = n
  · subst e
    rw [hm] at hk
    cases hk
    have hl : k < A.length := by
      rw [← S.len]
      exact (List.getElem?_eq_some_iff.mp hm).1
    rw [List.getElem?_set_self hl] at hA
    cases hA
    exact hn
  · rw [List.getElem?_set_ne (Ne.symm e)] at hA
    have hb : b ≠ a := fun z => by
      subst z
      exact e (nd_ix S.nd hk hm)
    refine (S.at_ k b q hk hA).stay (Pre.refl m) (fz_main hu mu) (fun u e => by rw [upd_ne hb]; exact e) fun c w e hw => ?_
    rw [upd_ne (fun z => ?_)]
    · exact e
    · subst z
      rw [hu] at e
      cases e
      rcases hw with z | z <;> (subst z; exact mu)
end
end Dn

set_option maxRecDepth 100000
set_option maxHeartbeats 1000000
/-! Dn, part B: results, what is wanted behind them, expressions. -/
namespace Dn
open PySem L2

structure Ex where
  c : Nat
  fs : List AV
inductive Res (α : Type) where
  | ok (a : α) (A : AH) | exc (e : Ex) (A : AH) | er

abbrev Rho := List (Option AV)
/-- the slots -/
structure Loc (K : PySem.W.Frag) (m : List Addr) (H : Hp) (ρ : Rho) (σ : L2.St) : Prop where
  len : ρ.length = σ.length
  at_ : ∀ (i : Nat) (x : AV), ρ[i]? = some (some x) → ∃ v, σ[i]? = some (some v) ∧ RelA K m H x v
theorem Loc.mono {K : PySem.W.Frag} {m m' : List Addr} {H H' : Hp} {ρ : Rho} {σ : L2.St} (p : Pre m m') (f : Fz H H') (l : Loc K m H ρ σ) : Loc K m' H' ρ σ :=
  ⟨l.len, fun i x e => let ⟨v, h1, h2⟩ := l.at_ i x e; ⟨v, h1, h2.mono p f⟩⟩
theorem Loc.set {K : PySem.W.Frag} {m : List Addr} {H : Hp} {ρ : Rho} {σ : L2.St} {x : AV} {v : V} (l : Loc K m H ρ σ) (i : Nat) (r : RelA K m H x v) : Loc K m H (ρ.set i (some x)) (σ.set i (some v)) := by
  refine ⟨by rw [List.length_set, List.length_set, l.len], fun j y e => ?_⟩
  by_cases h : i = j
  · subst h
    by_cases hl : i < ρ.length
    · rw [List.getElem?_set_self hl] at e
      cases e
      exact ⟨v, List.getElem?_set_self (by rw [← l.len]; exact hl), r⟩
    · rw [List.getElem?_eq_none (by rw [List.length_set]; omega)] at e
      cases e
  · rw [List.getElem?_set_ne h] at e
    obtain ⟨w, h1, h2⟩ := l.at_ j y e
    exact ⟨w, by rw [List.getElem?_set_ne h]; exact h1, h2⟩

/-- an exception: its class, its own dict -/
def ExcR (cf : Cfg) (m : List Addr) (H : Hp) (e : Ex) (cls : Value) (d : Option Addr) : Prop :=
  cls = .ref (cf.cls e.c) ∧ ((e.fs = [] ∧ d = none) ∨ ∃ dd vs, d = some dd ∧ H dd = some (.xd ((cf.nam e.c).zip vs)) ∧ e.fs.length ≤ (cf.nam e.c).length ∧ RelAs cf.K m H e.fs vs)

/-- behind: more places, tuples kept, what is told stands -/
structure Go (cf : Cfg) (m : List Addr) (H : Hp) (m' : List Addr) (H' : Hp) (A' : AH) : Prop where
  pre : Pre m m'
  fz : Fz H H'
  sim : Sim cf m' H' A'
theorem Go.refl {cf : Cfg} {m : List Addr} {H : Hp} {A : AH} (S : Sim cf m H A) : Go cf m H m H A := ⟨Pre.refl m, Fz.refl H, S⟩
theorem Go.trans {cf : Cfg} {m m1 m2 : List Addr} {H H1 H2 : Hp} {A1 A2 : AH} (a : Go cf m H m1 H1 A1) (b : Go cf m1 H1 m2 H2 A2) : Go cf m H m2 H2 A2 := ⟨a.pre.trans b.pre, a.fz.trans b.fz, b.sim⟩

/-- what is wanted of a result; Rl: how its value lies -/
def Post {α β : Type} (cf : Cfg) (W : WX) (Rl : List Addr → Hp → α → β → Prop) (m : List Addr) (H : Hp) (σ : L2.St) (Q : β → Hp → Prop) : Res α → Prop
  | .ok x A' => ∀ m' H' v, Go cf m H m' H' A' → Rl m' H' x v → Q v H'
  | .exc e A' => ∀ m' H' cls d, Go cf m H m' H' A' → ExcR cf m' H' e cls d → W cls d σ H'
  | .er => False
theorem Post.mono {α β : Type} {cf : Cfg} {W : WX} {Rl : List Addr → Hp → α → β → Prop} {m m1 : List Addr} {H H1 : Hp} {A1 : AH} {σ : L2.St} {Q : β → Hp → Prop} {r : Res α} (g : Go cf m H m1 H1 A1) (h : Post cf W Rl m H σ Q r) : Post cf W Rl m1 H1 σ Q r := by
  cases r with
  | ok x A' => exact fun m' H' v g' r => h m' H' v (g.trans g') r
  | exc e A' => exact fun m' H' cls d g' r => h m' H' cls d (g.trans g') r
  | er => exact h

def rA (cf : Cfg) : List Addr → Hp → AV → V → Prop := fun m H => RelA cf.K m H
def rAs (cf : Cfg) : List Addr → Hp → List AV → List V → Prop := fun m H => RelAs cf.K m H
def rB : List Addr → Hp → Bool → Bool → Prop := fun _ _ a b => a = b

abbrev FE := Rho → AH → Res AV
abbrev FT := Rho → AH → Res Bool
abbrev FA := Rho → AH → Res (List AV)
/-- a reading keeps what the function says -/
def Ok {α β : Type} (cf : Cfg) (W : WX) (Rl : List Addr → Hp → α → β → Prop) (t : L2.St → Hp → (β → Hp → Prop) → Prop) (f : Rho → AH → Res α) : Prop :=
  ∀ (ρ : Rho) (σ : L2.St) (m : List Addr) (H : Hp) (A : AH) (Q : β → Hp → Prop), Sim cf m H A → Loc cf.K m H ρ σ → Post cf W Rl m H σ Q (f ρ A) → t σ H Q
abbrev EOk (cf : Cfg) (W : WX) (t : TE) (f : FE) : Prop := Ok cf W (rA cf) t f
abbrev TOk (cf : Cfg) (W : WX) (t : TT) (f : FT) : Prop := Ok cf W rB t f
abbrev AOk (cf : Cfg) (W : WX) (t : TA) (f : FA) : Prop := Ok cf W (rAs cf) t f

def Res.bind {α β : Type} (r : Res α) (k : α → AH → Res β) : Res β :=
  match r with
  | .ok a A => k a A
  | .exc e A => .exc e A
  | .er => .er
@[simp] theorem Res.bind_ok {α β : Type} (a : α) (A : AH) (k : α → AH → Res β) : (Res.ok a A).bind k = k a A := rfl
@[simp] theorem Res.bind_exc {α β : Type} (e : Ex) (A : AH) (k : α → AH → Res β) : (Res.exc e A : Res α).bind k = .exc e A := rfl
@[simp] theorem Res.bind_er {α β : Type} (k : α → AH → Res β) : (Res.er : Res α).bind k = .er := rfl

/-- first this, then that -/
theorem Ok.then {α β γ δ : Type} {cf : Cfg} {W : WX} {Rl : List Addr → Hp → α → β → Prop} {Rl2 : List Addr → Hp → γ → δ → Prop} {t : L2.St → Hp → (β → Hp → Prop) → Prop} {f : Rho → AH → Res α} (h : Ok cf W Rl t f)
    {ρ : Rho} {σ : L2.St} {m : List Addr} {H : Hp} {A : AH} {Q : δ → Hp → Prop} {R : β → Hp → Prop} {k : α → AH → Res γ} (S : Sim cf m H A) (L : Loc cf.K m H ρ σ) (P : Post cf W Rl2 m H σ Q ((f ρ A).bind k))
    (hk : ∀ x v m1 H1 A1, f ρ A = .ok x A1 → Go cf m H m1 H1 A1 → Loc cf.K m1 H1 ρ σ → Rl m1 H1 x v → Post cf W Rl2 m1 H1 σ Q (k x A1) → R v H1) : t σ H R := by
  refine h ρ σ m H A R S L ?_
  cases e : f ρ A with
  | ok x A1 =>
    rw [e] at P
    exact fun m1 H1 v g r => hk x v m1 H1 A1 e g (L.mono g.pre g.fz) r (Post.mono g P)
  | exc x A1 =>
    rw [e] at P
    exact P
  | er =>
    rw [e] at P
    exact P.elim

/-! ### judgements: the syntax, what it computes -/
structure CE (cf : Cfg) (X : Cx) (W : WX) (e : Expr) (f : FE) : Prop where
  ex : ∃ t, PE X e t ∧ EOk cf W t f
structure CT (cf : Cfg) (X : Cx) (W : WX) (e : Expr) (f : FT) : Prop where
  ex : ∃ t, PT X e t ∧ TOk cf W t f
structure CW (cf : Cfg) (X : Cx) (W : WX) (e : Expr) (f : FT) : Prop where
  ex : ∃ t, PW X e t ∧ TOk cf W t f
structure CA (cf : Cfg) (X : Cx) (W : WX) (es : List Expr) (f : FA) : Prop where
  ex : ∃ t, PA X es t ∧ AOk cf W t f

section
variable {cf : Cfg} {X : Cx} {W : WX}
/-! ### names, constants -/
def fVar (i : Nat) : FE := fun ρ A => match ρ[i]? with
  | some (some v) => .ok v A
  | _ => .er
def fC (v : AV) : FE := fun _ A => .ok v A
theorem ok_var {i : Nat} : EOk cf W (tVar i) (fVar i) := fun ρ σ m H A Q S L P => by
  unfold fVar at P
  split at P
  · rename_i v e
    obtain ⟨w, h1, h2⟩ := L.at_ i v e
    exact ⟨w, h1, P m H w (Go.refl S) h2⟩
  · exact P.elim
theorem ok_c {v : AV} {w : V} (h : ∀ K m H, RelA K m H v w) : EOk cf W (tC w) (fC v) := fun ρ σ m H A Q S L P => P m H w (Go.refl S) (h _ _ _)
theorem c_var {x : Str} {pos : Pos} (i : Nat) (hN : X.N[i]? = some x := by rfl) (hv : Vis X.env.scope x := by first | exact Or.inl rfl | exact Or.inr (Or.inl rfl) | exact Or.inr (Or.inr rfl)) (hd : (x == ("__debug__" : Str)) = false := by decide)
    (hcd : (x == ("__classdict__" : Str)) = false := by decide) : CE cf X W (.Name x pos) (fVar i) := ⟨_, pe_var hN hv hd hcd, ok_var⟩
theorem c_int {i j pos} : CE cf X W (.Constant (.int i) j pos) (fC (.int i)) := ⟨_, pe_int, ok_c fun _ _ _ => .int i⟩
theorem c_bl {i j pos} : CE cf X W (.Constant (.bool i) j pos) (fC (.bl i)) := ⟨_, pe_bl, ok_c fun _ _ _ => .bl i⟩
theorem c_str {i j pos} : CE cf X W (.Constant (.str i) j pos) (fC (.str i)) := ⟨_, pe_str, ok_c fun _ _ _ => .str i⟩
theorem c_non {j pos} : CE cf X W (.Constant .none j pos) (fC .non) := ⟨_, pe_non, ok_c fun _ _ _ => .non⟩
/-- a module's number or text -/
theorem c_gint {x : Str} {i : Int} {t : Tok} {pos : Pos} (hg : Gl X x) (hm : X.mg x = some (.int i t)) (hd : (x == ("__debug__" : Str)) = false := by decide) : CE cf X W (.Name x pos) (fC (.int i)) :=
  ⟨_, pe_glob (v := .int i) hg hm ⟨t, rfl⟩ hd, ok_c fun _ _ _ => .int i⟩
theorem c_gstr {x : Str} {i : Str} {t : Tok} {pos : Pos} (hg : Gl X x) (hm : X.mg x = some (.str i t)) (hd : (x == ("__debug__" : Str)) = false := by decide) : CE cf X W (.Name x pos) (fC (.str i)) :=
  ⟨_, pe_glob (v := .str i) hg hm ⟨t, rfl⟩ hd, ok_c fun _ _ _ => .str i⟩

/-! ### two values -/
abbrev F2 := AV → AV → AH → Res AV
def R2Ok (cf : Cfg) (r : R2) (g : F2) : Prop := ∀ (W : WX) (m : List Addr) (H : Hp) (A : AH) (σ : L2.St) (Q : VK) (x y : AV) (v w : V), Sim cf m H A → RelA cf.K m H x v → RelA cf.K m H y w → Post cf W (rA cf) m H σ Q (g x y A) → r v w H Q
def f2 (g : F2) (fa fb : FE) : FE := fun ρ A => (fa ρ A).bind fun x A => (fb ρ A).bind fun y A => g x y A
theorem ok_2 {r : R2} {g : F2} {ta tb : TE} {fa fb : FE} (hr : R2Ok cf r g) (ha : EOk cf W ta fa) (hb : EOk cf W tb fb) : EOk cf W (tOp r ta tb) (f2 g fa fb) := fun ρ σ m H A Q S L P => by
  refine ha.then S L P fun x v m1 H1 A1 _ g1 L1 r1 P1 => ?_
  refine hb.then g1.sim L1 P1 fun y w m2 H2 A2 _ g2 L2 r2 P2 => ?_
  exact hr W m2 H2 A2 σ Q x y v w g2.sim (RelA.mono g2.pre g2.fz r1) r2 P2
theorem c_op {a b : Expr} {op : Operator} {pos : Pos} {r : R2} {g : F2} {fa fb : FE} (ho : OpR X (binaryOp op) r) (hr : R2Ok cf r g) (ha : CE cf X W a fa) (hb : CE cf X W b fb) : CE cf X W (.BinOp a op b pos) (f2 g fa fb) := by
  obtain ⟨ta, pa, oa⟩ := ha.ex
  obtain ⟨tb, pb, ob⟩ := hb.ex
  exact ⟨_, pe_op ho pa pb, ok_2 hr oa ob⟩
theorem c_cmp {a b : Expr} {op : CmpOp} {pos : Pos} {r : R2} {g : F2} {fa fb : FE} (ho : OpR X (compareOp op) r) (hr : R2Ok cf r g) (ha : CE cf X W a fa) (hb : CE cf X W b fb) (hm : behindInMarks op b = false := by first | exact nomark _ | rfl) : CE cf X W (.Compare a [op] [b] pos) (f2 g fa fb) := by
  obtain ⟨ta, pa, oa⟩ := ha.ex
  obtain ⟨tb, pb, ob⟩ := hb.ex
  exact ⟨_, pe_cmpR ho pa pb hm, ok_2 hr oa ob⟩
/-- a value that is a truth value -/
def asB : AV → AH → Res Bool
  | .bl b, A => .ok b A
  | _, _ => .er
def fB (fa : FE) : FT := fun ρ A => (fa ρ A).bind asB
theorem asB_post {x : AV} {v : V} {m : List Addr} {H : Hp} {A : AH} {σ : L2.St} {Q : Bool → Hp → Prop} (S : Sim cf m H A) (r : RelA cf.K m H x v) (P : Post cf W rB m H σ Q (asB x A)) : ∃ k, v = .bl k ∧ Q k H := by
  cases x with
  | bl b =>
    cases r
    exact ⟨b, rfl, P m H b (Go.refl S) rfl⟩
  | _ => exact P.elim
theorem ok_test {t : TE} {f : FE} (h : EOk cf W t f) : TOk cf W (tTest t) (fB f) := fun ρ σ m H A Q S L P => by
  refine h.then S L P fun x v m1 H1 A1 _ g1 L1 r1 P1 => ?_
  exact asB_post g1.sim r1 P1
theorem ok_B {t : TE} {f : FE} (h : EOk cf W t f) : TOk cf W (tB t) (fB f) := fun ρ σ m H A Q S L P => by
  refine h.then S L P fun x v m1 H1 A1 _ g1 L1 r1 P1 => ?_
  exact asB_post g1.sim r1 P1
theorem ct_cmp {a b : Expr} {op : CmpOp} {pos : Pos} {r : R2} {g : F2} {fa fb : FE} (ho : OpR X (compareOp op) r) (hr : R2Ok cf r g) (ha : CE cf X W a fa) (hb : CE cf X W b fb) (hm : behindInMarks op b = false := by first | exact nomark _ | rfl) : CT cf X W (.Compare a [op] [b] pos) (fB (f2 g fa fb)) := by
  obtain ⟨ta, pa, oa⟩ := ha.ex
  obtain ⟨tb, pb, ob⟩ := hb.ex
  exact ⟨_, pt_cmpR ho pa pb hm, ok_test (ok_2 hr oa ob)⟩
/-- an expression that gives a truth value, as a test -/
theorem ct_val {e : Expr} {f : FE} (h : CE cf X W e f) (he : ∀ whole, isTrue e X.env whole = (do let v ← whole; standAt e.pos; holding [v] (truthy v)) := by intro _; rfl) : CT cf X W e (fB f) := by
  obtain ⟨t, p, o⟩ := h.ex
  exact ⟨_, pt_val p he, ok_B o⟩

/-! ### and, or, not -/
def fAnd (f g : FT) : FT := fun ρ A => (f ρ A).bind fun b A => if b = true then g ρ A else .ok false A
def fOr (f g : FT) : FT := fun ρ A => (f ρ A).bind fun b A => if b = true then .ok true A else g ρ A
def fNot (f : FT) : FT := fun ρ A => (f ρ A).bind fun b A => .ok (!b) A
theorem ok_and {t u : TT} {f g : FT} (hf : TOk cf W t f) (hg : TOk cf W u g) : TOk cf W (tAnd t u) (fAnd f g) := fun ρ σ m H A Q S L P => by
  refine hf.then S L P fun x v m1 H1 A1 _ g1 L1 r1 P1 => ?_
  cases (show x = v from r1)
  cases x with
  | true => exact hg ρ σ m1 H1 A1 Q g1.sim L1 P1
  | false => exact P1 m1 H1 false (Go.refl g1.sim) rfl
theorem ok_or {t u : TT} {f g : FT} (hf : TOk cf W t f) (hg : TOk cf W u g) : TOk cf W (tOr t u) (fOr f g) := fun ρ σ m H A Q S L P => by
  refine hf.then S L P fun x v m1 H1 A1 _ g1 L1 r1 P1 => ?_
  cases (show x = v from r1)
  cases x with
  | true => exact P1 m1 H1 true (Go.refl g1.sim) rfl
  | false => exact hg ρ σ m1 H1 A1 Q g1.sim L1 P1
theorem ok_not {t : TT} {f : FT} (hf : TOk cf W t f) : TOk cf W (tNot t) (fNot f) := fun ρ σ m H A Q S L P => by
  refine hf.then S L P fun x v m1 H1 A1 _ g1 L1 r1 P1 => ?_
  cases (show x = v from r1)
  exact P1 m1 H1 (!x) (Go.refl g1.sim) rfl
theorem CW.ct {e : Expr} {f : FT} (h : CW cf X W e f) : CT cf X W e f := let ⟨t, p, o⟩ := h.ex; ⟨t, p.pt, o⟩
theorem cw_and1 {a : Expr} {pos : Pos} {f : FT} (h : CT cf X W a f) : CW cf X W (.BoolOp .And [a] pos) f := let ⟨t, p, o⟩ := h.ex; ⟨t, pw_and1 p, o⟩
theorem cw_or1 {a : Expr} {pos : Pos} {f : FT} (h : CT cf X W a f) : CW cf X W (.BoolOp .Or [a] pos) f := let ⟨t, p, o⟩ := h.ex; ⟨t, pw_or1 p, o⟩
theorem cw_and {a b : Expr} {rest : List Expr} {pos : Pos} {f g : FT} (h : CT cf X W a f) (k : CW cf X W (.BoolOp .And (b :: rest) pos) g) : CW cf X W (.BoolOp .And (a :: b :: rest) pos) (fAnd f g) :=
  let ⟨_, p, o⟩ := h.ex; let ⟨_, p', o'⟩ := k.ex; ⟨_, pw_and p p', ok_and o o'⟩
theorem cw_or {a b : Expr} {rest : List Expr} {pos : Pos} {f g : FT} (h : CT cf X W a f) (k : CW cf X W (.BoolOp .Or (b :: rest) pos) g) : CW cf X W (.BoolOp .Or (a :: b :: rest) pos) (fOr f g) :=
  let ⟨_, p, o⟩ := h.ex; let ⟨_, p', o'⟩ := k.ex; ⟨_, pw_or p p', ok_or o o'⟩
theorem ct_not {a : Expr} {pos : Pos} {f : FT} (h : CT cf X W a f) : CT cf X W (.UnaryOp .Not a pos) (fNot f) := let ⟨_, p, o⟩ := h.ex; ⟨_, pt_not p, ok_not o⟩
/-- as values -/
def fAndV (f g : FE) : FE := fun ρ A => (f ρ A).bind fun x A => (asB x A).bind fun b A => if b = true then g ρ A else .ok (.bl false) A
def fOrV (f g : FE) : FE := fun ρ A => (f ρ A).bind fun x A => (asB x A).bind fun b A => if b = true then .ok (.bl true) A else g ρ A
def fNotV (f : FE) : FE := fun ρ A => (f ρ A).bind fun x A => (asB x A).bind fun b A => .ok (.bl (!b)) A
theorem asB_then {x : AV} {v : V} {m : List Addr} {H : Hp} {A : AH} {σ : L2.St} {Q : VK} {k : Bool → AH → Res AV} {R : Bool → Prop} (S : Sim cf m H A) (r : RelA cf.K m H x v) (P : Post cf W (rA cf) m H σ Q ((asB x A).bind k))
    (h : ∀ b, Post cf W (rA cf) m H σ Q (k b A) → R b) : ∃ c, v = .bl c ∧ R c := by
  cases x with
  | bl b =>
    cases r
    exact ⟨b, rfl, h b P⟩
  | _ => exact P.elim
theorem ok_andV {t u : TE} {f g : FE} (hf : EOk cf W t f) (hg : EOk cf W u g) : EOk cf W (tAndV t u) (fAndV f g) := fun ρ σ m H A Q S L P => by
  refine hf.then S L P fun x v m1 H1 A1 _ g1 L1 r1 P1 => ?_
  refine asB_then g1.sim r1 P1 fun b P2 => ?_
  cases b with
  | true => exact hg ρ σ m1 H1 A1 Q g1.sim L1 P2
  | false => exact P2 m1 H1 _ (Go.refl g1.sim) (.bl false)
theorem ok_orV {t u : TE} {f g : FE} (hf : EOk cf W t f) (hg : EOk cf W u g) : EOk cf W (tOrV t u) (fOrV f g) := fun ρ σ m H A Q S L P => by
  refine hf.then S L P fun x v m1 H1 A1 _ g1 L1 r1 P1 => ?_
  refine asB_then g1.sim r1 P1 fun b P2 => ?_
  cases b with
  | true => exact P2 m1 H1 _ (Go.refl g1.sim) (.bl true)
  | false => exact hg ρ σ m1 H1 A1 Q g1.sim L1 P2
theorem ok_notV {t : TE} {f : FE} (hf : EOk cf W t f) : EOk cf W (tNotV t) (fNotV f) := fun ρ σ m H A Q S L P => by
  refine hf.then S L P fun x v m1 H1 A1 _ g1 L1 r1 P1 => ?_
  refine asB_then g1.sim r1 P1 fun b P2 => ?_
  exact P2 m1 H1 _ (Go.refl g1.sim) (.bl (!b))
theorem c_one {a : Expr} {op : BoolOp} {pos : Pos} {f : FE} (h : CE cf X W a f) : CE cf X W (.BoolOp op [a] pos) f := let ⟨_, p, o⟩ := h.ex; ⟨_, pe_one p, o⟩
theorem c_and {a b : Expr} {rest : List Expr} {pos : Pos} {f g : FE} (h : CE cf X W a f) (k : CE cf X W (.BoolOp .And (b :: rest) pos) g) : CE cf X W (.BoolOp .And (a :: b :: rest) pos) (fAndV f g) :=
  let ⟨_, p, o⟩ := h.ex; let ⟨_, p', o'⟩ := k.ex; ⟨_, pe_and p p', ok_andV o o'⟩
theorem c_or {a b : Expr} {rest : List Expr} {pos : Pos} {f g : FE} (h : CE cf X W a f) (k : CE cf X W (.BoolOp .Or (b :: rest) pos) g) : CE cf X W (.BoolOp .Or (a :: b :: rest) pos) (fOrV f g) :=
  let ⟨_, p, o⟩ := h.ex; let ⟨_, p', o'⟩ := k.ex; ⟨_, pe_or p p', ok_orV o o'⟩
theorem c_not {a : Expr} {pos : Pos} {f : FE} (h : CE cf X W a f) : CE cf X W (.UnaryOp .Not a pos) (fNotV f) := let ⟨_, p, o⟩ := h.ex; ⟨_, pe_not p, ok_notV o⟩
/-- a if t else b -/
def fIf (t : FT) (f g : FE) : FE := fun ρ A => (t ρ A).bind fun b A => if b = true then f ρ A else g ρ A
theorem ok_if {t : TT} {u v : TE} {ft : FT} {f g : FE} (ht : TOk cf W t ft) (hf : EOk cf W u f) (hg : EOk cf W v g) : EOk cf W (tIf t u v) (fIf ft f g) := fun ρ σ m H A Q S L P => by
  refine ht.then S L P fun x v m1 H1 A1 _ g1 L1 r1 P1 => ?_
  cases (show x = v from r1)
  cases x with
  | true => exact hf ρ σ m1 H1 A1 Q g1.sim L1 P1
  | false => exact hg ρ σ m1 H1 A1 Q g1.sim L1 P1
theorem c_if {c a b : Expr} {pos : Pos} {t : FT} {f g : FE} (hc : CT cf X W c t) (ha : CE cf X W a f) (hb : CE cf X W b g) : CE cf X W (.IfExp c a b pos) (fIf t f g) :=
  let ⟨_, p, o⟩ := hc.ex; let ⟨_, p1, o1⟩ := ha.ex; let ⟨_, p2, o2⟩ := hb.ex; ⟨_, pe_ifExp p p1 p2, ok_if o o1 o2⟩
/-- a < b < c -/
def fChain (g g' : F2) (fa fb fc : FE) : FE := fun ρ A => (fa ρ A).bind fun x A => (fb ρ A).bind fun y A => (g x y A).bind fun z A => (asB z A).bind fun k A => if k = true then (fc ρ A).bind fun w A => g' y w A else .ok (.bl false) A
theorem r2_then {r : R2} {g : F2} (hr : R2Ok cf r g) {x y : AV} {v w : V} {m : List Addr} {H : Hp} {A : AH} {σ : L2.St} {Q : VK} {k : AV → AH → Res AV} {R : VK} (S : Sim cf m H A) (rx : RelA cf.K m H x v) (ry : RelA cf.K m H y w)
    (P : Post cf W (rA cf) m H σ Q ((g x y A).bind k)) (h : ∀ z u m1 H1 A1, Go cf m H m1 H1 A1 → RelA cf.K m1 H1 z u → Post cf W (rA cf) m1 H1 σ Q (k z A1) → R u H1) : r v w H R := by
  refine hr W m H A σ R x y v w S rx ry ?_
  cases e : g x y A with
  | ok z A1 =>
    rw [e] at P
    exact fun m1 H1 u g1 r1 => h z u m1 H1 A1 g1 r1 (Post.mono g1 P)
  | exc z A1 =>
    rw [e] at P
    exact P
  | er =>
    rw [e] at P
    exact P.elim
theorem ok_chain {r r' : R2} {g g' : F2} {ta tb tc : TE} {fa fb fc : FE} (hr : R2Ok cf r g) (hr' : R2Ok cf r' g') (ha : EOk cf W ta fa) (hb : EOk cf W tb fb) (hc : EOk cf W tc fc) : EOk cf W (tChain r r' ta tb tc) (fChain g g' fa fb fc) := fun ρ σ m H A Q S L P => by
  refine ha.then S L P fun x v m1 H1 A1 _ g1 L1 r1 P1 => ?_
  refine hb.then g1.sim L1 P1 fun y w m2 H2 A2 _ g2 L2 r2 P2 => ?_
  refine r2_then hr g2.sim (RelA.mono g2.pre g2.fz r1) r2 P2 fun z u m3 H3 A3 g3 r3 P3 => ?_
  refine asB_then g3.sim r3 P3 fun b P4 => ?_
  cases b with
  | false => exact P4 m3 H3 _ (Go.refl g3.sim) (.bl false)
  | true =>
    refine hc.then g3.sim (L2.mono g3.pre g3.fz) P4 fun z2 u2 m4 H4 A4 _ g4 L4 r4 P5 => ?_
    exact hr' W m4 H4 A4 σ Q y z2 w u2 g4.sim (RelA.mono (g3.trans g4).pre (g3.trans g4).fz r2) r4 P5
theorem c_chain {a b c : Expr} {op op' : CmpOp} {pos : Pos} {r r' : R2} {g g' : F2} {fa fb fc : FE} (ho : OpR X (compareOp op) r) (hr : R2Ok cf r g) (ho' : OpR X (compareOp op') r') (hr' : R2Ok cf r' g') (ha : CE cf X W a fa) (hb : CE cf X W b fb) (hc : CE cf X W c fc)
    (hm : lastMarks [op, op'] [b, c] = false := by rfl) : CE cf X W (.Compare a [op, op'] [b, c] pos) (fChain g g' fa fb fc) := by
  obtain ⟨ta, pa, oa⟩ := ha.ex
  obtain ⟨tb, pb, ob⟩ := hb.ex
  obtain ⟨tc, pc, oc⟩ := hc.ex
  exact ⟨_, pe_chain ho ho' pa pb pc hm, ok_chain hr hr' oa ob oc⟩

/-! ### several -/
def fNil : FA := fun _ A => .ok [] A
def fCons (f : FE) (g : FA) : FA := fun ρ A => (f ρ A).bind fun x A => (g ρ A).bind fun xs A => .ok (x :: xs) A
theorem ok_nil : AOk cf W tNil fNil := fun ρ σ m H A Q S L P => P m H [] (Go.refl S) .nil
theorem ok_cons {t : TE} {u : TA} {f : FE} {g : FA} (hf : EOk cf W t f) (hg : AOk cf W u g) : AOk cf W (tCons t u) (fCons f g) := fun ρ σ m H A Q S L P => by
  refine hf.then S L P fun x v m1 H1 A1 _ g1 L1 r1 P1 => ?_
  refine hg.then g1.sim L1 P1 fun xs vs m2 H2 A2 _ g2 L2 r2 P2 => ?_
  exact P2 m2 H2 (v :: vs) (Go.refl g2.sim) (.cons (RelA.mono g2.pre g2.fz r1) r2)
theorem ca_nil : CA cf X W [] fNil := ⟨_, pa_nil, ok_nil⟩
theorem ca_cons {e : Expr} {es : List Expr} {f : FE} {g : FA} (he : CE cf X W e f) (hr : CA cf X W es g) (hs : starEach (e :: es) X.env = (false, eval e X.env) :: starEach es X.env := by rfl) : CA cf X W (e :: es) (fCons f g) :=
  let ⟨_, p, o⟩ := he.ex; let ⟨_, p', o'⟩ := hr.ex; ⟨_, pa_cons p p' hs, ok_cons o o'⟩
def big : Nat := 1000000
theorem big_lt {n : Nat} (h : n < big) : n < sizeLine := Nat.lt_trans h (by decide)
theorem big_le {n : Nat} (h : n < big) : n ≤ sizeLine := Nat.le_of_lt (big_lt h)
def fTup (f : FA) : FE := fun ρ A => (f ρ A).bind fun xs A => if xs.length < big then .ok (.tup xs) A else .er
def fLst (f : FA) : FE := fun ρ A => (f ρ A).bind fun xs A => if xs.length < big then .ok (.obj A.length) (A ++ [.lst xs]) else .er
theorem post_if {α β : Type} {Rl : List Addr → Hp → α → β → Prop} {m : List Addr} {H : Hp} {σ : L2.St} {Q : β → Hp → Prop} {c : Prop} [Decidable c] {r : Res α} (P : Post cf W Rl m H σ Q (if c then r else .er)) : c ∧ Post cf W Rl m H σ Q r := by
  by_cases h : c
  · rw [if_pos h] at P
    exact ⟨h, P⟩
  · rw [if_neg h] at P
    exact P.elim
theorem go_side {m : List Addr} {H : Hp} {A : AH} {p : Addr} {o : HO} (S : Sim cf m H A) (hp : H p = none) : Go cf m H m (upd H p o) A := ⟨Pre.refl m, fz_new hp, S.side hp⟩
theorem go_new {m : List Addr} {H : Hp} {A : AH} {p : Addr} {o : AO} {ho : HO} (S : Sim cf m H A) (hp : H p = none) (hn : ObjS cf (m ++ [p]) (upd H p ho) p o) : Go cf m H (m ++ [p]) (upd H p ho) (A ++ [o]) := ⟨Pre.app m _, fz_new hp, S.new hp hn⟩
theorem go_put {m : List Addr} {H : Hp} {A : AH} {n : Nat} {a : Addr} {o : AO} {ho : HO} (S : Sim cf m H A) (hm : m[n]? = some a) {u : HO} (hu : H a = some u) (mu : Mn u) (hn : ObjS cf m (upd H a ho) a o) : Go cf m H m (upd H a ho) (A.set n o) :=
  ⟨Pre.refl m, fz_main hu mu, S.put hm hu mu hn⟩
theorem rel_new {m : List Addr} {H : Hp} {A : AH} {p : Addr} {H' : Hp} (S : Sim cf m H A) : RelA cf.K (m ++ [p]) H' (.obj A.length) (.ref p) := .obj (by rw [← S.len, List.getElem?_append_right (Nat.le_refl _)]; simp)
/-- a new list is handed on -/
theorem new_list {m : List Addr} {H : Hp} {A : AH} {σ : L2.St} {Q : VK} {xs : List AV} {vs : List V} {p : Addr} (S : Sim cf m H A) (r : RelAs cf.K m H xs vs) (P : Post cf W (rA cf) m H σ Q (.ok (.obj A.length) (A ++ [.lst xs]))) (hp : H p = none) : Q (.ref p) (upd H p (.lst vs)) :=
  P _ _ _ (go_new S hp ⟨vs, upd_same, r.mono (Pre.app m _) (fz_new hp)⟩) (rel_new S)
theorem new_tup {m : List Addr} {H : Hp} {A : AH} {σ : L2.St} {Q : VK} {xs : List AV} {vs : List V} {p : Addr} (S : Sim cf m H A) (r : RelAs cf.K m H xs vs) (P : Post cf W (rA cf) m H σ Q (.ok (.tup xs) A)) (hp : H p = none) : Q (.ref p) (upd H p (.tup vs)) :=
  P _ _ _ (go_side S hp) (.tup upd_same (r.mono (Pre.refl m) (fz_new hp)))
theorem ok_tup {t : TA} {f : FA} (hf : AOk cf W t f) : EOk cf W (tTup t) (fTup f) := fun ρ σ m H A Q S L P => by
  refine hf.then S L P fun xs vs m1 H1 A1 _ g1 L1 r1 P1 => ?_
  obtain ⟨hl, P2⟩ := post_if P1
  exact ⟨by rw [← RelAs.length r1]; exact big_le hl, fun p hp => new_tup g1.sim r1 P2 hp⟩
theorem ok_lst {t : TA} {f : FA} (hf : AOk cf W t f) : EOk cf W (tLst t) (fLst f) := fun ρ σ m H A Q S L P => by
  refine hf.then S L P fun xs vs m1 H1 A1 _ g1 L1 r1 P1 => ?_
  obtain ⟨hl, P2⟩ := post_if P1
  exact ⟨by rw [← RelAs.length r1]; exact big_le hl, fun p hp => new_list g1.sim r1 P2 hp⟩
theorem c_tup {es : List Expr} {x1 : Nat} {pos : Pos} {f : FA} (h : CA cf X W es f) : CE cf X W (.Tuple es x1 pos) (fTup f) := let ⟨_, p, o⟩ := h.ex; ⟨_, pe_tup p, ok_tup o⟩
theorem c_lst {es : List Expr} {pos : Pos} {f : FA} (h : CA cf X W es f) : CE cf X W (.List es pos) (fLst f) := let ⟨_, p, o⟩ := h.ex; ⟨_, pe_lst p, ok_lst o⟩
end
end Dn

set_option maxRecDepth 100000
set_option maxHeartbeats 1000000
/-! Dn, part C: operators, built-in calls, subscripts, methods of lists, dicts. -/
namespace Dn
open PySem L2

/-! ### rules joined -/
theorem R2Ok.or1 {cf : Cfg} {r r' : R2} {g : F2} (h : R2Ok cf r g) : R2Ok cf (fun x y H Q => r x y H Q ∨ r' x y H Q) g := fun W m H A σ Q x y v w S rx ry P => .inl (h W m H A σ Q x y v w S rx ry P)
def bothF (c : AV → AV → AH → Bool) (g g' : F2) : F2 := fun x y A => if c x y A = true then g x y A else g' x y A
theorem R2Ok.or {cf : Cfg} {r r' : R2} {g g' : F2} (c : AV → AV → AH → Bool) (h : R2Ok cf r g) (h' : R2Ok cf r' g') : R2Ok cf (fun x y H Q => r x y H Q ∨ r' x y H Q) (bothF c g g') := fun W m H A σ Q x y v w S rx ry P => by
  unfold bothF at P
  split at P
  · exact .inl (h W m H A σ Q x y v w S rx ry P)
  · exact .inr (h' W m H A σ Q x y v w S rx ry P)

section
variable {cf : Cfg} {X : Cx} {W : WX}
/-! ### ints -/
def gI (C : Int → Int → Bool) (g : Int → Int → AV) : F2 := fun x y A => match x, y with
  | .int i, .int j => if C i j = true then .ok (g i j) A else .er
  | _, _ => .er
def gI0 (g : Int → Int → AV) : F2 := fun x y A => match x, y with
  | .int i, .int j => .ok (g i j) A
  | _, _ => .er
theorem ok_I {C : Int → Int → Prop} {Cb : Int → Int → Bool} {g : Int → Int → AV} {g' : Int → Int → V} (hC : ∀ i j, Cb i j = true → C i j) (hg : ∀ K m H i j, RelA K m H (g i j) (g' i j)) : R2Ok cf (rI C g') (gI Cb g) := fun W m H A σ Q x y v w S rx ry P => by
  unfold gI at P
  split at P
  · rename_i i j
    obtain ⟨hc, P⟩ := post_if P
    exact ⟨i, j, rx.to_int, ry.to_int, hC i j hc, P m H _ (Go.refl S) (hg _ _ _ i j)⟩
  · exact P.elim
theorem ok_I0 {g : Int → Int → AV} {g' : Int → Int → V} (hg : ∀ K m H i j, RelA K m H (g i j) (g' i j)) : R2Ok cf (rI0 g') (gI0 g) := fun W m H A σ Q x y v w S rx ry P => by
  unfold gI0 at P
  split at P
  · rename_i i j
    exact ⟨i, j, rx.to_int, ry.to_int, P m H _ (Go.refl S) (hg _ _ _ i j)⟩
  · exact P.elim
def cMul (i j : Int) : Bool := decide (i.natAbs < 18446744073709551616) || decide (j.natAbs < 18446744073709551616)
theorem cMul_ok (i j : Int) (h : cMul i j = true) : CMul i j := by
  unfold cMul at h
  rw [Bool.or_eq_true, decide_eq_true_eq, decide_eq_true_eq] at h
  rcases h with h | h
  · exact .inl (by omega)
  · exact .inr (by omega)
def cPos (_ j : Int) : Bool := decide (0 < j)
def cDiv (_ j : Int) : Bool := decide (0 < j) && decide (j < 1073741824)
def cPow (i j : Int) : Bool := decide (0 ≤ j) && decide (j ≤ 1000000) && decide (i.natAbs < 18446744073709551616)
def gSub : F2 := gI0 fun i j => .int (i - j)
def gMod : F2 := gI cPos fun i j => .int (i % j)
def gDiv : F2 := gI cDiv fun i j => .int (i / j)
def gPow : F2 := gI cPow fun i j => .int (i ^ j.toNat)
def gLt : F2 := gI0 fun i j => .bl (decide (i < j))
def gLe : F2 := gI0 fun i j => .bl (decide (i ≤ j))
def gGt : F2 := gI0 fun i j => .bl (decide (j < i))
def gGe : F2 := gI0 fun i j => .bl (decide (j ≤ i))
theorem ok_sub : R2Ok cf (rI0 fun i j => .int (i - j)) gSub := ok_I0 fun _ _ _ _ _ => .int _
theorem ok_mod : R2Ok cf (rI (fun _ j => 0 < j) fun i j => .int (i % j)) gMod := ok_I (fun i j h => by simpa [cPos] using h) fun _ _ _ _ _ => .int _
theorem ok_div : R2Ok cf (rI CDiv fun i j => .int (i / j)) gDiv := ok_I (fun i j h => by simpa [cDiv, CDiv] using h) fun _ _ _ _ _ => .int _
theorem ok_pow : R2Ok cf (rI CPow fun i j => .int (i ^ j.toNat)) gPow := ok_I (fun i j h => by
  simp only [cPow, Bool.and_eq_true, decide_eq_true_eq] at h
  exact ⟨h.1.1, h.1.2, h.2⟩) fun _ _ _ _ _ => .int _
theorem ok_lt : R2Ok cf (rI0 fun i j => .bl (decide (i < j))) gLt := ok_I0 fun _ _ _ _ _ => .bl _
theorem ok_le : R2Ok cf (rI0 fun i j => .bl (decide (i ≤ j))) gLe := ok_I0 fun _ _ _ _ _ => .bl _
theorem ok_gt : R2Ok cf (rI0 fun i j => .bl (decide (j < i))) gGt := ok_I0 fun _ _ _ _ _ => .bl _
theorem ok_ge : R2Ok cf (rI0 fun i j => .bl (decide (j ≤ i))) gGe := ok_I0 fun _ _ _ _ _ => .bl _
/-! ### + and * of lists, tuples, texts -/
/-- the items of a list -/
def lstAt (A : AH) : AV → Option (List AV)
  | .obj n => match A[n]? with
    | some (.lst xs) => some xs
    | _ => none
  | _ => none
/-- a list's, a tuple's, the script's items -/
def seqAt (A : AH) : AV → Option (List AV)
  | .obj n => match A[n]? with
    | some (.lst xs) => some xs
    | _ => none
  | .scr ns => some (ns.map AV.int)
  | .tup xs => some xs
  | _ => none
theorem lstAt_ok {m : List Addr} {H : Hp} {A : AH} {x : AV} {v : V} {xs : List AV} (S : Sim cf m H A) (r : RelA cf.K m H x v) (h : lstAt A x = some xs) : ∃ n a vs, x = .obj n ∧ v = .ref a ∧ m[n]? = some a ∧ H a = some (.lst vs) ∧ RelAs cf.K m H xs vs := by
  unfold lstAt at h
  split at h
  · rename_i n
    split at h
    · rename_i ys e
      cases h
      obtain ⟨a, e1, e2, vs, e3, r'⟩ := S.obj r e
      exact ⟨n, a, vs, rfl, e1, e2, e3, r'⟩
    · cases h
  · cases h
theorem seqAt_ok {m : List Addr} {H : Hp} {A : AH} {x : AV} {v : V} {xs : List AV} (S : Sim cf m H A) (r : RelA cf.K m H x v) (h : seqAt A x = some xs) : ∃ a vs, v = .ref a ∧ (SqL cf.K H a vs ∨ SqT cf.K H a vs) ∧ RelAs cf.K m H xs vs := by
  cases x with
  | obj n =>
    obtain ⟨_, a, vs, _, e1, _, e3, r'⟩ := lstAt_ok S r (show lstAt A (.obj n) = some xs from h)
    exact ⟨a, vs, e1, .inl (SqL.of e3), r'⟩
  | scr ns =>
    cases h
    cases r with
    | scr h => exact ⟨_, _, rfl, .inl h.sq, RelAs.ints ns⟩
  | tup ys =>
    cases h
    obtain ⟨a, vs, e1, e2, r'⟩ := r.to_tup
    exact ⟨a, vs, e1, .inr (SqT.of e2), r'⟩
  | _ => cases h
def gCat : F2 := fun x y A => match lstAt A x, lstAt A y with
  | some xs, some ys => if xs.length + ys.length < big then .ok (.obj A.length) (A ++ [.lst (xs ++ ys)]) else .er
  | _, _ => .er
theorem ok_cat : R2Ok cf rCat gCat := fun W m H A σ Q x y v w S rx ry P => by
  unfold gCat at P
  split at P
  · rename_i xs ys e1 e2
    obtain ⟨hl, P⟩ := post_if P
    obtain ⟨_, a, vs, _, rfl, _, h1, r1⟩ := lstAt_ok S rx e1
    obtain ⟨_, b, ws, _, rfl, _, h2, r2⟩ := lstAt_ok S ry e2
    exact ⟨a, b, vs, ws, rfl, rfl, h1, h2, by rw [← r1.length, ← r2.length]; exact big_le hl, fun p hp => new_list S (r1.app r2) P hp⟩
  · exact P.elim
def gCatT : F2 := fun x y A => match x, y with
  | .tup xs, .tup ys => if xs ≠ [] ∧ xs.length + ys.length < big then .ok (.tup (xs ++ ys)) A else .er
  | _, _ => .er
theorem ok_catT : R2Ok cf (rCatT cf.K) gCatT := fun W m H A σ Q x y v w S rx ry P => by
  unfold gCatT at P
  split at P
  · rename_i xs ys
    obtain ⟨⟨hn, hl⟩, P⟩ := post_if P
    obtain ⟨a, vs, rfl, h1, r1⟩ := rx.to_tup
    obtain ⟨b, ws, rfl, h2, r2⟩ := ry.to_tup
    refine ⟨a, b, vs, ws, rfl, rfl, SqT.of h1, SqT.of h2, fun z => ?_, by rw [← r1.length, ← r2.length]; exact big_le hl, fun z => ?_, fun z p hp => new_tup S (r1.app r2) P hp⟩
    · subst z
      have := r1.length
      cases xs with
      | nil => exact hn rfl
      | cons _ _ => simp at this
    · subst z
      have e : ys = [] := by
        have := r2.length
        cases ys with
        | nil => rfl
        | cons _ _ => simp at this
      subst e
      rw [List.append_nil] at P
      exact P m H _ (Go.refl S) rx
  · exact P.elim
def gCatS : F2 := fun x y A => match x, y with
  | .str a, .str b => if a.length + b.length < big then .ok (.str (a ++ b)) A else .er
  | _, _ => .er
theorem ok_catS : R2Ok cf (fun x y H Q => ∃ i j, x = .str i ∧ y = .str j ∧ i.length + j.length ≤ sizeLine ∧ Q (.str (i ++ j)) H) gCatS := fun W m H A σ Q x y v w S rx ry P => by
  unfold gCatS at P
  split at P
  · rename_i a b
    obtain ⟨hl, P⟩ := post_if P
    exact ⟨a, b, rx.to_str, ry.to_str, big_le hl, P m H _ (Go.refl S) (.str _)⟩
  · exact P.elim
/-- x + y, of any kinds -/
def gAdd : F2 := fun x y A => match x with
  | .int _ => gI0 (fun i j => .int (i + j)) x y A
  | .str _ => gCatS x y A
  | .tup _ => gCatT x y A
  | _ => gCat x y A
abbrev rAddAll (K : PySem.W.Frag) : R2 := fun x y H Q => (rI0 (fun i j => .int (i + j)) x y H Q) ∨ ((∃ i j, x = .str i ∧ y = .str j ∧ i.length + j.length ≤ sizeLine ∧ Q (.str (i ++ j)) H) ∨ (rCatT K x y H Q ∨ rCat x y H Q))
theorem op_addAll : OpR X (binaryOp .Add) (rAddAll X.K) := op_add.or (op_add_str.or (op_catT.or op_cat))
theorem ok_addAll : R2Ok cf (rAddAll cf.K) gAdd := fun W m H A σ Q x y v w S rx ry P => by
  unfold gAdd at P
  split at P
  · exact .inl (ok_I0 (fun _ _ _ _ _ => .int _) W m H A σ Q _ y v w S rx ry P)
  · exact .inr (.inl (ok_catS W m H A σ Q _ y v w S rx ry P))
  · exact .inr (.inr (.inl (ok_catT W m H A σ Q _ y v w S rx ry P)))
  · exact .inr (.inr (.inr (ok_cat W m H A σ Q _ y v w S rx ry P)))
def gRep : F2 := fun x y A => match lstAt A x, y with
  | some xs, .int k => if -1000000 < k ∧ k < 1000000 ∧ xs.length * k.toNat < big then .ok (.obj A.length) (A ++ [.lst (List.replicate k.toNat xs).flatten]) else .er
  | _, _ => .er
theorem RelAs.rep {K : PySem.W.Frag} {m : List Addr} {H : Hp} {xs : List AV} {vs : List V} (r : RelAs K m H xs vs) : ∀ n : Nat, RelAs K m H (List.replicate n xs).flatten (List.replicate n vs).flatten
  | 0 => .nil
  | n + 1 => by
    rw [List.replicate_succ, List.replicate_succ, List.flatten_cons, List.flatten_cons]
    exact r.app (RelAs.rep r n)
theorem ok_rep : R2Ok cf rRep gRep := fun W m H A σ Q x y v w S rx ry P => by
  unfold gRep at P
  split at P
  · rename_i xs k e1
    obtain ⟨⟨k1, k2, hl⟩, P⟩ := post_if P
    obtain ⟨_, a, vs, _, rfl, _, h1, r1⟩ := lstAt_ok S rx e1
    exact ⟨a, k, vs, rfl, ry.to_int, h1, by omega, by omega, by rw [← r1.length]; exact big_le hl, fun p hp => new_list S (r1.rep _) P hp⟩
  · exact P.elim
def gMul : F2 := fun x y A => match x with
  | .int _ => gI cMul (fun i j => .int (i * j)) x y A
  | _ => gRep x y A
theorem op_mulAll : OpR X (binaryOp .Mult) (fun x y H Q => rI CMul (fun i j => .int (i * j)) x y H Q ∨ rRep x y H Q) := op_mul.or op_rep
theorem ok_mulAll : R2Ok cf (fun x y H Q => rI CMul (fun i j => .int (i * j)) x y H Q ∨ rRep x y H Q) gMul := fun W m H A σ Q x y v w S rx ry P => by
  unfold gMul at P
  split at P
  · exact .inl (ok_I cMul_ok (fun _ _ _ _ _ => .int _) W m H A σ Q _ y v w S rx ry P)
  · exact .inr (ok_rep W m H A σ Q _ y v w S rx ry P)

/-! ### == of data -/
def mapO {α β : Type} (f : α → Option β) : List α → Option (List β)
  | [] => some []
  | x :: xs => match f x, mapO f xs with
    | some d, some ds => some (d :: ds)
    | _, _ => none
theorem mapO_cons {α β : Type} {f : α → Option β} {x : α} {xs : List α} {ds : List β} (h : mapO f (x :: xs) = some ds) : ∃ d es, f x = some d ∧ mapO f xs = some es ∧ ds = d :: es := by
  unfold mapO at h
  split at h
  · rename_i d es h1 h2
    cases h
    exact ⟨d, es, h1, h2, rfl⟩
  · cases h
def AV.toP (A : AH) : Nat → AV → Option PyData
  | 0, _ => none
  | n + 1, x => match x with
    | .non => some .none
    | .bl b => some (.bool b)
    | .int i => some (.int i)
    | .str s => if PyData.strOk s = true then some (.str s) else none
    | .scr ns => some (.list (ns.map PyData.int))
    | .tup xs => (mapO (AV.toP A n) xs).map .tuple
    | .obj k => match A[k]? with
      | some (.lst xs) => (mapO (AV.toP A n) xs).map .list
      | _ => none
    | .ty _ => none
theorem DpAll.ints {K : PySem.W.Frag} {H : Hp} : ∀ ns : List Int, DpAll K H (ns.map V.int) (ns.map PyData.int)
  | [] => .nil
  | n :: ns => .cons (.int n) (DpAll.ints ns)
theorem mapO_ok {m : List Addr} {H : Hp} {f : AV → Option PyData} (hf : ∀ (x : AV) (d : PyData) (v : V), f x = some d → RelA cf.K m H x v → Dp cf.K H v d) :
    ∀ (xs : List AV) (ds : List PyData) (vs : List V), mapO f xs = some ds → RelAs cf.K m H xs vs → DpAll cf.K H vs ds
  | [], ds, vs, h, r => by
    cases h
    cases r
    exact .nil
  | x :: xs, ds, vs, h, r => by
    obtain ⟨d, es, h1, h2, rfl⟩ := mapO_cons h
    cases r with
    | cons r1 r2 => exact .cons (hf x d _ h1 r1) (mapO_ok hf xs es _ h2 r2)
theorem toP_ok {m : List Addr} {H : Hp} {A : AH} (S : Sim cf m H A) : ∀ (n : Nat) (x : AV) (d : PyData) (v : V), AV.toP A n x = some d → RelA cf.K m H x v → Dp cf.K H v d
  | 0, x, d, v, h, r => by simp [AV.toP] at h
  | n + 1, .non, d, v, h, r => by
    simp [AV.toP] at h
    subst h
    rw [r.to_non]
    exact .non
  | n + 1, .bl b, d, v, h, r => by
    simp [AV.toP] at h
    subst h
    rw [r.to_bl]
    exact .bl b
  | n + 1, .int i, d, v, h, r => by
    simp [AV.toP] at h
    subst h
    rw [r.to_int]
    exact .int i
  | n + 1, .str s, d, v, h, r => by
    simp [AV.toP] at h
    obtain ⟨_, h⟩ := h
    subst h
    rw [r.to_str]
    exact .str s
  | n + 1, .scr ns, d, v, h, r => by
    simp [AV.toP] at h
    subst h
    cases r with
    | scr h => exact .lst h.sq (DpAll.ints ns)
  | n + 1, .tup xs, d, v, h, r => by
    simp only [AV.toP, Option.map_eq_some_iff] at h
    obtain ⟨ds, h, rfl⟩ := h
    obtain ⟨a, vs, rfl, e, r'⟩ := r.to_tup
    exact .tup (SqT.of e) (mapO_ok (toP_ok S n) xs ds vs h r')
  | n + 1, .obj k, d, v, h, r => by
    simp only [AV.toP] at h
    split at h
    · rename_i xs e
      simp only [Option.map_eq_some_iff] at h
      obtain ⟨ds, h, rfl⟩ := h
      obtain ⟨a, rfl, _, vs, e3, r'⟩ := S.obj r e
      exact .lst (SqL.of e3) (mapO_ok (toP_ok S n) xs ds vs h r')
    · cases h
  | n + 1, .ty _, d, v, h, r => by simp [AV.toP] at h
theorem canInts : ∀ ns : List Int, PyData.canLayAll0 (ns.map PyData.int) = true ∧ PyData.depthAll (ns.map PyData.int) = 0
  | [] => ⟨rfl, rfl⟩
  | n :: ns => by
    obtain ⟨a, b⟩ := canInts ns
    rw [List.map_cons, PyData.canLayAll0, PyData.depthAll, a, b]
    exact ⟨rfl, rfl⟩
theorem mapO_shape {f : AV → Option PyData} {n : Nat} (hf : ∀ (x : AV) (d : PyData), f x = some d → d.canLay0 = true ∧ d.depth ≤ n) : ∀ (xs : List AV) (ds : List PyData), mapO f xs = some ds → PyData.canLayAll0 ds = true ∧ PyData.depthAll ds ≤ n
  | [], ds, h => by
    cases h
    exact ⟨rfl, Nat.zero_le _⟩
  | x :: xs, ds, h => by
    obtain ⟨d, es, h1, h2, rfl⟩ := mapO_cons h
    obtain ⟨a1, a2⟩ := hf x d h1
    obtain ⟨b1, b2⟩ := mapO_shape hf xs es h2
    rw [PyData.canLayAll0, PyData.depthAll, a1, b1]
    exact ⟨rfl, by omega⟩
theorem toP_shape {A : AH} : ∀ (n : Nat) (x : AV) (d : PyData), AV.toP A n x = some d → d.canLay0 = true ∧ d.depth ≤ n
  | 0, x, d, h => by simp [AV.toP] at h
  | n + 1, .non, d, h => by
    simp [AV.toP] at h
    subst h
    exact ⟨rfl, Nat.zero_le _⟩
  | n + 1, .bl b, d, h => by
    simp [AV.toP] at h
    subst h
    exact ⟨rfl, Nat.zero_le _⟩
  | n + 1, .int i, d, h => by
    simp [AV.toP] at h
    subst h
    exact ⟨rfl, Nat.zero_le _⟩
  | n + 1, .str s, d, h => by
    simp [AV.toP] at h
    obtain ⟨h1, h⟩ := h
    subst h
    exact ⟨h1, Nat.zero_le _⟩
  | n + 1, .scr ns, d, h => by
    simp [AV.toP] at h
    subst h
    rw [PyData.canLay0, PyData.depth, (canInts ns).1, (canInts ns).2]
    exact ⟨rfl, by omega⟩
  | n + 1, .tup xs, d, h => by
    simp only [AV.toP, Option.map_eq_some_iff] at h
    obtain ⟨ds, h, rfl⟩ := h
    obtain ⟨h1, h2⟩ := mapO_shape (toP_shape n) xs ds h
    rw [PyData.canLay0, PyData.depth]
    exact ⟨h1, by omega⟩
  | n + 1, .obj k, d, h => by
    simp only [AV.toP] at h
    split at h
    · rename_i xs e
      simp only [Option.map_eq_some_iff] at h
      obtain ⟨ds, h, rfl⟩ := h
      obtain ⟨h1, h2⟩ := mapO_shape (toP_shape n) xs ds h
      rw [PyData.canLay0, PyData.depth]
      exact ⟨h1, by omega⟩
    · cases h
  | n + 1, .ty _, d, h => by simp [AV.toP] at h
theorem toP_shaped {A : AH} {n : Nat} {x : AV} {d : PyData} (h : AV.toP A n x = some d) (hn : n ≤ 64) : SeqAt.shaped d = true := by
  obtain ⟨h1, h2⟩ := toP_shape n x d h
  unfold SeqAt.shaped
  rw [h1, decide_eq_true (Nat.le_trans h2 hn)]
  rfl
def gEq : F2 := fun x y A => match AV.toP A 16 x, AV.toP A 16 y with
  | some d, some e => .ok (.bl (PyData.eqv d e)) A
  | _, _ => .er
def gNe : F2 := fun x y A => match AV.toP A 16 x, AV.toP A 16 y with
  | some d, some e => .ok (.bl (!PyData.eqv d e)) A
  | _, _ => .er
theorem ok_eq : R2Ok cf (rEqD cf.K) gEq := fun W m H A σ Q x y v w S rx ry P => by
  unfold gEq at P
  split at P
  · rename_i d e h1 h2
    exact ⟨d, e, toP_ok S 16 x d v h1 rx, toP_ok S 16 y e w h2 ry, toP_shaped h1 (by decide), toP_shaped h2 (by decide), P m H _ (Go.refl S) (.bl _)⟩
  · exact P.elim
theorem ok_ne : R2Ok cf (rNeD cf.K) gNe := fun W m H A σ Q x y v w S rx ry P => by
  unfold gNe at P
  split at P
  · rename_i d e h1 h2
    exact ⟨d, e, toP_ok S 16 x d v h1 rx, toP_ok S 16 y e w h2 ry, toP_shaped h1 (by decide), toP_shaped h2 (by decide), P m H _ (Go.refl S) (.bl _)⟩
  · exact P.elim
/-! ### is None -/
def AV.isN : AV → Bool
  | .non => true
  | _ => false
def gIsN : F2 := fun x y A => match y with
  | .non => .ok (.bl x.isN) A
  | _ => .er
def gNotN : F2 := fun x y A => match y with
  | .non => .ok (.bl (!x.isN)) A
  | _ => .er
theorem isN_dec {K : PySem.W.Frag} {m : List Addr} {H : Hp} {x : AV} {v : V} (r : RelA K m H x v) : decide (v = V.non) = x.isN := by
  cases r <;> simp [AV.isN]
theorem ok_isN : R2Ok cf (fun x y H Q => y = .non ∧ Q (.bl (decide (x = .non))) H) gIsN := fun W m H A σ Q x y v w S rx ry P => by
  unfold gIsN at P
  split at P
  · refine ⟨ry.to_non, ?_⟩
    rw [isN_dec rx]
    exact P m H _ (Go.refl S) (.bl _)
  · exact P.elim
theorem ok_notN : R2Ok cf (fun x y H Q => y = .non ∧ Q (.bl (!decide (x = .non))) H) gNotN := fun W m H A σ Q x y v w S rx ry P => by
  unfold gNotN at P
  split at P
  · refine ⟨ry.to_non, ?_⟩
    rw [isN_dec rx]
    exact P m H _ (Go.refl S) (.bl _)
  · exact P.elim
/-! ### in a list or tuple of flat items -/
def AV.flat : AV → Bool
  | .non => true
  | .bl _ => true
  | .int _ => true
  | .str _ => true
  | _ => false
def AV.eqF : AV → AV → Bool
  | .non, .non => true
  | .bl a, .bl b => a == b
  | .bl a, .int b => (if a then 1 else 0) == b
  | .int a, .bl b => a == (if b then 1 else 0)
  | .int a, .int b => a == b
  | .str a, .str b => a == b
  | _, _ => false
theorem flat_ok {K : PySem.W.Frag} {m : List Addr} {H : Hp} {x : AV} {v : V} (r : RelA K m H x v) (h : x.flat = true) : flatV v = true := by
  cases r <;> first | rfl | exact h
theorem flats_ok {K : PySem.W.Frag} {m : List Addr} {H : Hp} : ∀ {xs : List AV} {vs : List V}, RelAs K m H xs vs → xs.all AV.flat = true → vs.all flatV = true
  | _, _, .nil, _ => rfl
  | _, _, .cons r t, h => by
    rw [List.all_cons, Bool.and_eq_true] at h
    rw [List.all_cons, flat_ok r h.1, flats_ok t h.2]
    rfl
theorem eqF_ok {K : PySem.W.Frag} {m : List Addr} {H : Hp} {x y : AV} {v w : V} (r : RelA K m H x v) (q : RelA K m H y w) (hx : x.flat = true) (hy : y.flat = true) : eqV v w = x.eqF y := by
  cases r <;> first | (exact absurd hx (by decide)) | (cases q <;> first | rfl | (exact absurd hy (by decide)))
theorem inF_ok {K : PySem.W.Frag} {m : List Addr} {H : Hp} {x : AV} {v : V} (r : RelA K m H x v) (hx : x.flat = true) : ∀ {xs : List AV} {vs : List V}, RelAs K m H xs vs → xs.all AV.flat = true → inV v vs = xs.any fun y => y.eqF x
  | _, _, .nil, _ => rfl
  | _, _, .cons q t, h => by
    rw [List.all_cons, Bool.and_eq_true] at h
    unfold inV
    rw [List.any_cons, List.any_cons, eqF_ok q r h.1 hx]
    congr 1
    exact inF_ok r hx t h.2
def gInS (neg : Bool) : F2 := fun x y A => match seqAt A y with
  | some xs => if x.flat = true ∧ xs.all AV.flat = true then .ok (.bl (if neg = true then !(xs.any fun z => z.eqF x) else xs.any fun z => z.eqF x)) A else .er
  | _ => .er
theorem ok_inS (neg : Bool) : R2Ok cf (rIn cf.K neg) (gInS neg) := fun W m H A σ Q x y v w S rx ry P => by
  unfold gInS at P
  split at P
  · rename_i xs e
    obtain ⟨⟨h1, h2⟩, P⟩ := post_if P
    obtain ⟨a, vs, rfl, hs, r⟩ := seqAt_ok S ry e
    refine ⟨a, vs, rfl, hs, flat_ok rx h1, flats_ok r h2, ?_⟩
    rw [inF_ok rx h1 r h2]
    exact P m H _ (Go.refl S) (.bl _)
  · exact P.elim
/-! ### subscripts -/
def gIxS : F2 := fun x y A => match y with
  | .int i => match x with
    | .str z => if z.length < big then match atI z.cps.toList i with
      | some c => .ok (.str ⟨#[c]⟩) A
      | none => .er
      else .er
    | _ => match seqAt A x with
      | some xs => match atI xs i with
        | some v => .ok v A
        | none => .er
      | none => .er
  | _ => .er
theorem RelAs.atI {K : PySem.W.Frag} {m : List Addr} {H : Hp} {xs : List AV} {vs : List V} {i : Int} {x : AV} (r : RelAs K m H xs vs) (h : L2.atI xs i = some x) : ∃ v, L2.atI vs i = some v ∧ RelA K m H x v := by
  unfold L2.atI at h ⊢
  rw [r.length] at h
  cases e : ixN vs.length i with
  | none =>
    rw [e] at h
    cases h
  | some j =>
    rw [e] at h
    exact r.get h
theorem ok_ixS : R2Ok cf (rIx cf.K) gIxS := fun W m H A σ Q x y v w S rx ry P => by
  unfold gIxS at P
  split at P
  · rename_i i
    split at P
    · rename_i z
      obtain ⟨hl, P⟩ := post_if P
      split at P
      · rename_i c e
        exact .inr (.inr ⟨z, i, c, rx.to_str, ry.to_int, big_le hl, e, P m H _ (Go.refl S) (.str _)⟩)
      · exact P.elim
    · split at P
      · rename_i xs e
        split at P
        · rename_i u e2
          obtain ⟨a, vs, rfl, hs, r⟩ := seqAt_ok S rx e
          obtain ⟨u', h3, r3⟩ := r.atI e2
          rcases hs with hs | hs
          · exact .inl ⟨a, vs, i, u', rfl, ry.to_int, hs, h3, P m H _ (Go.refl S) r3⟩
          · exact .inr (.inl ⟨a, vs, i, u', rfl, ry.to_int, hs, h3, P m H _ (Go.refl S) r3⟩)
        · exact P.elim
      · exact P.elim
  · exact P.elim
end
end Dn

set_option maxRecDepth 100000
set_option maxHeartbeats 1000000
/-! Dn, part D: statements, targets, loops, comprehensions. -/
namespace Dn
open PySem L2

inductive SRes where
  | nx (ρ : Rho) (A : AH) | rt (v : AV) (A : AH) | bk (ρ : Rho) (A : AH) | ct (ρ : Rho) (A : AH) | exc (e : Ex) (ρ : Rho) (A : AH) | er
abbrev FS := Rho → AH → SRes
def SPost (cf : Cfg) (W : WX) (m : List Addr) (H : Hp) (D : Ends) : SRes → Prop
  | .nx ρ A => ∀ m' H' σ', Go cf m H m' H' A → Loc cf.K m' H' ρ σ' → D.nx σ' H'
  | .rt v A => ∀ m' H' u, Go cf m H m' H' A → RelA cf.K m' H' v u → D.rt u H'
  | .bk ρ A => ∀ m' H' σ', Go cf m H m' H' A → Loc cf.K m' H' ρ σ' → D.bk σ' H'
  | .ct ρ A => ∀ m' H' σ', Go cf m H m' H' A → Loc cf.K m' H' ρ σ' → D.ct σ' H'
  | .exc e ρ A => ∀ m' H' σ' cls d, Go cf m H m' H' A → Loc cf.K m' H' ρ σ' → ExcR cf m' H' e cls d → W cls d σ' H'
  | .er => False
theorem SPost.mono {cf : Cfg} {W : WX} {m m1 : List Addr} {H H1 : Hp} {A1 : AH} {D : Ends} {r : SRes} (g : Go cf m H m1 H1 A1) (h : SPost cf W m H D r) : SPost cf W m1 H1 D r := by
  cases r with
  | nx ρ A => exact fun m' H' σ' g' l => h m' H' σ' (g.trans g') l
  | rt ρ A => exact fun m' H' σ' g' l => h m' H' σ' (g.trans g') l
  | bk ρ A => exact fun m' H' σ' g' l => h m' H' σ' (g.trans g') l
  | ct ρ A => exact fun m' H' σ' g' l => h m' H' σ' (g.trans g') l
  | exc e ρ A => exact fun m' H' σ' cls d g' l x => h m' H' σ' cls d (g.trans g') l x
  | er => exact h
def SOk (cf : Cfg) (W : WX) (t : TS) (f : FS) : Prop := ∀ (ρ : Rho) (σ : L2.St) (m : List Addr) (H : Hp) (A : AH) (D : Ends), Sim cf m H A → Loc cf.K m H ρ σ → SPost cf W m H D (f ρ A) → t D σ H
structure CS (cf : Cfg) (X : Cx) (W : WX) (st : Stmt) (f : FS) : Prop where
  ex : ∃ t, PS X st t ∧ SOk cf W t f
structure CB (cf : Cfg) (X : Cx) (W : WX) (sts : List Stmt) (f : FS) : Prop where
  ex : ∃ t, PSs X sts t ∧ SOk cf W t f

/-! ### to know less of some places -/
def unkO : AO → AO
  | .lk kvs => .lk kvs
  | _ => .unk
def forg : List Bool → AH → AH
  | [], A => A
  | _ :: _, [] => []
  | true :: bs, o :: os => unkO o :: forg bs os
  | false :: bs, o :: os => o :: forg bs os
theorem forg_len : ∀ (bs : List Bool) (A : AH), (forg bs A).length = A.length
  | [], _ => rfl
  | _ :: _, [] => rfl
  | true :: bs, o :: os => by rw [forg, List.length_cons, List.length_cons, forg_len bs os]
  | false :: bs, o :: os => by rw [forg, List.length_cons, List.length_cons, forg_len bs os]
theorem forg_at : ∀ {bs : List Bool} {A : AH} {n : Nat} {o : AO}, (forg bs A)[n]? = some o → ∃ o', A[n]? = some o' ∧ (o = o' ∨ o = unkO o')
  | [], _, _, o, h => ⟨o, h, .inl rfl⟩
  | _ :: _, [], n, o, h => by simp [forg] at h
  | true :: bs, q :: os, 0, o, h => ⟨q, rfl, .inr (by simp [forg] at h; exact h.symm)⟩
  | false :: bs, q :: os, 0, o, h => ⟨q, rfl, .inl (by simp [forg] at h; exact h.symm)⟩
  | true :: bs, q :: os, n + 1, o, h => forg_at (bs := bs) (A := os) (by simpa [forg] using h)
  | false :: bs, q :: os, n + 1, o, h => forg_at (bs := bs) (A := os) (by simpa [forg] using h)
theorem ObjS.unk {cf : Cfg} {m : List Addr} {H : Hp} {a : Addr} {o : AO} (h : ObjS cf m H a o) : ObjS cf m H a (unkO o) := by
  cases o with
  | lst xs => obtain ⟨vs, e, _⟩ := h; exact ⟨_, e, trivial⟩
  | dK xs => obtain ⟨vs, e, _⟩ := h; exact ⟨_, e, trivial⟩
  | dT xs => obtain ⟨vs, e, _⟩ := h; exact ⟨_, e, trivial⟩
  | ins c fs => obtain ⟨dx, vs, e, _⟩ := h; exact ⟨_, e, trivial⟩
  | slt c fs =>
    obtain ⟨dx, vs, _, h, _⟩ := h
    rcases h with ⟨e, _⟩ | ⟨e, _⟩
    · exact ⟨_, e, trivial⟩
    · exact ⟨_, e, trivial⟩
  | lk kvs => exact h
  | unk => exact h
theorem Sim.forg {cf : Cfg} {m : List Addr} {H : Hp} {A : AH} (S : Sim cf m H A) (bs : List Bool) : Sim cf m H (Dn.forg bs A) := by
  refine ⟨by rw [forg_len]; exact S.len, S.nd, fun n a o hm hA => ?_⟩
  obtain ⟨o', h1, h2⟩ := forg_at hA
  rcases h2 with rfl | rfl
  · exact S.at_ n a o hm h1
  · exact (S.at_ n a o' hm h1).unk
def fForg (bs : List Bool) (f : FS) : FS := fun ρ A => f ρ (forg bs A)
theorem cs_forg {cf : Cfg} {X : Cx} {W : WX} {st : Stmt} {f : FS} (bs : List Bool) (h : CS cf X W st f) : CS cf X W st (fForg bs f) := let ⟨t, p, o⟩ := h.ex; ⟨t, p, fun ρ σ m H A D S L P => o ρ σ m H (Dn.forg bs A) D (S.forg bs) L P⟩
theorem cb_forg {cf : Cfg} {X : Cx} {W : WX} {sts : List Stmt} {f : FS} (bs : List Bool) (h : CB cf X W sts f) : CB cf X W sts (fForg bs f) := let ⟨t, p, o⟩ := h.ex; ⟨t, p, fun ρ σ m H A D S L P => o ρ σ m H (Dn.forg bs A) D (S.forg bs) L P⟩
/-- an expression's result within a statement -/
def Res.s {α : Type} (r : Res α) (ρ : Rho) (k : α → AH → SRes) : SRes :=
  match r with
  | .ok a A => k a A
  | .exc e A => .exc e ρ A
  | .er => .er
@[simp] theorem Res.s_ok {α : Type} (a : α) (A : AH) (ρ : Rho) (k : α → AH → SRes) : (Res.ok a A).s ρ k = k a A := rfl
@[simp] theorem Res.s_exc {α : Type} (e : Ex) (A : AH) (ρ : Rho) (k : α → AH → SRes) : (Res.exc e A : Res α).s ρ k = .exc e ρ A := rfl
@[simp] theorem Res.s_er {α : Type} (ρ : Rho) (k : α → AH → SRes) : (Res.er : Res α).s ρ k = .er := rfl
/-- first an expression, then the rest of the statement -/
theorem Ok.thenS {α β : Type} {cf : Cfg} {W : WX} {Rl : List Addr → Hp → α → β → Prop} {t : L2.St → Hp → (β → Hp → Prop) → Prop} {f : Rho → AH → Res α} (h : Ok cf W Rl t f)
    {ρ : Rho} {σ : L2.St} {m : List Addr} {H : Hp} {A : AH} {D : Ends} {R : β → Hp → Prop} {k : α → AH → SRes} (S : Sim cf m H A) (L : Loc cf.K m H ρ σ) (P : SPost cf W m H D ((f ρ A).s ρ k))
    (hk : ∀ x v m1 H1 A1, f ρ A = .ok x A1 → Go cf m H m1 H1 A1 → Loc cf.K m1 H1 ρ σ → Rl m1 H1 x v → SPost cf W m1 H1 D (k x A1) → R v H1) : t σ H R := by
  refine h ρ σ m H A R S L ?_
  cases e : f ρ A with
  | ok x A1 =>
    rw [e] at P
    exact fun m1 H1 v g r => hk x v m1 H1 A1 e g (L.mono g.pre g.fz) r (SPost.mono g P)
  | exc x A1 =>
    rw [e] at P
    exact fun m1 H1 cls d g r => P m1 H1 σ cls d g (L.mono g.pre g.fz) r
  | er =>
    rw [e] at P
    exact P.elim

section
variable {cf : Cfg} {X : Cx} {W : WX}
/-! ### blocks -/
def fNx : FS := fun ρ A => .nx ρ A
def fSeq (f g : FS) : FS := fun ρ A => match f ρ A with
  | .nx ρ' A' => g ρ' A'
  | r => r
theorem ok_nx : SOk cf W tNext fNx := fun ρ σ m H A D S L P => P m H σ (Go.refl S) L
theorem ok_seq {t u : TS} {f g : FS} (hf : SOk cf W t f) (hg : SOk cf W u g) : SOk cf W (tSeq t u) (fSeq f g) := fun ρ σ m H A D S L P => by
  refine hf ρ σ m H A _ S L ?_
  unfold fSeq at P
  cases e : f ρ A with
  | nx ρ' A' =>
    rw [e] at P
    exact fun m' H' σ' g' l => hg ρ' σ' m' H' A' D g'.sim l (SPost.mono g' P)
  | rt v A' => rw [e] at P; exact P
  | bk ρ' A' => rw [e] at P; exact P
  | ct ρ' A' => rw [e] at P; exact P
  | exc x ρ' A' => rw [e] at P; exact P
  | er => rw [e] at P; exact P
theorem cb_nil : CB cf X W [] fNx := ⟨_, pss_nil, ok_nx⟩
theorem cb_one {s : Stmt} {f : FS} (h : CS cf X W s f) : CB cf X W [s] f := let ⟨_, p, o⟩ := h.ex; ⟨_, pss_one p, o⟩
theorem cb_cons {s : Stmt} {ss : List Stmt} {f g : FS} (h : CS cf X W s f) (k : CB cf X W ss g) : CB cf X W (s :: ss) (fSeq f g) := let ⟨_, p, o⟩ := h.ex; let ⟨_, p', o'⟩ := k.ex; ⟨_, pss_cons p p', ok_seq o o'⟩
theorem cs_pass {pos : Pos} : CS cf X W (.Pass pos) fNx := ⟨_, ps_pass, ok_nx⟩
def fBk : FS := fun ρ A => .bk ρ A
def fCt : FS := fun ρ A => .ct ρ A
theorem cs_break {pos : Pos} : CS cf X W (.Break pos) fBk := ⟨_, ps_break, fun ρ σ m H A D S L P => P m H σ (Go.refl S) L⟩
theorem cs_cont {pos : Pos} : CS cf X W (.Continue pos) fCt := ⟨_, ps_continue, fun ρ σ m H A D S L P => P m H σ (Go.refl S) L⟩
theorem cs_doc {x j pos pos'} : CS cf X W (.Expr (.Constant (.str x) j pos) pos') fNx := ⟨_, ps_doc, ok_nx⟩
/-- never come to -/
def fEr : FS := fun _ _ => .er
theorem cs_never {s : Stmt} : CS cf X W s fEr := ⟨_, ps_never, fun ρ σ m H A D S L P => P⟩
theorem cb_never {s : List Stmt} : CB cf X W s fEr := ⟨_, pss_never, fun ρ σ m H A D S L P => P⟩
def fDrop (f : FE) : FS := fun ρ A => (f ρ A).s ρ fun _ A => .nx ρ A
theorem ok_drop {t : TE} {f : FE} (h : EOk cf W t f) : SOk cf W (tDrop t) (fDrop f) := fun ρ σ m H A D S L P => h.thenS S L P fun x v m1 H1 A1 _ g L1 r P1 => P1 m1 H1 σ (Go.refl g.sim) L1
theorem cs_expr {e : Expr} {pos : Pos} {f : FE} (h : CE cf X W e f) (hs : swapsWith e none pos.line X.env = pure false := by rfl) : CS cf X W (.Expr e pos) (fDrop f) := let ⟨_, p, o⟩ := h.ex; ⟨_, ps_expr p hs, ok_drop o⟩
def fRet (f : FE) : FS := fun ρ A => (f ρ A).s ρ fun v A => .rt v A
theorem ok_ret {t : TE} {f : FE} (h : EOk cf W t f) : SOk cf W (tRet t) (fRet f) := fun ρ σ m H A D S L P => h.thenS S L P fun x v m1 H1 A1 _ g L1 r P1 => P1 m1 H1 v (Go.refl g.sim) r
theorem cs_ret {e : Expr} {pos : Pos} {f : FE} (h : CE cf X W e f) : CS cf X W (.Return (some e) pos) (fRet f) := let ⟨_, p, o⟩ := h.ex; ⟨_, ps_ret p, ok_ret o⟩
def fRetN : FS := fun _ A => .rt .non A
theorem cs_retN {pos : Pos} : CS cf X W (.Return none pos) fRetN := ⟨_, ps_retN, fun ρ σ m H A D S L P => P m H .non (Go.refl S) .non⟩
def fIfS (c : FT) (f g : FS) : FS := fun ρ A => (c ρ A).s ρ fun b A => if b = true then f ρ A else g ρ A
theorem ok_ifS {c : TT} {t u : TS} {fc : FT} {f g : FS} (hc : TOk cf W c fc) (hf : SOk cf W t f) (hg : SOk cf W u g) : SOk cf W (tIfS c t u) (fIfS fc f g) := fun ρ σ m H A D S L P => by
  refine hc.thenS S L P fun x v m1 H1 A1 _ g L1 r P1 => ?_
  cases (show x = v from r)
  cases x with
  | true => exact hf ρ σ m1 H1 A1 D g.sim L1 P1
  | false => exact hg ρ σ m1 H1 A1 D g.sim L1 P1
theorem cs_if {c : Expr} {a b : List Stmt} {pos : Pos} {fc : FT} {f g : FS} (hc : CT cf X W c fc) (ha : CB cf X W a f) (hb : CB cf X W b g) : CS cf X W (.If c a b pos) (fIfS fc f g) :=
  let ⟨_, p, o⟩ := hc.ex; let ⟨_, p1, o1⟩ := ha.ex; let ⟨_, p2, o2⟩ := hb.ex; ⟨_, ps_if p p1 p2, ok_ifS o o1 o2⟩

/-! ### targets: ts the slots they store to -/
abbrev FG := AV → Rho → AH → SRes
def GOk (cf : Cfg) (W : WX) (t : TG) (g : FG) (ts : List Nat) : Prop := ∀ (ρ : Rho) (σ : L2.St) (m : List Addr) (H : Hp) (A : AH) (x : AV) (v : V) (Q : L2.St → Hp → Prop), Sim cf m H A → Loc cf.K m H ρ σ → RelA cf.K m H x v →
  SPost cf W m H { nx := fun σ' H' => (∀ vs : List Nat, (∀ i ∈ ts, i ∈ vs) → wipe σ' vs = wipe σ vs) → Q σ' H', rt := fun _ _ => False } (g x ρ A) → t v σ H Q
structure CG (cf : Cfg) (X : Cx) (W : WX) (e : Expr) (g : FG) (ts : List Nat) : Prop where
  ex : ∃ t, PG X e t ∧ GOk cf W t g ts
abbrev FGs := List AV → Rho → AH → SRes
def GsOk (cf : Cfg) (W : WX) (t : TGs) (g : FGs) (ts : List Nat) : Prop := ∀ (ρ : Rho) (σ : L2.St) (m : List Addr) (H : Hp) (A : AH) (xs : List AV) (vs : List V) (Q : L2.St → Hp → Prop), Sim cf m H A → Loc cf.K m H ρ σ → RelAs cf.K m H xs vs →
  SPost cf W m H { nx := fun σ' H' => (∀ ws : List Nat, (∀ i ∈ ts, i ∈ ws) → wipe σ' ws = wipe σ ws) → Q σ' H', rt := fun _ _ => False } (g xs ρ A) → t vs σ H Q
structure CGs (cf : Cfg) (X : Cx) (W : WX) (es : List Expr) (g : FGs) (ts : List Nat) : Prop where
  ex : ∃ t, PGs X es t ∧ GsOk cf W t g ts
theorem wipe_get (σ : L2.St) : ∀ (vs : List Nat) (k : Nat), (wipe σ vs)[k]? = if k ∈ vs then (σ[k]?.map fun _ => none) else σ[k]?
  | [], k => by simp [wipe]
  | v :: vs, k => by
    unfold wipe
    by_cases h : v = k
    · subst h
      rw [List.getElem?_set_self']
      rw [wipe_get σ vs v]
      simp only [List.mem_cons, true_or, if_true]
      split
      · cases σ[v]? <;> rfl
      · rfl
    · rw [List.getElem?_set_ne h, wipe_get σ vs k]
      have e : k ∈ v :: vs ↔ k ∈ vs := by
        rw [List.mem_cons]
        exact ⟨fun z => z.elim (fun q => absurd q.symm h) id, .inr⟩
      simp only [e]
theorem wipe_set {σ : L2.St} {i : Nat} {x : Option V} {vs : List Nat} (h : i ∈ vs) : wipe (σ.set i x) vs = wipe σ vs := by
  apply List.ext_getElem?
  intro k
  rw [wipe_get, wipe_get]
  by_cases e : i = k
  · subst e
    rw [if_pos h, if_pos h, List.getElem?_set_self']
    cases σ[i]? <;> rfl
  · rw [List.getElem?_set_ne e]
def gNm (i : Nat) : FG := fun x ρ A => .nx (ρ.set i (some x)) A
theorem ok_gname {i : Nat} : GOk cf W (gName i) (gNm i) [i] := fun ρ σ m H A x v Q S L r P => P m H _ (Go.refl S) (L.set i r) fun vs h => wipe_set (h i (by simp))
theorem cg_name {x : Str} {pos : Pos} (i : Nat) (hN : X.N.Nodup) (hi : X.N[i]? = some x := by rfl) (hx : L2.Loc X.env.scope x := by first | exact .inl rfl | exact .inr rfl) (hf : X.fn x = true ∨ X.env.scope.names.lookup x = some .local := by first | exact .inl rfl | exact .inr rfl | assumption) : CG cf X W (.Name x pos) (gNm i) [i] :=
  ⟨_, pg_name hN hi hx hf, ok_gname⟩
def gsNil : FGs := fun xs ρ A => match xs with
  | [] => .nx ρ A
  | _ => .er
def gsCons (g : FG) (h : FGs) : FGs := fun xs ρ A => match xs with
  | [] => .er
  | x :: xs => match g x ρ A with
    | .nx ρ' A' => h xs ρ' A'
    | r => r
theorem cgs_nil : CGs cf X W [] gsNil [] := ⟨_, pgs_nil, fun ρ σ m H A xs vs Q S L r P => by
  cases r with
  | nil => exact ⟨rfl, P m H σ (Go.refl S) L fun _ _ => rfl⟩
  | cons _ _ => exact P.elim⟩
theorem cgs_cons {e : Expr} {es : List Expr} {g : FG} {h : FGs} {ts us : List Nat} (hg : CG cf X W e g ts) (hh : CGs cf X W es h us) (hs : (assignEach (e :: es) X.env).map (·.2) = assign e X.env :: (assignEach es X.env).map (·.2) := by rfl) : CGs cf X W (e :: es) (gsCons g h) (ts ++ us) := by
  obtain ⟨t, p, o⟩ := hg.ex
  obtain ⟨u, p', o'⟩ := hh.ex
  refine ⟨_, pgs_cons p p' hs, fun ρ σ m H A xs vs Q S L r P => ?_⟩
  cases r with
  | nil => exact P.elim
  | cons r1 r2 =>
    refine ⟨_, _, rfl, o ρ σ m H A _ _ _ S L r1 ?_⟩
    unfold gsCons at P
    simp only at P
    split at P
    · rename_i ρ' A' e1
      rw [e1]
      intro m' H' σ' g' l hw
      refine o' ρ' σ' m' H' A' _ _ _ g'.sim l (r2.mono g'.pre g'.fz) ?_
      have P' := SPost.mono g' P
      revert P'
      cases h _ ρ' A' with
      | nx ρ2 A2 =>
        intro P' m2 H2 σ2 g2 l2 hw2
        refine P' m2 H2 σ2 g2 l2 fun ws hws => ?_
        rw [hw2 ws (fun i hi => hws i (List.mem_append_right _ hi)), hw ws (fun i hi => hws i (List.mem_append_left _ hi))]
      | rt _ _ => exact fun P' => P'
      | bk _ _ => exact fun P' => P'
      | ct _ _ => exact fun P' => P'
      | exc _ _ _ => exact fun P' => P'
      | er => exact fun P' => P'
    · rename_i hne
      revert P
      cases e1 : g _ ρ A with
      | nx ρ2 A2 => exact (hne ρ2 A2 e1).elim
      | rt _ _ => exact fun P' m2 H2 u2 g2 l2 => P' m2 H2 u2 g2 l2
      | bk _ _ => exact fun P' m2 H2 u2 g2 l2 => P' m2 H2 u2 g2 l2
      | ct _ _ => exact fun P' m2 H2 u2 g2 l2 => P' m2 H2 u2 g2 l2
      | exc _ _ _ => exact fun P' => P'
      | er => exact fun P' => P'
def gTp (n : Nat) (g : FGs) : FG := fun x ρ A => match x with
  | .tup xs => if xs.length = n then g xs ρ A else .er
  | _ => .er
theorem sif {c : Prop} [Decidable c] {r : SRes} {m : List Addr} {H : Hp} {D : Ends} (P : SPost cf W m H D (if c then r else .er)) : c ∧ SPost cf W m H D r := by
  by_cases h : c
  · rw [if_pos h] at P
    exact ⟨h, P⟩
  · rw [if_neg h] at P
    exact P.elim
theorem cg_tup {es : List Expr} {k : Nat} {pos : Pos} {g : FGs} {ts : List Nat} {n : Nat} (hc : X.calm = true) (h : CGs cf X W es g ts) (hn : (assignEach es X.env).length = n := by rfl) (hst : (assignEach es X.env).findIdx? (·.1) = none := by rfl) : CG cf X W (.Tuple es k pos) (gTp n g) ts := by
  obtain ⟨t, p, o⟩ := h.ex
  subst hn
  refine ⟨_, pg_tup hc p rfl hst, fun ρ σ m H A x v Q S L r P => ?_⟩
  unfold gTp at P
  split at P
  · rename_i xs
    obtain ⟨hl, P⟩ := sif P
    obtain ⟨a, vs, rfl, e, r'⟩ := r.to_tup
    exact ⟨a, vs, rfl, SqT.of e, by rw [← r'.length]; exact hl, o ρ σ m H A xs vs Q S L r' P⟩
  · exact P.elim
/-- target = value -/
def fAsg (f : FE) (g : FG) : FS := fun ρ A => (f ρ A).s ρ fun x A => g x ρ A
theorem sdrop {m : List Addr} {H : Hp} {D : Ends} {σ : L2.St} {C : L2.St → Prop} {r : SRes} (hb : ∀ ρ A, r ≠ .bk ρ A) (hc : ∀ ρ A, r ≠ .ct ρ A) (hr : ∀ v A, r ≠ .rt v A) (P : SPost cf W m H D r) : SPost cf W m H { nx := fun σ' H' => C σ' → D.nx σ' H', rt := fun _ _ => False } r := by
  cases r with
  | nx ρ A => exact fun m' H' σ' g l _ => P m' H' σ' g l
  | rt v A => exact (hr v A rfl).elim
  | bk v A => exact (hb v A rfl).elim
  | ct v A => exact (hc v A rfl).elim
  | exc _ _ _ => exact P
  | er => exact P
/-- what a target hands on: next, or an error -/
def SRes.plain : SRes → SRes
  | .nx ρ A => .nx ρ A
  | .exc e ρ A => .exc e ρ A
  | _ => .er
theorem splain {m : List Addr} {H : Hp} {D : Ends} {C : L2.St → Prop} {r : SRes} (P : SPost cf W m H D r.plain) : r.plain = r ∧ SPost cf W m H { nx := fun σ' H' => C σ' → D.nx σ' H', rt := fun _ _ => False } r := by
  cases r with
  | nx ρ A => exact ⟨rfl, fun m' H' σ' g l _ => P m' H' σ' g l⟩
  | rt v A => exact P.elim
  | bk v A => exact P.elim
  | ct v A => exact P.elim
  | exc _ _ _ => exact ⟨rfl, P⟩
  | er => exact ⟨rfl, P⟩
def fAsgG (f : FE) (g : FG) : FS := fun ρ A => (f ρ A).s ρ fun x A => (g x ρ A).plain
theorem cs_asg {tg e : Expr} {pos : Pos} {f : FE} {g : FG} {ts : List Nat} (he : CE cf X W e f) (hg : CG cf X W tg g ts) (hs : swapsWithSole [tg] e pos.line X.env = pure false := by rfl) (hw : swappedStores [tg] e X.env = pure none := by rfl)
    (h1 : (assignEach [tg] X.env).map (·.2) = [assign tg X.env] := by rfl) : CS cf X W (.Assign [tg] e pos) (fAsgG f g) := by
  obtain ⟨t, p, o⟩ := he.ex
  obtain ⟨u, p', o'⟩ := hg.ex
  refine ⟨_, ps_asg p p' hs hw h1, fun ρ σ m H A D S L P => ?_⟩
  refine o.thenS S L P fun x v m1 H1 A1 _ g1 L1 r P1 => ?_
  exact o' ρ σ m1 H1 A1 x v _ g1.sim L1 r (splain P1).2
/-- name = value -/
def fSet (i : Nat) (f : FE) : FS := fun ρ A => (f ρ A).s ρ fun x A => .nx (ρ.set i (some x)) A
theorem cs_set {x : Str} {e : Expr} {pos pos' : Pos} {f : FE} (i : Nat) (hN : X.N.Nodup) (he : CE cf X W e f) (hi : X.N[i]? = some x := by rfl) (hx : L2.Loc X.env.scope x := by first | exact .inl rfl | exact .inr rfl) (hs : swapsWith e (some (.Name x pos')) pos.line X.env = pure false := by rfl)
    (hf : X.fn x = true ∨ X.env.scope.names.lookup x = some .local := by first | exact .inl rfl | exact .inr rfl | assumption) : CS cf X W (.Assign [.Name x pos'] e pos) (fSet i f) := by
  obtain ⟨t, p, o⟩ := he.ex
  refine ⟨_, ps_set hN hi hx p hs hf, fun ρ σ m H A D S L P => ?_⟩
  refine o.thenS S L P fun x v m1 H1 A1 _ g1 L1 r P1 => ?_
  exact P1 m1 H1 _ (Go.refl g1.sim) (L1.set i r)
/-- a, b = e1, e2 -/
def fPar (i j : Nat) (f : FA) : FS := fun ρ A => (f ρ A).s ρ fun xs A => match xs with
  | [x, y] => .nx ((ρ.set i (some x)).set j (some y)) A
  | _ => .er

/-! ### while -/
def whileF (c : FT) (b : FS) : Nat → Rho → AH → SRes
  | 0, _, _ => .er
  | n + 1, ρ, A => (c ρ A).s ρ fun k A => if k = true then match b ρ A with
      | .nx ρ' A' => whileF c b n ρ' A'
      | .ct ρ' A' => whileF c b n ρ' A'
      | .bk ρ' A' => .nx ρ' A'
      | r => r
    else .nx ρ A
def fuel : Nat := 1000000000
def fWhile (c : FT) (b : FS) : FS := fun ρ A => whileF c b fuel ρ A
theorem ok_while {c : TT} {t : TS} {fc : FT} {f : FS} (hc : TOk cf W c fc) (hf : SOk cf W t f) (N : Nat) : SOk cf W (tWhile c t) (whileF fc f N) := fun ρ σ m H A D S L P => by
  refine ⟨fun n σ' H' => ∃ ρ' m' A', Go cf m H m' H' A' ∧ Loc cf.K m' H' ρ' σ' ∧ SPost cf W m' H' D (whileF fc f n ρ' A'), ⟨N, ρ, m, A, Go.refl S, L, P⟩, ?_⟩
  rintro n σ1 H1 ⟨ρ1, m1, A1, g1, L1, P1⟩
  cases n with
  | zero => exact P1.elim
  | succ n =>
    refine hc.thenS g1.sim L1 P1 fun x v m2 H2 A2 _ g2 L2 r P2 => ?_
    cases (show x = v from r)
    cases x with
    | false => exact P2 m2 H2 σ1 (Go.refl g2.sim) L2
    | true =>
      refine ⟨fun σ' H' => ∃ ρ' m' A', Go cf m H m' H' A' ∧ Loc cf.K m' H' ρ' σ' ∧ SPost cf W m' H' D (whileF fc f n ρ' A'), fun σ' H' h => ⟨n, Nat.lt_succ_self n, h⟩, ?_⟩
      refine hf ρ1 σ1 m2 H2 A2 _ g2.sim L2 ?_
      simp only [if_true] at P2
      cases e : f ρ1 A2 with
      | nx ρ' A' =>
        rw [e] at P2
        exact fun m3 H3 σ3 g3 l3 => ⟨ρ', m3, A', (g1.trans g2).trans g3, l3, SPost.mono g3 P2⟩
      | ct ρ' A' =>
        rw [e] at P2
        exact fun m3 H3 σ3 g3 l3 => ⟨ρ', m3, A', (g1.trans g2).trans g3, l3, SPost.mono g3 P2⟩
      | bk ρ' A' => rw [e] at P2; exact P2
      | rt v A' => rw [e] at P2; exact P2
      | exc x ρ' A' => rw [e] at P2; exact P2
      | er => rw [e] at P2; exact P2
theorem cs_while {c : Expr} {body : List Stmt} {pos : Pos} {fc : FT} {f : FS} (hp : PassesOwn (model X.prog X.w) X.A X.env X.xe) (hc : CT cf X W c fc) (hb : CB cf X W body f) : CS cf X W (.While c body [] pos) (fWhile fc f) := by
  obtain ⟨t, p, o⟩ := hc.ex
  obtain ⟨u, p', o'⟩ := hb.ex
  exact ⟨_, ps_while hp p p', ok_while o o' fuel⟩

/-! ### what is walked -/
inductive Src where
  | fix (xs : List AV)
  | live (n : Nat) (f : Nat → AV → AV)
abbrev FI := Rho → AH → Res Src
def SrcR (cf : Cfg) (m : List Addr) (H : Hp) (J : It) : Src → Prop
  | .fix xs => ∀ m1 H1 A1, Go cf m H m1 H1 A1 → (∀ i, i < xs.length → J.go i H1) ∧ J.stop xs.length H1 ∧ ∀ i x H2, J.yld i H1 x H2 → i < xs.length → ∃ y, xs[i]? = some y ∧ Go cf m1 H1 m1 H2 A1 ∧ RelA cf.K m1 H2 y x
  | .live n f => ∀ m1 H1 A1 xs, Go cf m H m1 H1 A1 → A1[n]? = some (.lst xs) → (∀ i, i < xs.length → J.go i H1) ∧ (∀ i, xs.length ≤ i → J.stop i H1) ∧ ∀ i x H2, J.yld i H1 x H2 → ∃ y, xs[i]? = some y ∧ Go cf m1 H1 m1 H2 A1 ∧ RelA cf.K m1 H2 (f i y) x
def IOk (cf : Cfg) (W : WX) (t : TI) (f : FI) : Prop := ∀ (ρ : Rho) (σ : L2.St) (m : List Addr) (H : Hp) (A : AH) (R : It → Hp → Prop), Sim cf m H A → Loc cf.K m H ρ σ →
  Post cf W (fun m' H' s J => SrcR cf m' H' J s) m H σ R (f ρ A) → t σ H R
structure CI (cf : Cfg) (X : Cx) (W : WX) (tg e : Expr) (f : FI) : Prop where
  ex : ∃ t, PI X tg e t ∧ IOk cf W t f
theorem SrcR.mono {m m1 : List Addr} {H H1 : Hp} {A1 : AH} {J : It} {s : Src} (g : Go cf m H m1 H1 A1) (h : SrcR cf m H J s) : SrcR cf m1 H1 J s := by
  cases s with
  | fix xs => exact fun m2 H2 A2 g2 => h m2 H2 A2 (g.trans g2)
  | live n f => exact fun m2 H2 A2 xs g2 => h m2 H2 A2 xs (g.trans g2)
/-- one turn of a loop: go on, or end -/
def turnF (g : FG) (b : FS) (x : AV) (ρ : Rho) (A : AH) (k : Rho → AH → SRes) : SRes :=
  match (g x ρ A).plain with
  | .nx ρ A => match b ρ A with
    | .nx ρ A => k ρ A
    | .ct ρ A => k ρ A
    | .bk ρ A => .nx ρ A
    | r => r
  | r => r
def runF (g : FG) (b : FS) : List AV → Rho → AH → SRes
  | [], ρ, A => .nx ρ A
  | x :: xs, ρ, A => turnF g b x ρ A fun ρ A => runF g b xs ρ A
def runL (g : FG) (b : FS) (n : Nat) (f : Nat → AV → AV) : Nat → Nat → Rho → AH → SRes
  | 0, _, _, _ => .er
  | k + 1, i, ρ, A => match A[n]? with
    | some (.lst xs) => match xs[i]? with
      | some x => turnF g b (f i x) ρ A fun ρ A => runL g b n f k (i + 1) ρ A
      | none => .nx ρ A
    | _ => .er
def fFor (fi : FI) (g : FG) (b : FS) : FS := fun ρ A => (fi ρ A).s ρ fun s A => match s with
  | .fix xs => runF g b xs ρ A
  | .live n f => runL g b n f fuel 0 ρ A
theorem turn_ok {t : TG} {u : TS} {g : FG} {b : FS} {ts : List Nat} (hg : GOk cf W t g ts) (hb : SOk cf W u b) {x : AV} {v : V} {ρ : Rho} {σ : L2.St} {m : List Addr} {H : Hp} {A : AH} {D : Ends} {N : L2.St → Hp → Prop} {k : Rho → AH → SRes}
    (S : Sim cf m H A) (L : Loc cf.K m H ρ σ) (r : RelA cf.K m H x v) (P : SPost cf W m H D (turnF g b x ρ A k)) (hN : ∀ ρ' m' H' σ' A', Go cf m H m' H' A' → Loc cf.K m' H' ρ' σ' → SPost cf W m' H' D (k ρ' A') → N σ' H') :
    t v σ H fun σ2 H2 => u { D with nx := N, ct := N, bk := D.nx } σ2 H2 := by
  refine hg ρ σ m H A x v _ S L r ?_
  unfold turnF at P
  cases e : g x ρ A with
  | nx ρ1 A1 =>
    rw [e] at P
    intro m1 H1 σ1 g1 l1 _
    refine hb ρ1 σ1 m1 H1 A1 _ g1.sim l1 ?_
    have P1 := SPost.mono g1 P
    simp only [SRes.plain] at P1
    cases e2 : b ρ1 A1 with
    | nx ρ' A' =>
      rw [e2] at P1
      exact fun m3 H3 σ3 g3 l3 => hN ρ' m3 H3 σ3 A' (g1.trans g3) l3 (SPost.mono g3 P1)
    | ct ρ' A' =>
      rw [e2] at P1
      exact fun m3 H3 σ3 g3 l3 => hN ρ' m3 H3 σ3 A' (g1.trans g3) l3 (SPost.mono g3 P1)
    | bk ρ' A' => rw [e2] at P1; exact P1
    | rt v A' => rw [e2] at P1; exact P1
    | exc x ρ' A' => rw [e2] at P1; exact P1
    | er => rw [e2] at P1; exact P1
  | rt _ _ => rw [e] at P; exact P.elim
  | bk _ _ => rw [e] at P; exact P.elim
  | ct _ _ => rw [e] at P; exact P.elim
  | exc _ _ _ => rw [e] at P; exact P
  | er => rw [e] at P; exact P
theorem ok_for {wi : TI} {t : TG} {u : TS} {fi : FI} {g : FG} {b : FS} {ts : List Nat} (hi : IOk cf W wi fi) (hg : GOk cf W t g ts) (hb : SOk cf W u b) : SOk cf W (tFor wi t u) (fFor fi g b) := fun ρ σ m H A D S L P => by
  refine hi ρ σ m H A _ S L ?_
  unfold fFor at P
  cases e : fi ρ A with
  | er => rw [e] at P; exact P.elim
  | exc x A1 => rw [e] at P; exact fun m1 H1 cls d g r => P m1 H1 σ cls d g (L.mono g.pre g.fz) r
  | ok s A1 =>
    rw [e] at P
    intro m1 H1 J g1 sr
    have P1 := SPost.mono g1 P
    have L1 := L.mono g1.pre g1.fz
    cases s with
    | fix xs =>
      refine ⟨fun i n σ' H' => n = xs.length - i ∧ i ≤ xs.length ∧ ∃ ρ' m' A', Go cf m1 H1 m' H' A' ∧ Loc cf.K m' H' ρ' σ' ∧ SPost cf W m' H' D (runF g b (xs.drop i) ρ' A'), ⟨_, rfl, Nat.zero_le _, ρ, m1, A1, Go.refl g1.sim, L1, P1⟩, ?_⟩
      rintro i n σ2 H2 ⟨rfl, hi, ρ2, m2, A2, g2, L2, P2⟩
      obtain ⟨go, stop, yld⟩ := sr m2 H2 A2 g2
      by_cases hlt : i < xs.length
      · refine .inr ⟨go i hlt, fun σ' H' => i + 1 ≤ xs.length ∧ ∃ ρ' m' A', Go cf m1 H1 m' H' A' ∧ Loc cf.K m' H' ρ' σ' ∧ SPost cf W m' H' D (runF g b (xs.drop (i + 1)) ρ' A'), fun σ' H' h => ⟨xs.length - (i + 1), by omega, rfl, h⟩, fun x H3 y => ?_⟩
        obtain ⟨y, hy, g3, r3⟩ := yld i x H3 y hlt
        obtain ⟨_, hyy⟩ := List.getElem?_eq_some_iff.mp hy
        rw [List.drop_eq_getElem_cons hlt, hyy] at P2
        refine turn_ok hg hb g3.sim (L2.mono g3.pre g3.fz) r3 (SPost.mono g3 P2) fun ρ' m' H' σ' A' g4 l4 P4 => ⟨hlt, ρ', m', A', (g2.trans g3).trans g4, l4, P4⟩
      · have e : i = xs.length := by omega
        subst e
        rw [List.drop_length] at P2
        exact .inl ⟨stop, P2 m2 H2 σ2 (Go.refl g2.sim) L2⟩
    | live n f =>
      refine ⟨fun i k σ' H' => ∃ ρ' m' A', Go cf m1 H1 m' H' A' ∧ Loc cf.K m' H' ρ' σ' ∧ SPost cf W m' H' D (runL g b n f k i ρ' A'), ⟨fuel, ρ, m1, A1, Go.refl g1.sim, L1, P1⟩, ?_⟩
      rintro i k σ2 H2 ⟨ρ2, m2, A2, g2, L2, P2⟩
      cases k with
      | zero => exact P2.elim
      | succ k =>
        unfold runL at P2
        split at P2
        · rename_i xs ex
          obtain ⟨go, stop, yld⟩ := sr m2 H2 A2 xs g2 ex
          split at P2
          · rename_i x0 hx0
            obtain ⟨hlt, _⟩ := List.getElem?_eq_some_iff.mp hx0
            refine .inr ⟨go i hlt, fun σ' H' => ∃ ρ' m' A', Go cf m1 H1 m' H' A' ∧ Loc cf.K m' H' ρ' σ' ∧ SPost cf W m' H' D (runL g b n f k (i + 1) ρ' A'), fun σ' H' h => ⟨k, Nat.lt_succ_self k, h⟩, fun x H3 y => ?_⟩
            obtain ⟨y, hy, g3, r3⟩ := yld i x H3 y
            rw [hx0] at hy
            cases hy
            refine turn_ok hg hb g3.sim (L2.mono g3.pre g3.fz) r3 (SPost.mono g3 P2) fun ρ' m' H' σ' A' g4 l4 P4 => ⟨ρ', m', A', (g2.trans g3).trans g4, l4, P4⟩
          · rename_i hx0
            exact .inl ⟨stop i (List.getElem?_eq_none_iff.mp hx0), P2 m2 H2 σ2 (Go.refl g2.sim) L2⟩
        · exact P2.elim
theorem cs_for {tg e : Expr} {body : List Stmt} {pos : Pos} {fi : FI} {g : FG} {b : FS} {ts : List Nat} (hp : PassesOwn (model X.prog X.w) X.A X.env X.xe) (hc : X.calm = true) (hi : CI cf X W tg e fi) (hg : CG cf X W tg g ts) (hb : CB cf X W body b)
    (hs : ∀ x, foldedSetIterable e X.env x = pure x := by intro _; rfl) : CS cf X W (.For tg e body [] pos) (fFor fi g b) := by
  obtain ⟨t, p, o⟩ := hi.ex
  obtain ⟨t1, p1, o1⟩ := hg.ex
  obtain ⟨t2, p2, o2⟩ := hb.ex
  exact ⟨_, ps_for hp hc p p1 p2 hs, ok_for o o1 o2⟩
/-! ### the things walked -/
theorem src_fix {J : It} {n : Nat} {G : Hp → Prop} {m : List Addr} {H : Hp} {vs : List V} {xs : List AV} (w : Walk J n G (YAt vs)) (hn : n = xs.length) (hG : ∀ H', Fz H H' → G H') (hr : RelAs cf.K m H xs vs) : SrcR cf m H J (.fix xs) := fun m1 H1 A1 g => by
  subst hn
  refine ⟨fun i hi => w.goes i H1 hi (hG H1 g.fz), w.stops H1 (hG H1 g.fz), fun i x H2 y hi => ?_⟩
  obtain ⟨rfl, hx⟩ := w.yields i H1 x H2 hi (hG H1 g.fz) y
  obtain ⟨y, h1, h2⟩ := hr.get' hx
  exact ⟨y, h1, Go.refl g.sim, h2.mono g.pre g.fz⟩
def fList (f : FE) : FI := fun ρ A => (f ρ A).bind fun x A => match x with
  | .obj n => match A[n]? with
    | some (.lst _) => .ok (.live n fun _ y => y) A
    | _ => .er
  | .scr ns => .ok (.fix (ns.map AV.int)) A
  | .tup xs => .ok (.fix xs) A
  | _ => .er
theorem PI.or {tg e : Expr} {t u : TI} (h : PI X tg e t) (k : PI X tg e u) : PI X tg e (fun σ H R => t σ H R ∨ u σ H R) := ⟨fun pins s σ H R I q => q.elim (h.run pins s σ H R I) (k.run pins s σ H R I)⟩
theorem PE.or {e : Expr} {t u : TE} (h : PE X e t) (k : PE X e u) : PE X e (fun σ H R => t σ H R ∨ u σ H R) := ⟨fun pins s σ H R I q => q.elim (h.run pins s σ H R I) (k.run pins s σ H R I)⟩
theorem PS.or {e : Stmt} {t u : TS} (h : PS X e t) (k : PS X e u) : PS X e (fun D σ H => t D σ H ∨ u D σ H) := ⟨fun pins s σ H D I q => q.elim (h.run pins s σ H D I) (k.run pins s σ H D I)⟩
theorem post_then {α β γ : Type} {Rl : List Addr → Hp → α → β → Prop} {m : List Addr} {H : Hp} {σ : L2.St} {Q : β → Hp → Prop} {r : Res γ} {k : γ → AH → Res α} (P : Post cf W Rl m H σ Q (r.bind k)) :
    (∃ x A1, r = .ok x A1 ∧ Post cf W Rl m H σ Q (k x A1)) ∨ (∃ e A1, r = .exc e A1 ∧ ∀ m' H' cls d, Go cf m H m' H' A1 → ExcR cf m' H' e cls d → W cls d σ H') := by
  cases r with
  | ok x A1 => exact .inl ⟨x, A1, rfl, P⟩
  | exc e A1 => exact .inr ⟨e, A1, rfl, P⟩
  | er => exact P.elim
theorem live_ok {m : List Addr} {H : Hp} {A : AH} {n : Nat} {a : Addr} {xs0 : List AV} {f : Nat → AV → AV} {J : It} (hm : m[n]? = some a) (hgo : ∀ i H vs, H a = some (.lst vs) → i < vs.length → J.go i H) (hst : ∀ i H vs, H a = some (.lst vs) → vs.length ≤ i → J.stop i H)
    (hy : ∀ i m1 H1 A1 vs x H2, Sim cf m1 H1 A1 → H1 a = some (.lst vs) → J.yld i H1 x H2 → ∃ v, vs[i]? = some v ∧ Go cf m1 H1 m1 H2 A1 ∧ ∀ y, RelA cf.K m1 H1 y v → RelA cf.K m1 H2 (f i y) x) : SrcR cf m H J (.live n f) := fun m1 H1 A1 xs g e => by
  obtain ⟨vs, h1, r⟩ := g.sim.at_ n a _ (g.pre _ _ hm) e
  refine ⟨fun i hi => hgo i H1 vs h1 (by rw [← r.length]; exact hi), fun i hi => hst i H1 vs h1 (by rw [← r.length]; exact hi), fun i x H2 y => ?_⟩
  obtain ⟨v, hv, g2, h2⟩ := hy i m1 H1 A1 vs x H2 g.sim h1 y
  obtain ⟨z, h3, h4⟩ := r.get' hv
  exact ⟨z, h3, g2, h2 z h4⟩
theorem ok_list {t : TE} {f : FE} (h : EOk cf W t f) : IOk cf W (fun σ H R => iList cf.K t σ H R ∨ iTup cf.K t σ H R) (fList f) := fun ρ σ m H A R S L P => by
  unfold fList at P
  by_cases hk : ∃ xs A1, f ρ A = .ok (.tup xs) A1
  · right
    obtain ⟨xs, A1, hk⟩ := hk
    refine h.then S L P fun x v m1 H1 A1 e g1 L1 r1 P1 => ?_
    rw [hk] at e
    cases e
    obtain ⟨a, vs, rfl, ha, r⟩ := r1.to_tup
    exact ⟨a, rfl, ⟨vs, SqT.of ha⟩, P1 m1 H1 _ (Go.refl g1.sim) (src_fix (walk_tup (xs := vs)) r.length.symm (fun H' f => SqT.of (f.tup _ _ ha)) r)⟩
  · left
    refine h.then S L P fun x v m1 H1 A1 e g1 L1 r1 P1 => ?_
    cases x with
    | obj n =>
      simp only at P1
      split at P1
      · rename_i xs ex
        obtain ⟨a, rfl, hm, vs, h1, r⟩ := g1.sim.obj r1 ex
        refine ⟨a, rfl, ⟨vs, SqL.of h1⟩, P1 m1 H1 _ (Go.refl g1.sim) (live_ok (A := A1) (xs0 := xs) hm (fun i H vs e hi => ⟨vs, vs[i], SqL.of e, by simp [hi]⟩) (fun i H vs e hi => ⟨vs, SqL.of e, hi⟩) fun i m2 H2 A2 vs x H3 S2 e y => ?_)⟩
        obtain ⟨rfl, y⟩ := y
        exact ⟨x, y vs (SqL.of e), Go.refl S2, fun _ h => h⟩
      · exact P1.elim
    | scr ns =>
      cases r1 with
      | scr hf =>
        exact ⟨_, rfl, ⟨_, hf.sq⟩, P1 m1 H1 _ (Go.refl g1.sim) (src_fix (walk_list (xs := ns.map V.int)) (by simp) (fun H' f => (hf.mono f).sq) (RelAs.ints ns))⟩
    | tup xs => exact (hk ⟨xs, A1, e⟩).elim
    | _ => exact P1.elim
theorem ci_list {tg e : Expr} {f : FE} (h : CE cf X W e f) (hK : X.K = cf.K) : CI cf X W tg e (fList f) := by
  obtain ⟨t, p, o⟩ := h.ex
  refine ⟨_, PI.or (pi_list p) (pi_tup p), ?_⟩
  rw [hK]
  exact ok_list o
def rngL (lo : Int) (n : Nat) : List AV := (List.range n).map fun i => .int (lo + (i : Nat))
def rngB (i : Int) : Bool := decide (-1000000000000 < i) && decide (i < 1000000000000)
def fRange1 (f : FA) : FI := fun ρ A => (f ρ A).bind fun xs A => match xs with
  | [.int j] => if rngB j = true then .ok (.fix (rngL 0 j.toNat)) A else .er
  | _ => .er
def fRange2 (f : FA) : FI := fun ρ A => (f ρ A).bind fun xs A => match xs with
  | [.int i, .int j] => if rngB i = true ∧ rngB j = true then .ok (.fix (rngL i (j - i).toNat)) A else .er
  | _ => .er
theorem src_range {m : List Addr} {H : Hp} {lo : Int} {n : Nat} : SrcR cf m H (Itr lo n) (.fix (rngL lo n)) := fun m1 H1 A1 g => by
  have hl : (rngL lo n).length = n := by simp [rngL]
  refine ⟨fun i hi => by rw [hl] at hi; exact hi, (by rw [hl]; exact Nat.le_refl n), fun i x H2 y hi => ?_⟩
  rw [hl] at hi
  obtain ⟨rfl, rfl⟩ := y
  exact ⟨.int (lo + (i : Nat)), by simp [rngL, hi], Go.refl g.sim, .int _⟩
theorem rng_ok {i : Int} (h : rngB i = true) : -(2 ^ 62) ≤ i ∧ i < 2 ^ 62 := by
  simp only [rngB, Bool.and_eq_true, decide_eq_true_eq] at h
  omega
theorem ci_range1 {tg a : Expr} {p pos : Pos} {f : FA} (hg : Gl X "range") (hm : X.mg "range" = none) (ha : CA cf X W [a] f) (hs : starEach [a] X.env = [(false, eval a X.env)] := by rfl) : CI cf X W tg (.Call (.Name "range" p) [a] [] pos) (fRange1 f) := by
  obtain ⟨t, p, o⟩ := ha.ex
  refine ⟨_, pi_range1 hg hm p hs, fun ρ σ m H A R S L P => ?_⟩
  refine o.then S L P fun xs vs m1 H1 A1 e g1 L1 r1 P1 => ?_
  split at P1
  · rename_i j
    obtain ⟨hj, P1⟩ := post_if P1
    cases r1 with
    | cons r1 r2 =>
      cases r2
      exact ⟨j, by rw [r1.to_int], (rng_ok hj).1, (rng_ok hj).2, P1 m1 H1 _ (Go.refl g1.sim) src_range⟩
  · exact P1.elim
theorem ci_range2 {tg a b : Expr} {p pos : Pos} {f : FA} (hg : Gl X "range") (hm : X.mg "range" = none) (ha : CA cf X W [a, b] f) (hs : starEach [a, b] X.env = [(false, eval a X.env), (false, eval b X.env)] := by rfl) (hs2 : starEach [b] X.env = [(false, eval b X.env)] := by rfl) :
    CI cf X W tg (.Call (.Name "range" p) [a, b] [] pos) (fRange2 f) := by
  obtain ⟨t, p, o⟩ := ha.ex
  refine ⟨_, pi_range2 hg hm p hs hs2, fun ρ σ m H A R S L P => ?_⟩
  refine o.then S L P fun xs vs m1 H1 A1 e g1 L1 r1 P1 => ?_
  split at P1
  · rename_i i j
    obtain ⟨⟨hi, hj⟩, P1⟩ := post_if P1
    cases r1 with
    | cons r1 r2 =>
      cases r2 with
      | cons r2 r3 =>
        cases r3
        exact ⟨i, j, by rw [r1.to_int, r2.to_int], ⟨(rng_ok hi).1, (rng_ok hi).2, (rng_ok hj).1, (rng_ok hj).2⟩, P1 m1 H1 _ (Go.refl g1.sim) src_range⟩
  · exact P1.elim
end
end Dn

set_option maxRecDepth 100000
set_option maxHeartbeats 1000000
/-! Dn, part E: comprehensions, defs and their calls, built-in calls. -/
namespace Dn
open PySem L2 PyProof.Rows

/-- no error leaves -/
def WD (E : XK) : WX := fun cls d _ H => E cls d H
abbrev W0 : WX := WD E0
section
variable {cf : Cfg} {X : Cx} {W : WX}
/-! ### one reading for all contexts -/
def tF {α β : Type} (cf : Cfg) (W : WX) (Rl : List Addr → Hp → α → β → Prop) (f : Rho → AH → Res α) : L2.St → Hp → (β → Hp → Prop) → Prop := fun σ H Q => ∃ ρ m A, Sim cf m H A ∧ Loc cf.K m H ρ σ ∧ Post cf W Rl m H σ Q (f ρ A)
theorem ok_F {α β : Type} {Rl : List Addr → Hp → α → β → Prop} {f : Rho → AH → Res α} : Ok cf W Rl (tF cf W Rl f) f := fun ρ σ m H A Q S L P => ⟨ρ, m, A, S, L, P⟩
theorem CE.pe {e : Expr} {f : FE} (h : CE cf X W e f) : PE X e (tF cf W (rA cf) f) := by
  obtain ⟨t, p, o⟩ := h.ex
  refine ⟨fun pins s σ H Q I q => ?_⟩
  obtain ⟨ρ, m, A, S, L, P⟩ := q
  exact p.run pins s σ H Q I (o ρ σ m H A Q S L P)
structure CTs (cf : Cfg) (X : Cx) (W : WX) (es : List Expr) (f : FT) : Prop where
  ex : ∃ t, PTs X es t ∧ TOk cf W t f
theorem CTs.pe {e : List Expr} {f : FT} (h : CTs cf X W e f) : PTs X e (tF cf W rB f) := by
  obtain ⟨t, p, o⟩ := h.ex
  refine ⟨fun pins s σ H Q I q => ?_⟩
  obtain ⟨ρ, m, A, S, L, P⟩ := q
  exact p.run pins s σ H Q I (o ρ σ m H A Q S L P)
def fYes : FT := fun _ A => .ok true A
theorem cts_nil : CTs cf X W [] fYes := ⟨_, pts_nil, fun ρ σ m H A Q S L P => P m H true (Go.refl S) rfl⟩
theorem cts_one {c : Expr} {f : FT} (h : CT cf X W c f) : CTs cf X W [c] f := let ⟨_, p, o⟩ := h.ex; ⟨_, pts_one p, o⟩
def tG (cf : Cfg) (W : WX) (g : FG) (ts : List Nat) : TG := fun v σ H Q => ∃ ρ m A x, Sim cf m H A ∧ Loc cf.K m H ρ σ ∧ RelA cf.K m H x v ∧
  SPost cf W m H { nx := fun σ' H' => (∀ vs : List Nat, (∀ i ∈ ts, i ∈ vs) → wipe σ' vs = wipe σ vs) → Q σ' H', rt := fun _ _ => False } (g x ρ A)
theorem ok_G {g : FG} {ts : List Nat} : GOk cf W (tG cf W g ts) g ts := fun ρ σ m H A x v Q S L r P => ⟨ρ, m, A, x, S, L, r, P⟩
theorem CG.pg {e : Expr} {g : FG} {ts : List Nat} (h : CG cf X W e g ts) : PG X e (tG cf W g ts) := by
  obtain ⟨t, p, o⟩ := h.ex
  refine ⟨fun pins s σ H v u Q I r q => ?_⟩
  obtain ⟨ρ, m, A, x, S, L, r', P⟩ := q
  exact p.run pins s σ H v u Q I r (o ρ σ m H A x v Q S L r' P)

/-! ### comprehensions -/
def wipeR (ρ : Rho) : List Nat → Rho
  | [] => ρ
  | v :: vs => (wipeR ρ vs).set v none
theorem Loc.wipe {m : List Addr} {H : Hp} {ρ : Rho} {σ : L2.St} (L : Loc cf.K m H ρ σ) : ∀ vs : List Nat, Loc cf.K m H (wipeR ρ vs) (L2.wipe σ vs)
  | [] => L
  | v :: vs => by
    have ih := Loc.wipe L vs
    unfold wipeR L2.wipe
    refine ⟨by rw [List.length_set, List.length_set, ih.len], fun i x e => ?_⟩
    by_cases h : v = i
    · subst h
      rw [List.getElem?_set_self'] at e
      cases q : (wipeR ρ vs)[v]? with
      | none => rw [q] at e; cases e
      | some z => rw [q] at e; cases e
    · rw [List.getElem?_set_ne h] at e
      rw [List.getElem?_set_ne h]
      exact ih.at_ i x e
def turnC {α : Type} (g : FG) (ft : FT) (x : AV) (ρ : Rho) (A : AH) (elt : Rho → AH → Res α) (skip : AH → Res α) : Res α :=
  match g x ρ A with
  | .nx ρ1 A1 => match ft ρ1 A1 with
    | .ok b A2 => if b = true then elt ρ1 A2 else skip A2
    | _ => .er
  | _ => .er
/-- y goes to the list at k -/
def pushC (fe : FE) (k : Nat) (cont : AH → Res AV) (ρ : Rho) (A : AH) : Res AV :=
  match fe ρ A with
  | .ok y A3 => match A3[k]? with
    | some (.lst acc) => if acc.length < big then cont (A3.set k (.lst (acc ++ [y]))) else .er
    | _ => .er
  | _ => .er
def compF (g : FG) (ft : FT) (fe : FE) (k : Nat) (ρ : Rho) : List AV → AH → Res AV
  | [], A => .ok (.obj k) A
  | x :: xs, A => turnC g ft x ρ A (pushC fe k fun A => compF g ft fe k ρ xs A) fun A => compF g ft fe k ρ xs A
def compL (g : FG) (ft : FT) (fe : FE) (k : Nat) (ρ : Rho) (n : Nat) (f : Nat → AV → AV) : Nat → Nat → AH → Res AV
  | 0, _, _ => .er
  | c + 1, i, A => match A[n]? with
    | some (.lst xs) => match xs[i]? with
      | some x => turnC g ft (f i x) ρ A (pushC fe k fun A => compL g ft fe k ρ n f c (i + 1) A) fun A => compL g ft fe k ρ n f c (i + 1) A
      | none => .ok (.obj k) A
    | _ => .er
def fComp (fi : FI) (g : FG) (ft : FT) (fe : FE) (own : List Nat) : FE := fun ρ A => (fi ρ A).bind fun s A => match s with
  | .fix xs => compF g ft fe A.length (wipeR ρ own) xs (A ++ [.lst []])
  | .live n f => compL g ft fe A.length (wipeR ρ own) n f fuel 0 (A ++ [.lst []])
theorem turnC_ok {t : TG} {tt : TT} {te : TE} {g : FG} {ft : FT} {fe : FE} {ts own : List Nat} (hg : GOk cf W0 t g ts) (ht : TOk cf W0 tt ft) (he : EOk cf W0 te fe) (hown : ∀ i ∈ ts, i ∈ own) {x : AV} {v : V} {ρ : Rho} {σ σ0 : L2.St} {m : List Addr} {H : Hp} {A : AH} {Q : VK} {N : Hp → Prop} {k : Nat} {D : Addr}
    {cont : AH → Res AV} (S : Sim cf m H A) (L : Loc cf.K m H ρ (wipe σ own)) (hk : m[k]? = some D) (r : RelA cf.K m H x v) (P : Post cf W (rA cf) m H σ0 Q (turnC g ft x ρ A (pushC fe k cont) cont))
    (hN : ∀ m' H' A', Go cf m H m' H' A' → Post cf W (rA cf) m' H' σ0 Q (cont A') → N H') :
    t v (wipe σ own) H fun σ2 H2 => wipe σ2 own = wipe σ own ∧ tt σ2 H2 fun b H3 => if b = true then te σ2 H3 fun y H4 => ∃ acc, H4 D = some (.lst acc) ∧ acc.length < sizeLine ∧ N (upd H4 D (.lst (acc ++ [y]))) else N H3 := by
  refine hg ρ _ m H A x v _ S L r ?_
  unfold turnC at P
  cases e : g x ρ A with
  | nx ρ1 A1 =>
    rw [e] at P
    simp only at P
    intro m1 H1 σ1 g1 l1 hw
    have idem : wipe (wipe σ own) own = wipe σ own := by
      apply List.ext_getElem?
      intro j
      rw [wipe_get, wipe_get]
      by_cases hj : j ∈ own
      · rw [if_pos hj, if_pos hj]
        cases σ[j]? <;> rfl
      · rw [if_neg hj, if_neg hj]
    refine ⟨(hw own hown).trans idem, ?_⟩
    have P1 := Post.mono g1 P
    refine ht ρ1 σ1 m1 H1 A1 _ g1.sim l1 ?_
    cases e2 : ft ρ1 A1 with
    | ok b A2 =>
      rw [e2] at P1
      intro m2 H2 b' g2 rb
      cases (show b = b' from rb)
      have P2 := Post.mono g2 P1
      cases b with
      | false => exact hN m2 H2 A2 (g1.trans g2) P2
      | true =>
        simp only [if_true] at P2 ⊢
        unfold pushC at P2
        refine he ρ1 σ1 m2 H2 A2 _ g2.sim (l1.mono g2.pre g2.fz) ?_
        cases e3 : fe ρ1 A2 with
        | ok y A3 =>
          rw [e3] at P2
          intro m3 H3 u g3 ru
          simp only at P2
          split at P2
          · rename_i acc ea
            obtain ⟨hl, P2⟩ := post_if P2
            have hk3 : m3[k]? = some D := ((g1.trans g2).trans g3).pre _ _ hk
            obtain ⟨vs, h1, r1⟩ := g3.sim.at_ k D _ hk3 ea
            have g4 := go_put (ho := .lst (vs ++ [u])) (o := .lst (acc ++ [y])) g3.sim hk3 h1 trivial ⟨_, upd_same, ((RelAs.app r1 (.cons ru .nil)).mono (Pre.refl m3) (fz_main h1 trivial))⟩
            exact ⟨vs, h1, by rw [← r1.length]; exact big_lt hl, hN m3 _ _ (((g1.trans g2).trans g3).trans g4) (Post.mono (g3.trans g4) P2)⟩
          · exact P2.elim
        | exc x2 A3 => rw [e3] at P2; exact P2.elim
        | er => rw [e3] at P2; exact P2.elim
    | exc x2 A2 => rw [e2] at P1; exact P1.elim
    | er => rw [e2] at P1; exact P1.elim
  | rt _ _ => rw [e] at P; exact P.elim
  | bk _ _ => rw [e] at P; exact P.elim
  | ct _ _ => rw [e] at P; exact P.elim
  | exc _ _ _ => rw [e] at P; exact P.elim
  | er => rw [e] at P; exact P.elim
theorem ok_comp {wi : TI} {t : TG} {tt : TT} {te : TE} {fi : FI} {g : FG} {ft : FT} {fe : FE} {ts own : List Nat} (hi : IOk cf W wi fi) (hg : GOk cf W0 t g ts) (ht : TOk cf W0 tt ft) (he : EOk cf W0 te fe) (hown : ∀ i ∈ ts, i ∈ own) : EOk cf W (tLc wi t tt te own) (fComp fi g ft fe own) := fun ρ σ m H A Q S L P => by
  refine hi ρ σ m H A _ S L ?_
  unfold fComp at P
  cases e : fi ρ A with
  | er => rw [e] at P; exact P.elim
  | exc x A1 => rw [e] at P; exact P
  | ok s A1 =>
    rw [e] at P
    intro m1 H1 J g1 sr
    have P1 := Post.mono g1 P
    have L1 := (L.mono g1.pre g1.fz).wipe own
    intro D hD
    have gN : Go cf m1 H1 (m1 ++ [D]) (upd H1 D (.lst [])) (A1 ++ [.lst []]) := go_new g1.sim hD ⟨[], upd_same, .nil⟩
    have hk : (m1 ++ [D])[A1.length]? = some D := by
      rw [← g1.sim.len, List.getElem?_append_right (Nat.le_refl _)]
      simp
    have sr1 := SrcR.mono gN sr
    have L2' := L1.mono gN.pre gN.fz
    have P2 := Post.mono gN P1
    cases s with
    | fix xs =>
      refine ⟨fun i n H' => n = xs.length - i ∧ i ≤ xs.length ∧ ∃ m' A', Go cf (m1 ++ [D]) (upd H1 D (.lst [])) m' H' A' ∧ Post cf W (rA cf) m' H' σ Q (compF g ft fe A1.length (wipeR ρ own) (xs.drop i) A'), ⟨_, rfl, Nat.zero_le _, _, _, Go.refl gN.sim, P2⟩, ?_⟩
      rintro i n H2 ⟨rfl, hi, m2, A2, g2, P3⟩
      obtain ⟨go, stop, yld⟩ := sr1 m2 H2 A2 g2
      by_cases hlt : i < xs.length
      · refine .inr ⟨go i hlt, fun H' => i + 1 ≤ xs.length ∧ ∃ m' A', Go cf (m1 ++ [D]) (upd H1 D (.lst [])) m' H' A' ∧ Post cf W (rA cf) m' H' σ Q (compF g ft fe A1.length (wipeR ρ own) (xs.drop (i + 1)) A'), fun H' h => ⟨xs.length - (i + 1), by omega, rfl, h⟩, fun x H3 y => ?_⟩
        obtain ⟨y, hy, g3, r3⟩ := yld i x H3 y hlt
        obtain ⟨_, hyy⟩ := List.getElem?_eq_some_iff.mp hy
        rw [List.drop_eq_getElem_cons hlt, hyy] at P3
        exact turnC_ok hg ht he hown g3.sim (L2'.mono (g2.trans g3).pre (g2.trans g3).fz) ((g2.trans g3).pre _ _ hk) r3 (Post.mono g3 P3) fun m' H' A' g4 P4 => ⟨hlt, m', A', (g2.trans g3).trans g4, P4⟩
      · have e : i = xs.length := by omega
        subst e
        rw [List.drop_length] at P3
        exact .inl ⟨stop, P3 m2 H2 _ (Go.refl g2.sim) (.obj (g2.pre _ _ hk))⟩
    | live n f =>
      refine ⟨fun i c H' => ∃ m' A', Go cf (m1 ++ [D]) (upd H1 D (.lst [])) m' H' A' ∧ Post cf W (rA cf) m' H' σ Q (compL g ft fe A1.length (wipeR ρ own) n f c i A'), ⟨fuel, _, _, Go.refl gN.sim, P2⟩, ?_⟩
      rintro i c H2 ⟨m2, A2, g2, P3⟩
      cases c with
      | zero => exact P3.elim
      | succ c =>
        unfold compL at P3
        split at P3
        · rename_i xs ex
          obtain ⟨go, stop, yld⟩ := sr1 m2 H2 A2 xs g2 ex
          split at P3
          · rename_i x0 hx0
            obtain ⟨hlt, _⟩ := List.getElem?_eq_some_iff.mp hx0
            refine .inr ⟨go i hlt, fun H' => ∃ m' A', Go cf (m1 ++ [D]) (upd H1 D (.lst [])) m' H' A' ∧ Post cf W (rA cf) m' H' σ Q (compL g ft fe A1.length (wipeR ρ own) n f c (i + 1) A'), fun H' h => ⟨c, Nat.lt_succ_self c, h⟩, fun x H3 y => ?_⟩
            obtain ⟨y, hy, g3, r3⟩ := yld i x H3 y
            rw [hx0] at hy
            cases hy
            exact turnC_ok hg ht he hown g3.sim (L2'.mono (g2.trans g3).pre (g2.trans g3).fz) ((g2.trans g3).pre _ _ hk) r3 (Post.mono g3 P3) fun m' H' A' g4 P4 => ⟨m', A', (g2.trans g3).trans g4, P4⟩
          · rename_i hx0
            exact .inl ⟨stop i (List.getElem?_eq_none_iff.mp hx0), P3 m2 H2 _ (Go.refl g2.sim) (.obj (g2.pre _ _ hk))⟩
        · exact P3.elim
theorem c_comp {elt tg iter : Expr} {ifs : List Expr} {scope : Scope} {pos : Pos} {fi : FI} {g : FG} {ft : FT} {fe : FE} {ts : List Nat} (own : List (Str × Nat)) (hc : X.calm = true) (hN : X.N.Nodup) (hi : CI cf X W tg iter fi) (ok : BlkOk X.N X.env.scope scope own)
    (hg : ∀ (s : Shared) (H : Hp) (C : Addr) (cl : List (Str × Addr)) (fp : List Addr), CG cf (X.blk s H scope (compEnvC scope cl C X.env) fp) W0 tg g ts) (ht : ∀ (s : Shared) (H : Hp) (C : Addr) (cl : List (Str × Addr)) (fp : List Addr), CTs cf (X.blk s H scope (compEnvC scope cl C X.env) fp) W0 ifs ft)
    (he : ∀ (s : Shared) (H : Hp) (C : Addr) (cl : List (Str × Addr)) (fp : List Addr), CE cf (X.blk s H scope (compEnvC scope cl C X.env) fp) W0 elt fe) (hown : ∀ i ∈ ts, i ∈ own.map (·.2) := by decide) (hs : ∀ x, foldedSetIterable iter X.env x = pure x := by intro _; rfl) :
    CE cf X W (.ListComp elt [⟨tg, iter, ifs, 0⟩] scope pos) (fComp fi g ft fe (own.map (·.2))) := by
  obtain ⟨t, p, o⟩ := hi.ex
  exact ⟨_, pe_lc hc hN p ok (fun s H C cl fp => (hg s H C cl fp).pg) (fun s H C cl fp => (ht s H C cl fp).pe) (fun s H C cl fp => (he s H C cl fp).pe) hs, ok_comp o ok_G ok_F ok_F hown⟩
/-- name = [..] on one line, the name a local -/
theorem cs_setComp {y : Str} {py : Pos} {elt tg iter : Expr} {ifs : List Expr} {scope : Scope} {pos spos : Pos} {fi : FI} {g : FG} {ft : FT} {fe : FE} {ts : List Nat} (i : Nat) (own : List (Str × Nat)) (hc : X.calm = true) (hN : X.N.Nodup) (hi : CI cf X W tg iter fi) (ok : BlkOk X.N X.env.scope scope own)
    (hg : ∀ (s : Shared) (H : Hp) (C : Addr) (cl : List (Str × Addr)) (fp : List Addr), CG cf (X.blk s H scope (compEnvC scope cl C X.env) fp) W0 tg g ts) (ht : ∀ (s : Shared) (H : Hp) (C : Addr) (cl : List (Str × Addr)) (fp : List Addr), CTs cf (X.blk s H scope (compEnvC scope cl C X.env) fp) W0 ifs ft)
    (he : ∀ (s : Shared) (H : Hp) (C : Addr) (cl : List (Str × Addr)) (fp : List Addr), CE cf (X.blk s H scope (compEnvC scope cl C X.env) fp) W0 elt fe)
    (hsw : swapsWith (.ListComp elt [⟨tg, iter, ifs, 0⟩] scope pos) (some (.Name y py)) spos.line X.env = pure true) (hy : X.N[i]? = some y := by rfl) (hyl : X.env.scope.names.lookup y = some .local := by rfl) (hown : ∀ i ∈ ts, i ∈ own.map (·.2) := by decide) (hs : ∀ x, foldedSetIterable iter X.env x = pure x := by intro _; rfl) :
    CS cf X W (.Assign [.Name y py] (.ListComp elt [⟨tg, iter, ifs, 0⟩] scope pos) spos) (fSet i (fComp fi g ft fe (own.map (·.2)))) := by
  obtain ⟨t, p, o⟩ := hi.ex
  refine ⟨_, ps_setLc hc hN hy hyl hsw p ok (fun s H C cl fp => (hg s H C cl fp).pg) (fun s H C cl fp => (ht s H C cl fp).pe) (fun s H C cl fp => (he s H C cl fp).pe) hs, fun ρ σ m H A D S L P => ?_⟩
  refine (ok_comp (W := W) o ok_G ok_F ok_F hown).thenS S L P fun x v m1 H1 A1 _ g1 L1 r P1 => ?_
  exact P1 m1 H1 _ (Go.refl g1.sim) (L1.set i r)

/-! ### defs -/
abbrev FD := List AV → AH → Res AV
/-! what refers to the first n places alone -/
mutual
def cloV (n : Nat) : AV → Bool
  | .obj k => decide (k < n)
  | .tup xs => cloVs n xs
  | .non => true
  | .bl _ => true
  | .int _ => true
  | .str _ => true
  | .ty _ => true
  | .scr _ => true
def cloVs (n : Nat) : List AV → Bool
  | [] => true
  | x :: xs => cloV n x && cloVs n xs
end
def cloK {κ : Type} (n : Nat) : List (κ × AV) → Bool
  | [] => true
  | p :: ps => cloV n p.2 && cloK n ps
def cloF (n : Nat) : List (Option AV) → Bool
  | [] => true
  | some x :: xs => cloV n x && cloF n xs
  | none :: xs => cloF n xs
def cloO (n : Nat) : AO → Bool
  | .lst xs => cloVs n xs
  | .dK kvs => cloK n kvs
  | .dT kvs => cloK n kvs
  | .lk kvs => cloK n kvs
  | .ins _ fs => cloVs n fs
  | .slt _ fs => cloF n fs
  | .unk => true
def cloA (n : Nat) : AH → Bool
  | [] => true
  | o :: os => cloO n o && cloA n os
/-- what was made within a def and is not handed on is forgotten -/
def gcH (A : AH) (v : AV) (B : AH) : AH := if (cloV A.length v && cloA A.length (B.take A.length)) = true then B.take A.length else B
def runDef (n : Nat) (f : FS) : FD := fun as A => match f (as.map some ++ List.replicate (n - as.length) none) A with
  | .rt v A' => .ok v (gcH A v A')
  | .nx _ A' => .ok .non (gcH A .non A')
  | .exc e _ A' => .exc e A'
  | _ => .er
/-- the same, nothing is forgotten -/
def runDef0 (n : Nat) (f : FS) : FD := fun as A => match f (as.map some ++ List.replicate (n - as.length) none) A with
  | .rt v A' => .ok v A'
  | .nx _ A' => .ok .non A'
  | .exc e _ A' => .exc e A'
  | _ => .er
mutual
theorem RelA.less {K : PySem.W.Frag} {m m1 : List Addr} {H : Hp} (p : Pre m m1) : ∀ {x : AV} {v : V}, RelA K m1 H x v → cloV m.length x = true → RelA K m H x v
  | _, _, .non, _ => .non
  | _, _, .bl b, _ => .bl b
  | _, _, .int i, _ => .int i
  | _, _, .str x, _ => .str x
  | _, _, .ty x, _ => .ty x
  | _, _, .scr h, _ => .scr h
  | _, _, .obj (n := n) (a := a) h, c => .obj (by
      rw [cloV, decide_eq_true_eq] at c
      have e : m[n]? = some m[n] := List.getElem?_eq_getElem c
      have := p _ _ e
      rw [h] at this
      rw [e, this])
  | _, _, .tup h r, c => .tup h (RelAs.less p r (by rw [cloV] at c; exact c))
theorem RelAs.less {K : PySem.W.Frag} {m m1 : List Addr} {H : Hp} (p : Pre m m1) : ∀ {xs : List AV} {vs : List V}, RelAs K m1 H xs vs → cloVs m.length xs = true → RelAs K m H xs vs
  | _, _, .nil, _ => .nil
  | _, _, .cons h t, c => by
    rw [cloVs, Bool.and_eq_true] at c
    exact .cons (RelA.less p h c.1) (RelAs.less p t c.2)
end
theorem RelKV.less {κ : Type} {K : PySem.W.Frag} {m m1 : List Addr} {H : Hp} (p : Pre m m1) : ∀ {xs : List (κ × AV)} {vs : List (κ × V)}, RelKV K m1 H xs vs → cloK m.length xs = true → RelKV K m H xs vs
  | _, _, .nil, _ => .nil
  | _, _, .cons h t, c => by
    rw [cloK, Bool.and_eq_true] at c
    exact .cons ⟨h.1, h.2.less p c.1⟩ (RelKV.less p t c.2)
theorem RelOs.less {K : PySem.W.Frag} {m m1 : List Addr} {H : Hp} (p : Pre m m1) : ∀ {xs : List (Option AV)} {vs : List (Option V)}, RelOs K m1 H xs vs → cloF m.length xs = true → RelOs K m H xs vs
  | _, _, .nil, _ => .nil
  | some _ :: _, some _ :: _, .cons h t, c => by
    rw [cloF, Bool.and_eq_true] at c
    exact .cons (RelA.less p h c.1) (RelOs.less p t c.2)
  | none :: _, none :: _, .cons h t, c => by
    rw [cloF] at c
    exact .cons h (RelOs.less p t c)
  | some _ :: _, none :: _, .cons h _, _ => h.elim
  | none :: _, some _ :: _, .cons h _, _ => h.elim
theorem ObjS.less {m m1 : List Addr} {H : Hp} {a : Addr} {o : AO} (p : Pre m m1) (h : ObjS cf m1 H a o) (c : cloO m.length o = true) : ObjS cf m H a o := by
  cases o with
  | lst xs => obtain ⟨vs, e, r⟩ := h; exact ⟨vs, e, r.less p c⟩
  | dK xs => obtain ⟨vs, e, r⟩ := h; exact ⟨vs, e, r.less p c⟩
  | dT xs => obtain ⟨vs, e, r⟩ := h; exact ⟨vs, e, r.less p c⟩
  | ins k fs => obtain ⟨dx, vs, e, l, r⟩ := h; exact ⟨dx, vs, e, l, r.less p c⟩
  | slt k fs => obtain ⟨dx, vs, ne, h, r⟩ := h; exact ⟨dx, vs, ne, h, r.less p c⟩
  | lk kvs => obtain ⟨o, vs, e, r⟩ := h; exact ⟨o, vs, e, r.less p c⟩
  | unk => exact h
theorem cloA_at : ∀ {n : Nat} {A : AH} {i : Nat} {o : AO}, cloA n A = true → A[i]? = some o → cloO n o = true
  | _, [], _, _, _, e => by simp at e
  | _, _ :: _, 0, _, c, e => by
    rw [cloA, Bool.and_eq_true] at c
    simp at e
    subst e
    exact c.1
  | _, _ :: _, i + 1, o, c, e => by
    rw [cloA, Bool.and_eq_true] at c
    exact cloA_at c.2 (by simpa using e)
/-- what is forgotten is not missed -/
theorem gc_ok {m m1 : List Addr} {H H1 : Hp} {A B : AH} {v : AV} {u : V} (S : Sim cf m H A) (g : Go cf m H m1 H1 B) (r : RelA cf.K m1 H1 v u) : ∃ m2, Go cf m H m2 H1 (gcH A v B) ∧ RelA cf.K m2 H1 v u := by
  unfold gcH
  split
  · rename_i c
    rw [Bool.and_eq_true, ← S.len] at c
    refine ⟨m, ⟨Pre.refl m, g.fz, ?_, S.nd, fun n a o hm hA => ?_⟩, r.less g.pre c.1⟩
    · rw [List.length_take, ← S.len]
      by_cases hl : m.length ≤ B.length
      · exact (Nat.min_eq_left hl).symm
      · exfalso
        have h1 := g.sim.len
        have hlt : B.length < m.length := by omega
        have e : m[B.length]? = some m[B.length] := List.getElem?_eq_getElem hlt
        have := g.pre _ _ e
        obtain ⟨q, _⟩ := List.getElem?_eq_some_iff.mp this
        omega
    · have hlt : n < m.length := (List.getElem?_eq_some_iff.mp hm).1
      have hB : B[n]? = some o := by
        rw [List.getElem?_take, if_pos (by rw [← S.len]; exact hlt)] at hA
        exact hA
      exact (g.sim.at_ n a o (g.pre _ _ hm) hB).less g.pre (cloA_at c.2 (by rw [← S.len] at hA; exact hA))
  · exact ⟨m1, g, r⟩
def spOf (cf : Cfg) (n : Nat) (G : FD) : Sp := fun vs H Q E => ∃ m A as, Sim cf m H A ∧ RelAs cf.K m H as vs ∧ as.length = n ∧ Post cf (WD E) (rA cf) m H [] Q (G as A)
theorem loc_start {m : List Addr} {H : Hp} {as : List AV} {vs : List V} (r : RelAs cf.K m H as vs) (n : Nat) : Loc cf.K m H (as.map some ++ List.replicate (n - as.length) none) (vs.map some ++ List.replicate (n - vs.length) none) := by
  refine ⟨by simp [r.length], fun i x e => ?_⟩
  by_cases h : i < as.length
  · rw [List.getElem?_append_left (by simpa using h), List.getElem?_map] at e
    cases q : as[i]? with
    | none => rw [q] at e; cases e
    | some y =>
      rw [q] at e
      cases e
      obtain ⟨v, h1, h2⟩ := r.get q
      exact ⟨v, by rw [List.getElem?_append_left (by simpa [← r.length] using h), List.getElem?_map, h1]; rfl, h2⟩
  · rw [List.getElem?_append_right (by simpa using h), List.getElem?_replicate] at e
    split at e <;> cases e
theorem ok_def {P : Program} {w : World} {mg : Str → Option Value} {base : Heap} {x qual : Str} {st : Stmt} {f : Addr} {fd : FuncData} {N ps : List Str} {k : Nat} {fs : FS} {G : FD} (hG : G = runDef N.length fs ∨ G = runDef0 N.length fs) (F : Fun cf.K x qual st f fd) (S : FnScope N ps (defScope st))
    (hbody : ∀ (cdv : Value) (A : Around) (outer : List Env) (s : Shared) (H : Hp) (E : XK), Room k (A.deeper (envOfC qual (defScope st) s.heap.objs.size f cdv)) →
      CB cf (cxOf (L2.CX P w) P w cf.K mg base N qual (defScope st) f cdv A outer s H E) (WD E) (defBody st) fs) : FnOk P w cf.K mg base (L2.CX P w) (k + 1) f fd ps (spOf cf ps.length G) := by
  refine F.okX S (fun vs H Q E h => ?_) (fun cdv A outer s H vs Q E hr h => ?_)
  · obtain ⟨m, A, as, _, r, hl, _⟩ := h
    rw [← r.length, hl]
  · obtain ⟨t, p, o⟩ := (hbody cdv A outer s H E hr).ex
    obtain ⟨m, A1, as, S1, r, hl, P1⟩ := h
    refine ⟨t, p, o _ _ m H A1 _ S1 (loc_start r N.length) ?_⟩
    rcases hG with rfl | rfl
    · unfold runDef at P1
      revert P1
      cases fs (as.map some ++ List.replicate (N.length - as.length) none) A1 with
      | nx ρ' A' => exact fun P1 m' H' σ' g l => let ⟨m2, g2, r2⟩ := gc_ok S1 g .non; P1 m2 H' .non g2 r2
      | rt v A' => exact fun P1 m' H' u g r => let ⟨m2, g2, r2⟩ := gc_ok S1 g r; P1 m2 H' u g2 r2
      | bk _ _ => exact fun P1 => P1.elim
      | ct _ _ => exact fun P1 => P1.elim
      | exc e ρ' A' => exact fun P1 m' H' σ' cls d g l x => P1 m' H' cls d g x
      | er => exact fun P1 => P1.elim
    · unfold runDef0 at P1
      revert P1
      cases fs (as.map some ++ List.replicate (N.length - as.length) none) A1 with
      | nx ρ' A' => exact fun P1 m' H' σ' g l => P1 m' H' .non g .non
      | rt v A' => exact fun P1 m' H' u g r => P1 m' H' u g r
      | bk _ _ => exact fun P1 => P1.elim
      | ct _ _ => exact fun P1 => P1.elim
      | exc e ρ' A' => exact fun P1 m' H' σ' cls d g l x => P1 m' H' cls d g x
      | er => exact fun P1 => P1.elim
def fCall (n : Nat) (G : FD) (f : FA) : FE := fun ρ A => (f ρ A).bind fun as A => if as.length = n then G as A else .er
theorem post_w {m : List Addr} {H : Hp} {σ : L2.St} {Q : VK} {r : Res AV} (P : Post cf W (rA cf) m H σ Q r) : Post cf (WD (WE W σ)) (rA cf) m H [] Q r := by
  cases r with
  | ok _ _ => exact P
  | exc _ _ => exact P
  | er => exact P
theorem ok_call {n : Nat} {G : FD} {t : TA} {f : FA} (h : AOk cf W t f) : EOk cf W (tCallS (spOf cf n G) (WE W) t) (fCall n G f) := fun ρ σ m H A Q S L P => by
  refine h.then S L P fun as vs m1 H1 A1 _ g1 L1 r P1 => ?_
  obtain ⟨hl, P1⟩ := post_if P1
  exact ⟨m1, A1, as, g1.sim, r, hl, post_w P1⟩
theorem c_call {x : Str} {p pos : Pos} {e : Expr} {es : List Expr} {k n : Nat} {fa : Addr} {fd : FuncData} {ps : List Str} {G : FD} {f : FA} (F : FnOk X.prog X.w X.K X.mg X.base (L2.CX X.prog X.w) k fa fd ps (spOf cf n G)) (hr : Room k X.A) (hm : X.mg x = some (.ref fa)) (hk : PySem.W.keepIn X.K (.ref fa) = true)
    (hb : Binds X.K fd ps []) (tk : Takes X W) (ha : CA cf X W (e :: es) f) (hg : Gl X x := by rfl) (hdb : (x == ("__debug__" : Str)) = false := by decide) (he : starEach (e :: es) X.env = (false, eval e X.env) :: starEach es X.env := by rfl) (hpl : (backTo pos (starEach es X.env)).any (·.1) = false := by rfl) :
    CE cf X W (.Call (.Name x p) (e :: es) [] pos) (fCall n G f) := by
  obtain ⟨t, p, o⟩ := ha.ex
  exact ⟨_, pe_callS F hr hg hm hk hb (fun σ => passAt tk σ) p hdb he hpl, ok_call o⟩

/-! ### built-in calls -/
def CbOk (cf : Cfg) (r : List V → Hp → VK → Prop) (g : FD) : Prop := ∀ (W : WX) (m : List Addr) (H : Hp) (A : AH) (σ : L2.St) (Q : VK) (xs : List AV) (vs : List V), Sim cf m H A → RelAs cf.K m H xs vs → Post cf W (rA cf) m H σ Q (g xs A) → r vs H Q
def fCb (g : FD) (f : FA) : FE := fun ρ A => (f ρ A).bind fun xs A => g xs A
theorem ok_cb {r : List V → Hp → VK → Prop} {g : FD} {t : TA} {f : FA} (hr : CbOk cf r g) (h : AOk cf W t f) : EOk cf W (tCB r t) (fCb g f) := fun ρ σ m H A Q S L P => by
  refine h.then S L P fun xs vs m1 H1 A1 _ g1 L1 r P1 => ?_
  exact hr W m1 H1 A1 σ Q xs vs g1.sim r P1
theorem c_callB {x : Str} {id : String} {p pos : Pos} {e : Expr} {es : List Expr} {r : List V → Hp → VK → Prop} {g : FD} {f : FA} (hc : CallR X (.builtin id) r) (hr : CbOk cf r g) (hm : X.mg x = none) (hv : bootBuiltins x = some (.builtin id)) (ha : CA cf X W (e :: es) f) (hg : Gl X x := by rfl) (hn : x ≠ "__name__" := by decide) (hdb : (x == ("__debug__" : Str)) = false := by decide)
    (he : starEach (e :: es) X.env = (false, eval e X.env) :: starEach es X.env := by rfl) (hpl : (backTo pos (starEach es X.env)).any (·.1) = false := by rfl) : CE cf X W (.Call (.Name x p) (e :: es) [] pos) (fCb g f) := by
  obtain ⟨t, p, o⟩ := ha.ex
  exact ⟨_, pe_callB hc hg hm hv p hn hdb he hpl, ok_cb hr o⟩
theorem c_callTy {x : Str} {T : String} {p pos : Pos} {e : Expr} {es : List Expr} {r : List V → Hp → VK → Prop} {g : FD} {f : FA} (hc : CallR X (.type T) r) (hr : CbOk cf r g) (hm : X.mg x = none) (hv : bootBuiltins x = some (.type T)) (ha : CA cf X W (e :: es) f) (hg : Gl X x := by rfl) (hn : x ≠ "__name__" := by decide) (hdb : (x == ("__debug__" : Str)) = false := by decide)
    (he : starEach (e :: es) X.env = (false, eval e X.env) :: starEach es X.env := by rfl) (hpl : (backTo pos (starEach es X.env)).any (·.1) = false := by rfl) : CE cf X W (.Call (.Name x p) (e :: es) [] pos) (fCb g f) := by
  obtain ⟨t, p, o⟩ := ha.ex
  exact ⟨_, pe_callTy hc hg hm hv p hn hdb he hpl, ok_cb hr o⟩
theorem RelAs.one {K : PySem.W.Frag} {m : List Addr} {H : Hp} {x : AV} {vs : List V} (r : RelAs K m H [x] vs) : ∃ v, vs = [v] ∧ RelA K m H x v := by
  cases r with
  | cons a b => cases b; exact ⟨_, rfl, a⟩
theorem RelAs.two {K : PySem.W.Frag} {m : List Addr} {H : Hp} {x y : AV} {vs : List V} (r : RelAs K m H [x, y] vs) : ∃ v w, vs = [v, w] ∧ RelA K m H x v ∧ RelA K m H y w := by
  cases r with
  | cons a b =>
    obtain ⟨w, rfl, q⟩ := b.one
    exact ⟨_, w, rfl, a, q⟩
def gAbs : FD := fun xs A => match xs with
  | [.int i] => .ok (.int (if i < 0 then -i else i)) A
  | _ => .er
theorem ok_abs : CbOk cf (fun xs H Q => ∃ i, xs = [.int i] ∧ Q (.int (if i < 0 then -i else i)) H) gAbs := fun W m H A σ Q xs vs S r P => by
  unfold gAbs at P
  split at P
  · rename_i i
    obtain ⟨v, rfl, q⟩ := r.one
    exact ⟨i, by rw [q.to_int], P m H _ (Go.refl S) (.int _)⟩
  · exact P.elim
def gMax2 : FD := fun xs A => match xs with
  | [.int i, .int j] => .ok (.int (if j > i then j else i)) A
  | _ => .er
def gMin2 : FD := fun xs A => match xs with
  | [.int i, .int j] => .ok (.int (if j < i then j else i)) A
  | _ => .er
theorem ok_max2 : CbOk cf (fun xs H Q => ∃ i j, xs = [.int i, .int j] ∧ Q (.int (if j > i then j else i)) H) gMax2 := fun W m H A σ Q xs vs S r P => by
  unfold gMax2 at P
  split at P
  · rename_i i j
    obtain ⟨v, w, rfl, q1, q2⟩ := r.two
    exact ⟨i, j, by rw [q1.to_int, q2.to_int], P m H _ (Go.refl S) (.int _)⟩
  · exact P.elim
theorem ok_min2 : CbOk cf (fun xs H Q => ∃ i j, xs = [.int i, .int j] ∧ Q (.int (if j < i then j else i)) H) gMin2 := fun W m H A σ Q xs vs S r P => by
  unfold gMin2 at P
  split at P
  · rename_i i j
    obtain ⟨v, w, rfl, q1, q2⟩ := r.two
    exact ⟨i, j, by rw [q1.to_int, q2.to_int], P m H _ (Go.refl S) (.int _)⟩
  · exact P.elim
/-- int(n), int(flag) -/
def gInt : FD := fun xs A => match xs with
  | [.int i] => .ok (.int i) A
  | [.bl k] => .ok (.int (if k then 1 else 0)) A
  | _ => .er
theorem ok_int : CbOk cf (fun xs H Q => (∃ i, xs = [.int i] ∧ Q (.int i) H) ∨ ∃ k, xs = [.bl k] ∧ Q (.int (if k then 1 else 0)) H) gInt := fun W m H A σ Q xs vs S r P => by
  unfold gInt at P
  split at P
  · rename_i i
    obtain ⟨v, rfl, q⟩ := r.one
    exact .inl ⟨i, by rw [q.to_int], P m H _ (Go.refl S) (.int _)⟩
  · rename_i i
    obtain ⟨v, rfl, q⟩ := r.one
    exact .inr ⟨i, by rw [q.to_bl], P m H _ (Go.refl S) (.int _)⟩
  · exact P.elim
/-! len -/
abbrev rLenAll (K : PySem.W.Frag) : List V → Hp → VK → Prop := fun xs H Q => (∃ p ys, xs = [.ref p] ∧ (SqL K H p ys ∨ SqT K H p ys) ∧ Q (.int ys.length) H) ∨ ((∃ z, xs = [.str z] ∧ z.length ≤ sizeLine ∧ Q (.int z.length) H) ∨
  ((∃ a kvs, xs = [V.ref a] ∧ H a = some (.dK kvs) ∧ Q (.int kvs.length) H) ∨ rLenT xs H Q))
theorem call_lenAll : CallR X (.builtin "len") (rLenAll X.K) := call_len_seq.or (call_len_str.or (call_lenD.or call_len_dT))
def gLen : FD := fun xs A => match xs with
  | [.str z] => if z.length < big then .ok (.int (z.length : Nat)) A else .er
  | [x] => match seqAt A x with
    | some ys => .ok (.int (ys.length : Nat)) A
    | none => match x with
      | .obj n => match A[n]? with
        | some (.dK kvs) => .ok (.int (kvs.length : Nat)) A
        | some (.dT kvs) => .ok (.int (kvs.length : Nat)) A
        | _ => .er
      | _ => .er
  | _ => .er
theorem paired_len {α β : Type} {R : α → β → Prop} {xs : List α} {ys : List β} (h : Paired R xs ys) : xs.length = ys.length := h.length
theorem ok_len : CbOk cf (rLenAll cf.K) gLen := fun W m H A σ Q xs vs S r P => by
  unfold gLen at P
  split at P
  · rename_i z
    obtain ⟨hl, P⟩ := post_if P
    obtain ⟨v, rfl, q⟩ := r.one
    exact .inr (.inl ⟨z, by rw [q.to_str], big_le hl, P m H _ (Go.refl S) (.int _)⟩)
  · rename_i x _
    obtain ⟨v, rfl, q⟩ := r.one
    split at P
    · rename_i ys e
      obtain ⟨a, ws, rfl, hs, r2⟩ := seqAt_ok S q e
      exact .inl ⟨a, ws, rfl, hs, P m H _ (Go.refl S) (by rw [← r2.length]; exact .int _)⟩
    · split at P
      · rename_i n _
        split at P
        · rename_i kvs e
          obtain ⟨a, rfl, _, ws, h1, r2⟩ := S.obj q e
          exact .inr (.inr (.inl ⟨a, ws, rfl, h1, P m H _ (Go.refl S) (by rw [← paired_len r2]; exact .int _)⟩))
        · rename_i kvs e
          obtain ⟨a, rfl, _, ws, h1, r2⟩ := S.obj q e
          exact .inr (.inr (.inr ⟨a, ws, rfl, h1, P m H _ (Go.refl S) (by rw [← paired_len r2]; exact .int _)⟩))
        · exact P.elim
      · exact P.elim
  · exact P.elim
/-! tuple(x), list(x) -/
def gTuple : FD := fun xs A => match xs with
  | [.tup ys] => .ok (.tup ys) A
  | [x] => match seqAt A x with
    | some ys => .ok (.tup ys) A
    | none => .er
  | _ => .er
theorem ok_tuple : CbOk cf (fun xs H Q => ∃ p ys, xs = [.ref p] ∧ ((SqL cf.K H p ys ∧ ∀ l, H l = none → Q (.ref l) (upd H l (.tup ys))) ∨ (SqT cf.K H p ys ∧ Q (.ref p) H))) gTuple := fun W m H A σ Q xs vs S r P => by
  unfold gTuple at P
  split at P
  · rename_i ys
    obtain ⟨v, rfl, q⟩ := r.one
    obtain ⟨a, ws, rfl, h1, r2⟩ := q.to_tup
    exact ⟨a, ws, rfl, .inr ⟨SqT.of h1, P m H _ (Go.refl S) q⟩⟩
  · rename_i x hx
    obtain ⟨v, rfl, q⟩ := r.one
    split at P
    · rename_i ys e
      have hl : ∃ a ws, v = .ref a ∧ SqL cf.K H a ws ∧ RelAs cf.K m H ys ws := by
        cases x with
        | obj n =>
          obtain ⟨_, a, ws, _, e1, _, e3, r'⟩ := lstAt_ok S q (show lstAt A (.obj n) = some ys from e)
          exact ⟨a, ws, e1, SqL.of e3, r'⟩
        | scr ns =>
          cases e
          cases q with
          | scr h => exact ⟨_, _, rfl, h.sq, RelAs.ints ns⟩
        | tup zs => exact (hx zs rfl).elim
        | _ => cases e
      obtain ⟨a, ws, rfl, hs, r2⟩ := hl
      exact ⟨a, ws, rfl, .inl ⟨hs, fun p hp => new_tup S r2 P hp⟩⟩
    · exact P.elim
  · exact P.elim
def kA : Key → AV
  | .inl i => .int i
  | .inr x => .str x
theorem kA_rel {K : PySem.W.Frag} {m : List Addr} {H : Hp} (k : Key) : RelA K m H (kA k) (kV k) := by
  cases k with
  | inl i => exact .int i
  | inr x => exact .str x
theorem kAs_rel {K : PySem.W.Frag} {m : List Addr} {H : Hp} : ∀ ks : List Key, RelAs K m H (ks.map kA) (ks.map kV)
  | [] => .nil
  | k :: ks => .cons (kA_rel k) (kAs_rel ks)
def gList : FD := fun xs A => match xs with
  | [x] => match seqAt A x with
    | some ys => .ok (.obj A.length) (A ++ [.lst ys])
    | none => match x with
      | .obj n => match A[n]? with
        | some (.dK kvs) => .ok (.obj A.length) (A ++ [.lst (kvs.map fun kv => kA kv.1)])
        | some (.dT kvs) => .ok (.obj A.length) (A ++ [.lst (kvs.map fun kv => .tup (kv.1.map kA))])
        | _ => .er
      | _ => .er
  | _ => .er
abbrev rListAll (K : PySem.W.Frag) : List V → Hp → VK → Prop := fun xs H Q => (∃ p ys, xs = [.ref p] ∧ (SqL K H p ys ∨ SqT K H p ys) ∧ ∀ l, H l = none → Q (.ref l) (upd H l (.lst ys))) ∨ (rListD xs H Q ∨
  (∃ d kvs, xs = [V.ref d] ∧ Rd H d (.dT kvs) ∧ ∀ p bs, H p = none → IsKeys H kvs bs → Q (.ref p) (upd H p (.lst (bs.map V.ref)))))
theorem call_listAll (hc : X.calm = true) : CallR X (.type "list") (rListAll X.K) := call_list_of.or ((call_list_dK hc).or (call_list_dT hc))
end
end Dn

set_option maxRecDepth 100000
set_option maxHeartbeats 1000000
/-! Dn, part F: lists and dicts. -/
namespace Dn
open PySem L2 PyProof.Rows

section
variable {cf : Cfg} {X : Cx} {W : WX}
theorem keys_rel {m : List Addr} {H : Hp} : ∀ {kvs : List (List Key × AV)} {vs : List (List Key × V)} {bs : List Addr}, RelKV cf.K m H kvs vs → IsKeys H vs bs → RelAs cf.K m H (kvs.map fun kv => .tup (kv.1.map kA)) (bs.map V.ref)
  | _, _, _, .nil, .nil => .nil
  | (k, x) :: kvs, (k', v) :: vs, b :: bs, .cons r rs, .cons h hs => by
    obtain ⟨e, r⟩ := r
    cases (show k = k' from e)
    exact .cons (.tup h (kAs_rel k)) (keys_rel rs hs)
theorem keysK_rel {m : List Addr} {H : Hp} : ∀ {kvs : List (Key × AV)} {vs : List (Key × V)}, RelKV cf.K m H kvs vs → RelAs cf.K m H (kvs.map fun kv => kA kv.1) (vs.map fun kv => kV kv.1)
  | _, _, .nil => .nil
  | (k, x) :: kvs, (k', v) :: vs, .cons r rs => by
    obtain ⟨e, r⟩ := r
    cases (show k = k' from e)
    exact .cons (kA_rel k) (keysK_rel rs)
theorem vals_rel {κ : Type} {m : List Addr} {H : Hp} : ∀ {kvs : List (κ × AV)} {vs : List (κ × V)}, RelKV cf.K m H kvs vs → RelAs cf.K m H (kvs.map (·.2)) (vs.map (·.2))
  | _, _, .nil => .nil
  | (k, x) :: kvs, (k', v) :: vs, .cons r rs => .cons r.2 (vals_rel rs)
theorem ok_listAll : CbOk cf (rListAll cf.K) gList := fun W m H A σ Q xs vs S r P => by
  unfold gList at P
  split at P
  · rename_i x
    obtain ⟨v, rfl, q⟩ := r.one
    split at P
    · rename_i ys e
      obtain ⟨a, ws, rfl, hs, r2⟩ := seqAt_ok S q e
      exact .inl ⟨a, ws, rfl, hs, fun p hp => new_list S r2 P hp⟩
    · split at P
      · rename_i n _
        split at P
        · rename_i kvs e
          obtain ⟨a, rfl, _, ws, h1, r2⟩ := S.obj q e
          exact .inr (.inl ⟨a, ws, rfl, h1, fun p hp => new_list S (keysK_rel r2) P hp⟩)
        · rename_i kvs e
          obtain ⟨a, rfl, _, ws, h1, r2⟩ := S.obj q e
          exact .inr (.inr ⟨a, ws, rfl, .inl h1, fun p bs hp hk => new_list S (keys_rel r2 hk) P hp⟩)
        · exact P.elim
      · exact P.elim
  · exact P.elim
/-- list(range(..)) -/
def fListRg (fi : FI) : FE := fun ρ A => (fi ρ A).bind fun s A => match s with
  | .fix xs => .ok (.obj A.length) (A ++ [.lst xs])
  | _ => .er

/-! ### slices -/
abbrev FO := Rho → AH → Res (Option Int)
structure CO (cf : Cfg) (X : Cx) (W : WX) (e : Option Expr) (f : FO) : Prop where
  ex : ∃ t, PO X e t ∧ Ok cf W (fun _ _ a b => a = b) t f
def foNone : FO := fun _ A => .ok none A
def foSome (f : FE) : FO := fun ρ A => (f ρ A).bind fun x A => match x with
  | .int i => .ok (some i) A
  | _ => .er
theorem co_none : CO cf X W none foNone := ⟨_, po_none, fun ρ σ m H A Q S L P => P m H none (Go.refl S) rfl⟩
theorem co_some {e : Expr} {f : FE} (h : CE cf X W e f) : CO cf X W (some e) (foSome f) := by
  obtain ⟨t, p, o⟩ := h.ex
  refine ⟨_, po_some p, fun ρ σ m H A Q S L P => ?_⟩
  refine o.then S L P fun x v m1 H1 A1 e0 g1 L1 r P1 => ?_
  clear e0
  split at P1
  · rename_i i
    exact ⟨i, r.to_int, P1 m1 H1 _ (Go.refl g1.sim) rfl⟩
  · exact P1.elim
def cutA (xs : List AV) (lo hi : Option Int) : List AV := (xs.drop (HT.sIx xs.length 0 lo)).take (HT.sIx xs.length xs.length hi - HT.sIx xs.length 0 lo)
theorem cut_rel {m : List Addr} {H : Hp} {xs : List AV} {vs : List V} (r : RelAs cf.K m H xs vs) (lo hi : Option Int) : RelAs cf.K m H (cutA xs lo hi) (cutV vs lo hi) := by
  unfold cutA cutV
  rw [r.length]
  exact (r.drop _).take _
theorem cut_all {α : Type} (xs : List α) (lo hi : Option Int) (h : HT.sIx xs.length 0 lo = 0 ∧ HT.sIx xs.length xs.length hi = xs.length) : (xs.drop (HT.sIx xs.length 0 lo)).take (HT.sIx xs.length xs.length hi - HT.sIx xs.length 0 lo) = xs := by
  rw [h.1, h.2]
  simp
def fSlice (fa : FE) (fl fh : FO) : FE := fun ρ A => (fa ρ A).bind fun x A => (fl ρ A).bind fun lo A => (fh ρ A).bind fun hi A => match x with
  | .tup xs => .ok (.tup (cutA xs lo hi)) A
  | .str z => if z.length < big then .ok (.str (cutS z lo hi)) A else .er
  | _ => match seqAt A x with
    | some xs => .ok (.obj A.length) (A ++ [.lst (cutA xs lo hi)])
    | none => .er
abbrev rSlAll (K : PySem.W.Frag) : V → Option Int → Option Int → Hp → VK → Prop := fun x lo hi H Q => rSlA K x lo hi H Q ∨ (rSlS x lo hi H Q ∨ rSlL K x lo hi H Q)
theorem c_slice {e : Expr} {lo hi : Option Expr} {pos p2 : Pos} {fa : FE} {fl fh : FO} (hK : X.K = cf.K) (he : CE cf X W e fa) (hl : CO cf X W lo fl) (hh : CO cf X W hi fh) : CE cf X W (.Subscript e (.Slice lo hi none p2) pos) (fSlice fa fl fh) := by
  obtain ⟨t, p, o⟩ := he.ex
  obtain ⟨t1, p1, o1⟩ := hl.ex
  obtain ⟨t2, p2, o2⟩ := hh.ex
  refine ⟨_, pe_slice (sl_tupA.or (sl_str.or sl_list)) p p1 p2, fun ρ σ m H A Q S L P => ?_⟩
  refine o.then S L P fun x v m1 H1 A1 e1 g1 L1 r P1 => ?_
  refine o1.then g1.sim L1 P1 fun l l' m2 H2 A2 e2 g2 L2 rl P2 => ?_
  refine o2.then g2.sim L2 P2 fun u u' m3 H3 A3 e3 g3 L3 ru P3 => ?_
  clear e1 e2 e3
  cases (show l = l' from rl)
  cases (show u = u' from ru)
  have r3 : RelA cf.K m3 H3 x v := r.mono (g2.trans g3).pre (g2.trans g3).fz
  rw [hK]
  split at P3
  · rename_i xs
    obtain ⟨a, vs, rfl, h1, r4⟩ := r3.to_tup
    refine .inl ⟨a, vs, rfl, SqT.of h1, fun hw => ?_, fun _ p hp => new_tup g3.sim (cut_rel r4 l u) P3 hp⟩
    have e : cutA xs l u = xs := by
      unfold cutA
      exact cut_all xs l u (by rw [r4.length]; exact hw)
    rw [e] at P3
    exact P3 m3 H3 _ (Go.refl g3.sim) r3
  · rename_i z
    obtain ⟨hz, P3⟩ := post_if P3
    exact .inr (.inl ⟨z, r3.to_str, big_le hz, P3 m3 H3 _ (Go.refl g3.sim) (.str _)⟩)
  · rename_i hx1 hx2
    split at P3
    · rename_i xs e
      have hl : ∃ a ws, v = .ref a ∧ SqL cf.K H3 a ws ∧ RelAs cf.K m3 H3 xs ws := by
        cases x with
        | obj n =>
          obtain ⟨_, a, ws, _, e1, _, e3, r'⟩ := lstAt_ok g3.sim r3 (show lstAt A3 (.obj n) = some xs from e)
          exact ⟨a, ws, e1, SqL.of e3, r'⟩
        | scr ns =>
          cases e
          cases r3 with
          | scr h => exact ⟨_, _, rfl, h.sq, RelAs.ints ns⟩
        | tup zs => exact (hx1 zs rfl).elim
        | _ => cases e
      obtain ⟨a, ws, rfl, hs, r4⟩ := hl
      exact .inr (.inr ⟨a, ws, rfl, hs, fun p hp => new_list g3.sim (cut_rel r4 l u) P3 hp⟩)
    · exact P3.elim

/-! ### methods of lists -/
abbrev FM := AV → List AV → AH → Res AV
def MtOk (cf : Cfg) (r : V → List V → Hp → VK → Prop) (g : FM) : Prop := ∀ (W : WX) (m : List Addr) (H : Hp) (A : AH) (σ : L2.St) (Q : VK) (x : AV) (v : V) (xs : List AV) (vs : List V), Sim cf m H A → RelA cf.K m H x v → RelAs cf.K m H xs vs → Post cf W (rA cf) m H σ Q (g x xs A) → r v vs H Q
/-- what a method's object is: a list, a dict, a text -/
def isL (A : AH) : AV → Bool
  | .obj n => match A[n]? with
    | some (.lst _) => true
    | _ => false
  | _ => false
theorem isL_ok {m : List Addr} {H : Hp} {A : AH} {x : AV} {v : V} (S : Sim cf m H A) (r : RelA cf.K m H x v) (h : isL A x = true) : tyV cf.K "list" v H := by
  unfold isL at h
  split at h
  · split at h
    · rename_i e
      obtain ⟨a, rfl, _, vs, h1, _⟩ := S.obj r e
      exact .inl ⟨rfl, vs, SqL.of h1⟩
    · cases h
  · cases h
def isDk (A : AH) : AV → Bool
  | .obj n => match A[n]? with
    | some (.dK _) => true
    | some (.dT _) => true
    | _ => false
  | _ => false
theorem isDk_ok {m : List Addr} {H : Hp} {A : AH} {x : AV} {v : V} (S : Sim cf m H A) (r : RelA cf.K m H x v) (h : isDk A x = true) : tyV cf.K "dict" v H := by
  unfold isDk at h
  split at h
  · split at h
    · rename_i e
      obtain ⟨a, rfl, _, vs, h1, _⟩ := S.obj r e
      exact .inr (.inr (.inl ⟨rfl, .inl ⟨vs, h1⟩⟩))
    · rename_i e
      obtain ⟨a, rfl, _, vs, h1, _⟩ := S.obj r e
      exact .inr (.inr (.inl ⟨rfl, .inr ⟨vs, h1⟩⟩))
    · cases h
  · cases h
def isS (_ : AH) : AV → Bool
  | .str _ => true
  | _ => false
theorem isS_ok {m : List Addr} {H : Hp} {A : AH} {x : AV} {v : V} (S : Sim cf m H A) (r : RelA cf.K m H x v) (h : isS A x = true) : tyV cf.K "str" v H := by
  cases x with
  | str z =>
    rw [r.to_str]
    exact rfl
  | _ => cases h
def fMeth0 (ty : AH → AV → Bool) (g : FM) (fo : FE) : FE := fun ρ A => (fo ρ A).bind fun x A => if ty A x = true then g x [] A else .er
def fMeth (ty : AH → AV → Bool) (g : FM) (fo : FE) (fa : FA) : FE := fun ρ A => (fo ρ A).bind fun x A => if ty A x = true then (fa ρ A).bind fun xs A => g x xs A else .er
theorem c_bm0 {o : Expr} {name : Str} {apos cpos : Pos} {T id : String} {r : V → List V → Hp → VK → Prop} {ty : AH → AV → Bool} {g : FM} {fo : FE} (pa : PlainAttrs T) (slot : Slot T name id) (hty : typeOf (.builtin id) = pure (.type "method_descriptor")) (hm : MtR X id r) (hK : X.K = cf.K)
    (hT : ∀ {m H A x v}, Sim cf m H A → RelA cf.K m H x v → ty A x = true → tyV cf.K T v H) (hr : MtOk cf r g) (ho : CE cf X W o fo) (hbase : attributeBase o name X.env (eval o X.env) = eval o X.env := by rfl) (hline : (apos.endLine == cpos.line) = true := by rfl) :
    CE cf X W (.Call (.Attribute o name apos) [] [] cpos) (fMeth0 ty g fo) := by
  obtain ⟨t, p, q⟩ := ho.ex
  refine ⟨_, pe_bm0 pa slot hty hm p hbase hline, fun ρ σ m H A Q S L P => ?_⟩
  refine q.then S L P fun x v m1 H1 A1 _ g1 L1 r1 P1 => ?_
  obtain ⟨h1, P1⟩ := post_if P1
  rw [hK]
  exact ⟨hT g1.sim r1 h1, hr W m1 H1 A1 σ Q x v [] [] g1.sim r1 .nil P1⟩
theorem c_bm {o e : Expr} {es : List Expr} {name : Str} {apos cpos : Pos} {T id : String} {r : V → List V → Hp → VK → Prop} {ty : AH → AV → Bool} {g : FM} {fo : FE} {fa : FA} (pa : PlainAttrs T) (slot : Slot T name id) (hty : typeOf (.builtin id) = pure (.type "method_descriptor")) (hm : MtR X id r) (hK : X.K = cf.K)
    (hT : ∀ {m H A x v}, Sim cf m H A → RelA cf.K m H x v → ty A x = true → tyV cf.K T v H) (hr : MtOk cf r g) (ho : CE cf X W o fo) (ha : CA cf X W (e :: es) fa) (hbase : attributeBase o name X.env (eval o X.env) = eval o X.env := by rfl)
    (hfew : ((backTo cpos (starEach (e :: es) X.env)).all (fun x => !x.1) && (backToKw cpos (keywordEach [] X.env)).all (fun x => x.1.isSome)
      && decide ((e :: es).length + ([] : List Keyword).length + (if ([] : List Keyword).isEmpty then 0 else 1) < 30)) = true := by rfl)
    (hline : (apos.endLine == cpos.line) = true := by rfl) (hs : starEach (e :: es) X.env = (false, eval e X.env) :: starEach es X.env := by rfl) (hplain : (backTo cpos (starEach es X.env)).any (·.1) = false := by rfl) :
    CE cf X W (.Call (.Attribute o name apos) (e :: es) [] cpos) (fMeth ty g fo fa) := by
  obtain ⟨t, p, q⟩ := ho.ex
  obtain ⟨t2, p2, q2⟩ := ha.ex
  refine ⟨_, pe_bm pa slot hty hm p p2 hbase hfew hline hs hplain, fun ρ σ m H A Q S L P => ?_⟩
  refine q.then S L P fun x v m1 H1 A1 _ g1 L1 r1 P1 => ?_
  obtain ⟨h1, P1⟩ := post_if P1
  rw [hK]
  refine ⟨hT g1.sim r1 h1, ?_⟩
  refine q2.then g1.sim L1 P1 fun xs vs m2 H2 A2 _ g2 L2 r2 P2 => ?_
  exact hr W m2 H2 A2 σ Q x v xs vs g2.sim (RelA.mono g2.pre g2.fz r1) r2 P2
/-- the list at a place is changed -/
theorem put_list {m : List Addr} {H : Hp} {A : AH} {σ : L2.St} {Q : VK} {n : Nat} {a : Addr} {xs : List AV} {vs : List V} {x : AV} {v : V} {u : HO} (S : Sim cf m H A) (hm : m[n]? = some a) (hu : H a = some u) (mu : Mn u) (r : RelAs cf.K m H xs vs) (rx : RelA cf.K m H x v) (P : Post cf W (rA cf) m H σ Q (.ok x (A.set n (.lst xs)))) : Q v (upd H a (.lst vs)) := by
  exact P m _ _ (go_put S hm hu mu ⟨vs, upd_same, r.mono (Pre.refl m) (fz_main hu mu)⟩) (rx.mono (Pre.refl m) (fz_main hu mu))
def gAppend : FM := fun x ys A => match x, ys with
  | .obj n, [y] => match A[n]? with
    | some (.lst xs) => if xs.length < big then .ok .non (A.set n (.lst (xs ++ [y]))) else .er
    | _ => .er
  | _, _ => .er
theorem ok_append : MtOk cf rAppend gAppend := fun W m H A σ Q x v ys vs S rx ry P => by
  unfold gAppend at P
  split at P
  · rename_i n y
    split at P
    · rename_i xs e
      obtain ⟨hl, P⟩ := post_if P
      obtain ⟨a, rfl, hm, ws, h1, r⟩ := S.obj rx e
      obtain ⟨u, rfl, ru⟩ := ry.one
      exact ⟨a, ws, u, rfl, rfl, h1, by rw [← r.length]; exact big_lt hl, put_list S hm h1 trivial (r.app (.cons ru .nil)) .non P⟩
    · exact P.elim
  · exact P.elim
def gExtend : FM := fun x ys A => match x, ys with
  | .obj n, [y] => match A[n]?, lstAt A y with
    | some (.lst xs), some zs => if xs.length + zs.length < big then .ok .non (A.set n (.lst (xs ++ zs))) else .er
    | _, _ => .er
  | _, _ => .er
theorem ok_extend : MtOk cf rExtend gExtend := fun W m H A σ Q x v ys vs S rx ry P => by
  unfold gExtend at P
  split at P
  · rename_i n y
    split at P
    · rename_i xs zs e e2
      obtain ⟨hl, P⟩ := post_if P
      obtain ⟨a, rfl, hm, ws, h1, r⟩ := S.obj rx e
      obtain ⟨u, rfl, ru⟩ := ry.one
      obtain ⟨_, b, us, _, rfl, _, h2, r2⟩ := lstAt_ok S ru e2
      exact ⟨a, b, ws, us, rfl, rfl, h1, h2, by rw [← r.length, ← r2.length]; exact big_le hl, put_list S hm h1 trivial (r.app r2) .non P⟩
    · exact P.elim
  · exact P.elim
theorem RelAs.dropLast {K : PySem.W.Frag} {m : List Addr} {H : Hp} {xs : List AV} {vs : List V} (r : RelAs K m H xs vs) : RelAs K m H xs.dropLast vs.dropLast := by
  rw [List.dropLast_eq_take, List.dropLast_eq_take, r.length]
  exact r.take _
def gPop : FM := fun x ys A => match x, ys with
  | .obj n, [] => match A[n]? with
    | some (.lst xs) => match xs[xs.length - 1]? with
      | some y => .ok y (A.set n (.lst xs.dropLast))
      | none => .er
    | _ => .er
  | _, _ => .er
theorem ok_pop : MtOk cf rPop gPop := fun W m H A σ Q x v ys vs S rx ry P => by
  unfold gPop at P
  split at P
  · rename_i n
    split at P
    · rename_i xs e
      split at P
      · rename_i y ey
        obtain ⟨a, rfl, hm, ws, h1, r⟩ := S.obj rx e
        obtain ⟨u, hu, ru⟩ := r.get ey
        cases ry
        exact ⟨a, ws, u, rfl, rfl, h1, by rw [← r.length]; exact hu, put_list S hm h1 trivial r.dropLast ru P⟩
      · exact P.elim
    · exact P.elim
  · exact P.elim
def gPopAt : FM := fun x ys A => match x, ys with
  | .obj n, [.int i] => match A[n]? with
    | some (.lst xs) => if rngB i = true then match seqIndex? i xs.length with
        | some k => match xs[k]? with
          | some y => .ok y (A.set n (.lst (xs.eraseIdx k)))
          | none => .er
        | none => .er
      else .er
    | _ => .er
  | _, _ => .er
theorem ok_popAt : MtOk cf rPopAt gPopAt := fun W m H A σ Q x v ys vs S rx ry P => by
  unfold gPopAt at P
  split at P
  · rename_i n i
    split at P
    · rename_i xs e
      obtain ⟨hi, P⟩ := post_if P
      split at P
      · rename_i k ek
        split at P
        · rename_i y ey
          obtain ⟨a, rfl, hm, ws, h1, r⟩ := S.obj rx e
          obtain ⟨u, hu, ru⟩ := r.get ey
          obtain ⟨z, rfl, rz⟩ := ry.one
          have hb := rng_ok hi
          exact ⟨a, ws, i, k, u, rfl, by rw [rz.to_int], h1, by omega, by omega, by rw [← r.length]; exact ek, hu, put_list S hm h1 trivial (r.erase k) ru P⟩
        · exact P.elim
      · exact P.elim
    · exact P.elim
  · exact P.elim

/-! ### xs[i] = e, d[k] = e -/
def keyOf : AV → Option Key
  | .int i => some (.inl i)
  | .str x => some (.inr x)
  | _ => none
theorem keyOf_ok {K : PySem.W.Frag} {m : List Addr} {H : Hp} {x : AV} {v : V} {k : Key} (r : RelA K m H x v) (h : keyOf x = some k) : v = kV k := by
  cases x with
  | int i =>
    cases h
    exact r.to_int
  | str i =>
    cases h
    exact r.to_str
  | _ => cases h
theorem keysOf_ok {K : PySem.W.Frag} {m : List Addr} {H : Hp} : ∀ {xs : List AV} {vs : List V} {ks : List Key}, RelAs K m H xs vs → mapO keyOf xs = some ks → vs = ks.map kV
  | [], _, ks, r, h => by
    cases h
    cases r
    rfl
  | x :: xs, _, ks, r, h => by
    obtain ⟨k, es, h1, h2, rfl⟩ := mapO_cons h
    cases r with
    | cons r1 r2 => rw [keyOf_ok r1 h1, keysOf_ok r2 h2]; rfl
def valA {κ : Type} [DecidableEq κ] (kvs : List (κ × AV)) (k : κ) : Option AV := (kvs.find? fun kv => decide (kv.1 = k)).map (·.2)
def putA {κ : Type} [DecidableEq κ] (kvs : List (κ × AV)) (k : κ) (v : AV) : List (κ × AV) :=
  if (kvs.any fun kv => decide (kv.1 = k)) = true then kvs.map (fun kv => if kv.1 = k then (kv.1, v) else kv) else kvs ++ [(k, v)]
theorem valA_cons {κ : Type} [DecidableEq κ] (p : κ × AV) (kvs : List (κ × AV)) (k : κ) : valA (p :: kvs) k = if p.1 = k then some p.2 else valA kvs k := by
  unfold valA
  rw [List.find?_cons]
  by_cases h : p.1 = k
  · simp [h]
  · simp [h]
theorem valA_ok {κ : Type} [DecidableEq κ] {m : List Addr} {H : Hp} (k : κ) : ∀ {kvs : List (κ × AV)} {vs : List (κ × V)}, RelKV cf.K m H kvs vs → (valA kvs k = none → valV vs k = none) ∧ ∀ x, valA kvs k = some x → ∃ v, valV vs k = some v ∧ RelA cf.K m H x v
  | _, _, .nil => ⟨fun _ => rfl, fun x h => by cases h⟩
  | (k1, x) :: kvs, (k2, v) :: vs, .cons r rs => by
    obtain ⟨e, r⟩ := r
    cases (show k1 = k2 from e)
    obtain ⟨h1, h2⟩ := valA_ok k rs
    rw [valA_cons]
    by_cases h : k1 = k
    · rw [valV_pos (p := (k1, v)) h]
      simp only [h, if_true]
      exact ⟨fun z => by simp at z, fun y e => by cases e; exact ⟨v, rfl, r⟩⟩
    · rw [valV_neg (p := (k1, v)) h]
      simp only [h, if_false]
      exact ⟨h1, h2⟩
theorem putMap_ok {κ : Type} [DecidableEq κ] {m : List Addr} {H : Hp} {k : κ} {x : AV} {v : V} (rx : RelA cf.K m H x v) : ∀ {kvs : List (κ × AV)} {vs : List (κ × V)}, RelKV cf.K m H kvs vs →
    RelKV cf.K m H (kvs.map (fun kv => if kv.1 = k then (kv.1, x) else kv)) (vs.map (fun kv => if kv.1 = k then (kv.1, v) else kv))
  | _, _, .nil => .nil
  | a :: _, b :: _, .cons h t => by
    rw [List.map_cons, List.map_cons]
    refine .cons ?_ (putMap_ok rx t)
    have e := h.1
    by_cases hk : a.1 = k
    · rw [if_pos hk, if_pos (e ▸ hk)]
      exact ⟨e, rx⟩
    · rw [if_neg hk, if_neg (e ▸ hk)]
      exact h
theorem putApp_ok {κ : Type} {m : List Addr} {H : Hp} {k : κ} {x : AV} {v : V} (rx : RelA cf.K m H x v) : ∀ {kvs : List (κ × AV)} {vs : List (κ × V)}, RelKV cf.K m H kvs vs → RelKV cf.K m H (kvs ++ [(k, x)]) (vs ++ [(k, v)])
  | _, _, .nil => .cons ⟨rfl, rx⟩ .nil
  | _, _, .cons h t => .cons h (putApp_ok rx t)
theorem anyKey {κ : Type} [DecidableEq κ] {m : List Addr} {H : Hp} {k : κ} : ∀ {kvs : List (κ × AV)} {vs : List (κ × V)}, RelKV cf.K m H kvs vs → (kvs.any fun kv => decide (kv.1 = k)) = (vs.any fun kv => decide (kv.1 = k))
  | _, _, .nil => rfl
  | _, _, .cons h t => by rw [List.any_cons, List.any_cons, anyKey t, h.1]
theorem putA_ok {κ : Type} [DecidableEq κ] {m : List Addr} {H : Hp} {k : κ} {x : AV} {v : V} {kvs : List (κ × AV)} {vs : List (κ × V)} (r : RelKV cf.K m H kvs vs) (rx : RelA cf.K m H x v) : RelKV cf.K m H (putA kvs k x) (putK vs k v) := by
  unfold putA putK
  rw [anyKey r]
  split
  · exact putMap_ok rx r
  · exact putApp_ok rx r
/-- what a dict holds at a key -/
def dGet (A : AH) (x y : AV) : Option (Option AV) := match x with
  | .obj n => match A[n]? with
    | some (.dK kvs) => (keyOf y).map (valA kvs)
    | some (.dT kvs) => match y with
      | .tup ys => (mapO keyOf ys).map (valA kvs)
      | _ => none
    | some (.lk kvs) => match y with
      | .tup ys => (mapO keyOf ys).map (valA kvs)
      | _ => none
    | _ => none
  | _ => none
theorem dGet_ok {m : List Addr} {H : Hp} {A : AH} {x y : AV} {v w : V} {o : Option AV} (S : Sim cf m H A) (rx : RelA cf.K m H x v) (ry : RelA cf.K m H y w) (h : dGet A x y = some o) :
    ∃ a o', v = .ref a ∧ DGet H a w o' ∧ IsD H a ∧ (o = none → o' = none) ∧ ∀ z, o = some z → ∃ u, o' = some u ∧ RelA cf.K m H z u := by
  unfold dGet at h
  split at h
  · rename_i n
    split at h
    · rename_i kvs e
      rw [Option.map_eq_some_iff] at h
      obtain ⟨k, hk, rfl⟩ := h
      obtain ⟨a, rfl, _, vs, h1, r⟩ := S.obj rx e
      rw [keyOf_ok ry hk]
      exact ⟨a, _, rfl, DGet.k h1, .inl ⟨_, .inl h1⟩, (valA_ok k r).1, (valA_ok k r).2⟩
    · rename_i kvs e
      split at h
      · rename_i ys
        rw [Option.map_eq_some_iff] at h
        obtain ⟨k, hk, rfl⟩ := h
        obtain ⟨a, rfl, _, vs, h1, r⟩ := S.obj rx e
        obtain ⟨b, us, rfl, hb, rb⟩ := ry.to_tup
        exact ⟨a, _, rfl, DGet.t h1 (by rw [← keysOf_ok rb hk]; exact hb), .inr ⟨_, .inl h1⟩, (valA_ok k r).1, (valA_ok k r).2⟩
      · cases h
    · rename_i kvs e
      split at h
      · rename_i ys
        rw [Option.map_eq_some_iff] at h
        obtain ⟨k, hk, rfl⟩ := h
        obtain ⟨a, rfl, _, o, vs, h1, r⟩ := S.obj rx e
        obtain ⟨b, us, rfl, hb, rb⟩ := ry.to_tup
        exact ⟨a, _, rfl, .inr ⟨_, _, _, .inr ⟨o, h1⟩, rfl, by rw [← keysOf_ok rb hk]; exact hb, rfl⟩, .inr ⟨_, .inr ⟨o, h1⟩⟩, (valA_ok k r).1, (valA_ok k r).2⟩
      · cases h
    · cases h
  · cases h
/-- d[k] = z -/
def dPut (A : AH) (x y z : AV) : Option AH := match x with
  | .obj n => match A[n]? with
    | some (.dK kvs) => if kvs.length < big then (keyOf y).map fun k => A.set n (.dK (putA kvs k z)) else none
    | some (.dT kvs) => match y with
      | .tup ys => if kvs.length < big then (mapO keyOf ys).map fun k => A.set n (.dT (putA kvs k z)) else none
      | _ => none
    | _ => none
  | _ => none
theorem dPut_ok {m : List Addr} {H : Hp} {A A' : AH} {x y z : AV} {v w u : V} (S : Sim cf m H A) (rx : RelA cf.K m H x v) (ry : RelA cf.K m H y w) (rz : RelA cf.K m H z u) (h : dPut A x y z = some A') :
    ∃ a H', v = .ref a ∧ DPut H a w u H' ∧ Go cf m H m H' A' := by
  unfold dPut at h
  split at h
  · rename_i n
    split at h
    · rename_i kvs e
      split at h
      · rename_i hl
        rw [Option.map_eq_some_iff] at h
        obtain ⟨k, hk, rfl⟩ := h
        obtain ⟨a, rfl, hm, vs, h1, r⟩ := S.obj rx e
        rw [keyOf_ok ry hk]
        refine ⟨a, _, rfl, DPut.k h1 (by rw [← paired_len r]; exact big_lt hl), go_put S hm h1 trivial ⟨_, upd_same, ?_⟩⟩
        exact (putA_ok r rz).mono (Pre.refl m) (fz_main h1 trivial)
      · cases h
    · rename_i kvs e
      split at h
      · rename_i ys
        split at h
        · rename_i hl
          rw [Option.map_eq_some_iff] at h
          obtain ⟨k, hk, rfl⟩ := h
          obtain ⟨a, rfl, hm, vs, h1, r⟩ := S.obj rx e
          obtain ⟨b, us, rfl, hb, rb⟩ := ry.to_tup
          refine ⟨a, _, rfl, DPut.t h1 (by rw [← keysOf_ok rb hk]; exact hb) (by rw [← paired_len r]; exact big_lt hl), go_put S hm h1 trivial ⟨_, upd_same, ?_⟩⟩
          exact (putA_ok r rz).mono (Pre.refl m) (fz_main h1 trivial)
        · cases h
      · cases h
    · cases h
  · cases h
/-- o[i] -/
def gIx : F2 := fun x y A => match dGet A x y with
  | some (some v) => .ok v A
  | _ => gIxS x y A
theorem f2_cases {fa fb : FE} {g : F2} (c : AV → AV → AH → Bool) (ρ : Rho) (A : AH) : (∃ x A1 y A2, fa ρ A = .ok x A1 ∧ fb ρ A1 = .ok y A2 ∧ c x y A2 = true) ∨ ∀ x A1 y A2, fa ρ A = .ok x A1 → fb ρ A1 = .ok y A2 → c x y A2 = false := by
  by_cases h : ∃ x A1 y A2, fa ρ A = .ok x A1 ∧ fb ρ A1 = .ok y A2 ∧ c x y A2 = true
  · exact .inl h
  · refine .inr fun x A1 y A2 h1 h2 => ?_
    cases hc : c x y A2 with
    | false => rfl
    | true => exact (h ⟨x, A1, y, A2, h1, h2, hc⟩).elim
def hasD (x y : AV) (A : AH) : Bool := match dGet A x y with
  | some _ => true
  | none => false
theorem c_ix {o i : Expr} {pos : Pos} {fa fb : FE} (hK : X.K = cf.K) (hu : X.A.units + 1 < cLine) (ha : CE cf X W o fa) (hb : CE cf X W i fb) (hs : PlainIx i := by exact fun _ _ => rfl) (hs2 : NoSl i := by exact fun _ _ => rfl) : CE cf X W (.Subscript o i pos) (f2 gIx fa fb) := by
  obtain ⟨ta, pa, oa⟩ := ha.ex
  obtain ⟨tb, pb, ob⟩ := hb.ex
  refine ⟨_, PE.or (pe_dget hu pa pb hs2) (pe_ix ix_seq pa pb hs), fun ρ σ m H A Q S L P => ?_⟩
  rcases f2_cases (fa := fa) (fb := fb) (g := gIx) (fun x y A => hasD x y A) ρ A with ⟨x0, B1, y0, B2, e1, e2, hc⟩ | hno
  · left
    refine oa.then S L P fun x v m1 H1 A1 ea g1 L1 r1 P1 => ?_
    rw [e1] at ea
    cases ea
    refine ob.then g1.sim L1 P1 fun y w m2 H2 A2 eb g2 L2 r2 P2 => ?_
    rw [e2] at eb
    cases eb
    unfold hasD at hc
    unfold gIx at P2
    cases hd : dGet B2 x0 y0 with
    | none => rw [hd] at hc; cases hc
    | some oz =>
      rw [hd] at P2
      obtain ⟨a, o', rfl, hg, hi, h0, h1⟩ := dGet_ok g2.sim (RelA.mono g2.pre g2.fz r1) r2 hd
      cases oz with
      | some z =>
        obtain ⟨u, rfl, ru⟩ := h1 z rfl
        exact ⟨a, u, rfl, hg, P2 m2 H2 u (Go.refl g2.sim) ru⟩
      | none =>
        exfalso
        simp only at P2
        unfold gIxS at P2
        split at P2
        · split at P2
          · simp [dGet] at hd
          · rename_i hx
            cases x0 with
            | obj n =>
              have e3 : seqAt B2 (.obj n) = none := by
                unfold dGet at hd
                simp only at hd
                unfold seqAt
                simp only
                split
                · rename_i xs e4
                  rw [e4] at hd
                  cases hd
                · rfl
              rw [e3] at P2
              exact P2
            | _ => simp [dGet] at hd
        · exact P2
  · right
    refine oa.then S L P fun x v m1 H1 A1 ea g1 L1 r1 P1 => ?_
    refine ob.then g1.sim L1 P1 fun y w m2 H2 A2 eb g2 L2 r2 P2 => ?_
    have hc := hno x A1 y A2 ea eb
    unfold hasD at hc
    unfold gIx at P2
    cases hd : dGet A2 x y with
    | some oz => rw [hd] at hc; cases hc
    | none =>
      rw [hd] at P2
      rw [hK]
      exact ok_ixS W m2 H2 A2 σ Q x y v w g2.sim (RelA.mono g2.pre g2.fz r1) r2 P2
theorem PT.or {e : Expr} {t u : TT} (h : PT X e t) (k : PT X e u) : PT X e (fun σ H R => t σ H R ∨ u σ H R) := ⟨fun pins s σ H R I q => q.elim (h.run pins s σ H R I) (k.run pins s σ H R I)⟩
/-- k in d -/
def gIn : F2 := fun x y A => match dGet A y x with
  | some o => .ok (.bl o.isSome) A
  | none => match x, y with
    | .str i, .str j => .ok (.bl (!(Builtin.Str.occurrences j i 0 j.length 1).isEmpty)) A
    | _, _ => gInS false x y A
def gNotIn : F2 := fun x y A => match dGet A y x with
  | some o => .ok (.bl (!o.isSome)) A
  | none => match x, y with
    | .str i, .str j => .ok (.bl (!(!(Builtin.Str.occurrences j i 0 j.length 1).isEmpty))) A
    | _, _ => gInS true x y A
theorem isSome_of {m : List Addr} {H : Hp} {o : Option AV} {o' : Option V} (h0 : o = none → o' = none) (h1 : ∀ z, o = some z → ∃ u, o' = some u ∧ RelA cf.K m H z u) : o'.isSome = o.isSome := by
  cases o with
  | none => rw [h0 rfl]; rfl
  | some z =>
    obtain ⟨u, rfl, _⟩ := h1 z rfl
    rfl
abbrev rInAll (K : PySem.W.Frag) (neg : Bool) : R2 := fun x y H Q => (∃ i j, x = .str i ∧ y = .str j ∧ Q (.bl (if neg = true then !(!(Builtin.Str.occurrences j i 0 j.length 1).isEmpty) else !(Builtin.Str.occurrences j i 0 j.length 1).isEmpty)) H) ∨ rIn K neg x y H Q
theorem pe_dIn (hu : X.A.units + 1 < cLine) {i o : Expr} {ty td : TE} {pos : Pos} (hi : PE X i ty) (ho : PE X o td) (hm : behindInMarks .In o = false) : PE X (.Compare i [.In] [o] pos) (tDIn ty td) := pe_cmp (pc_din hu hi ho) hm
theorem pe_dNotIn (hu : X.A.units + 1 < cLine) {i o : Expr} {ty td : TE} {pos : Pos} (hi : PE X i ty) (ho : PE X o td) (hm : behindInMarks .NotIn o = false) : PE X (.Compare i [.NotIn] [o] pos) (tDNotIn ty td) := pe_cmp (pc_dnotin hu hi ho) hm
theorem ok_c_inA {ta tb : TE} {fa fb : FE} (oa : EOk cf W ta fa) (ob : EOk cf W tb fb) : EOk cf W (fun σ H Q => tDIn ta tb σ H Q ∨ tOp (rInAll cf.K false) ta tb σ H Q) (f2 gIn fa fb) := fun ρ σ m H A Q S L P => by
  rcases f2_cases (fa := fa) (fb := fb) (g := gIn) (fun x y A => hasD y x A) ρ A with ⟨x0, B1, y0, B2, e1, e2, hc⟩ | hno
  · left
    refine oa.then S L P fun x v m1 H1 A1 ea g1 L1 r1 P1 => ?_
    rw [e1] at ea
    cases ea
    refine ob.then g1.sim L1 P1 fun y w m2 H2 A2 eb g2 L2 r2 P2 => ?_
    rw [e2] at eb
    cases eb
    unfold hasD at hc
    unfold gIn at P2
    cases hd : dGet B2 y0 x0 with
    | none => rw [hd] at hc; cases hc
    | some oz =>
      rw [hd] at P2
      obtain ⟨a, o', rfl, hg, hi, h0, h1⟩ := dGet_ok g2.sim r2 (RelA.mono g2.pre g2.fz r1) hd
      refine ⟨a, o', rfl, hg, ?_⟩
      rw [isSome_of h0 h1]
      exact P2 m2 H2 _ (Go.refl g2.sim) (.bl _)
  · right
    refine oa.then S L P fun x v m1 H1 A1 ea g1 L1 r1 P1 => ?_
    refine ob.then g1.sim L1 P1 fun y w m2 H2 A2 eb g2 L2 r2 P2 => ?_
    have hc := hno x A1 y A2 ea eb
    unfold hasD at hc
    unfold gIn at P2
    cases hd : dGet A2 y x with
    | some oz => rw [hd] at hc; cases hc
    | none =>
      rw [hd] at P2
      simp only at P2
      split at P2
      · rename_i i j
        exact .inl ⟨i, j, (RelA.mono g2.pre g2.fz r1).to_str, r2.to_str, P2 m2 H2 _ (Go.refl g2.sim) (.bl _)⟩
      · skip
        exact .inr (ok_inS false W m2 H2 A2 σ Q x y v w g2.sim (RelA.mono g2.pre g2.fz r1) r2 P2)
theorem c_in {i o : Expr} {pos : Pos} {fa fb : FE} (hK : X.K = cf.K) (hu : X.A.units + 1 < cLine) (ha : CE cf X W i fa) (hb : CE cf X W o fb) (hm : behindInMarks .In o = false := by rfl) : CE cf X W (.Compare i [.In] [o] pos) (f2 gIn fa fb) := by
  obtain ⟨ta, pa, oa⟩ := ha.ex
  obtain ⟨tb, pb, ob⟩ := hb.ex
  refine ⟨_, PE.or (pe_dIn hu pa pb hm) (pe_cmpR (op_in_str.or op_in_seq) pa pb hm), ?_⟩
  have h := ok_c_inA (W := W) oa ob
  rw [← hK] at h
  exact h
theorem ct_in {i o : Expr} {pos : Pos} {fa fb : FE} (hK : X.K = cf.K) (hu : X.A.units + 1 < cLine) (ha : CE cf X W i fa) (hb : CE cf X W o fb) (hm : behindInMarks .In o = false := by rfl) : CT cf X W (.Compare i [.In] [o] pos) (fB (f2 gIn fa fb)) := by
  obtain ⟨ta, pa, oa⟩ := ha.ex
  obtain ⟨tb, pb, ob⟩ := hb.ex
  refine ⟨_, PT.or (pt_cmp (pc_din hu pa pb) hm) (pt_cmpR (op_in_str.or op_in_seq) pa pb hm), ?_⟩
  have h := ok_test (ok_c_inA (W := W) oa ob)
  rw [← hK] at h
  exact h
theorem ok_c_notInA {ta tb : TE} {fa fb : FE} (oa : EOk cf W ta fa) (ob : EOk cf W tb fb) : EOk cf W (fun σ H Q => tDNotIn ta tb σ H Q ∨ tOp (rInAll cf.K true) ta tb σ H Q) (f2 gNotIn fa fb) := fun ρ σ m H A Q S L P => by
  rcases f2_cases (fa := fa) (fb := fb) (g := gNotIn) (fun x y A => hasD y x A) ρ A with ⟨x0, B1, y0, B2, e1, e2, hc⟩ | hno
  · left
    refine oa.then S L P fun x v m1 H1 A1 ea g1 L1 r1 P1 => ?_
    rw [e1] at ea
    cases ea
    refine ob.then g1.sim L1 P1 fun y w m2 H2 A2 eb g2 L2 r2 P2 => ?_
    rw [e2] at eb
    cases eb
    unfold hasD at hc
    unfold gNotIn at P2
    cases hd : dGet B2 y0 x0 with
    | none => rw [hd] at hc; cases hc
    | some oz =>
      rw [hd] at P2
      obtain ⟨a, o', rfl, hg, hi, h0, h1⟩ := dGet_ok g2.sim r2 (RelA.mono g2.pre g2.fz r1) hd
      refine ⟨a, o', rfl, hg, ?_⟩
      rw [isSome_of h0 h1]
      exact P2 m2 H2 _ (Go.refl g2.sim) (.bl _)
  · right
    refine oa.then S L P fun x v m1 H1 A1 ea g1 L1 r1 P1 => ?_
    refine ob.then g1.sim L1 P1 fun y w m2 H2 A2 eb g2 L2 r2 P2 => ?_
    have hc := hno x A1 y A2 ea eb
    unfold hasD at hc
    unfold gNotIn at P2
    cases hd : dGet A2 y x with
    | some oz => rw [hd] at hc; cases hc
    | none =>
      rw [hd] at P2
      simp only at P2
      split at P2
      · rename_i i j
        exact .inl ⟨i, j, (RelA.mono g2.pre g2.fz r1).to_str, r2.to_str, P2 m2 H2 _ (Go.refl g2.sim) (.bl _)⟩
      · skip
        exact .inr (ok_inS true W m2 H2 A2 σ Q x y v w g2.sim (RelA.mono g2.pre g2.fz r1) r2 P2)
theorem c_notIn {i o : Expr} {pos : Pos} {fa fb : FE} (hK : X.K = cf.K) (hu : X.A.units + 1 < cLine) (ha : CE cf X W i fa) (hb : CE cf X W o fb) (hm : behindInMarks .NotIn o = false := by rfl) : CE cf X W (.Compare i [.NotIn] [o] pos) (f2 gNotIn fa fb) := by
  obtain ⟨ta, pa, oa⟩ := ha.ex
  obtain ⟨tb, pb, ob⟩ := hb.ex
  refine ⟨_, PE.or (pe_dNotIn hu pa pb hm) (pe_cmpR (L2.op_notin_str.or op_notIn_seq) pa pb hm), ?_⟩
  have h := ok_c_notInA (W := W) oa ob
  rw [← hK] at h
  exact h
theorem ct_notIn {i o : Expr} {pos : Pos} {fa fb : FE} (hK : X.K = cf.K) (hu : X.A.units + 1 < cLine) (ha : CE cf X W i fa) (hb : CE cf X W o fb) (hm : behindInMarks .NotIn o = false := by rfl) : CT cf X W (.Compare i [.NotIn] [o] pos) (fB (f2 gNotIn fa fb)) := by
  obtain ⟨ta, pa, oa⟩ := ha.ex
  obtain ⟨tb, pb, ob⟩ := hb.ex
  refine ⟨_, PT.or (pt_cmp (pc_dnotin hu pa pb) hm) (pt_cmpR (L2.op_notin_str.or op_notIn_seq) pa pb hm), ?_⟩
  have h := ok_test (ok_c_notInA (W := W) oa ob)
  rw [← hK] at h
  exact h
/-- o[i] = e: a dict's, else a list's -/
def setL (A : AH) (x y z : AV) : Option AH := match x, y with
  | .obj n, .int i => match A[n]? with
    | some (.lst xs) => (ixN xs.length i).map fun j => A.set n (.lst (xs.set j z))
    | _ => none
  | _, _ => none
def fSub (fv fo fi : FE) : FS := fun ρ A => (fv ρ A).s ρ fun z A => (fo ρ A).s ρ fun x A => (fi ρ A).s ρ fun y A => match dPut A x y z with
  | some A' => .nx ρ A'
  | none => match setL A x y z with
    | some A' => .nx ρ A'
    | none => .er
theorem cs_sub {o i e : Expr} {pos pos' : Pos} {fv fo fi : FE} (hK : X.K = cf.K) (hu : X.A.units + 1 < cLine) (he : CE cf X W e fv) (ho : CE cf X W o fo) (hi : CE cf X W i fi) (hs : swapsWith e (some (.Subscript o i pos')) pos.line X.env = pure false := by rfl)
    (hs2 : swapsWithSole [.Subscript o i pos'] e pos.line X.env = pure false := by rfl) (hw : swappedStores [.Subscript o i pos'] e X.env = pure none := by rfl) (h1 : (assignEach [.Subscript o i pos'] X.env).map (·.2) = [assign (.Subscript o i pos') X.env] := by rfl)
    (ha : ∀ v, assign (.Subscript o i pos') X.env v = (do
      let ov ← holding [v] (eval o X.env)
      let iv ← holding [v, ov] (eval i X.env)
      standAt pos'
      holding [v, ov, iv] (setItem ov iv v)
      release [v, ov, iv] []) := by intro _; rfl) :
    CS cf X W (.Assign [.Subscript o i pos'] e pos) (fSub fv fo fi) := by
  obtain ⟨tv, pv, ov⟩ := he.ex
  obtain ⟨to, po, oo⟩ := ho.ex
  obtain ⟨ti, pi, oi⟩ := hi.ex
  refine ⟨_, PS.or (ps_dput hu po pi pv hs) (ps_asg pv (pg_sub po pi set_list ha) hs2 hw h1), fun ρ σ m H A D S L P => ?_⟩
  by_cases hd : ∃ z A1 x A2 y A3 A4, fv ρ A = .ok z A1 ∧ fo ρ A1 = .ok x A2 ∧ fi ρ A2 = .ok y A3 ∧ dPut A3 x y z = some A4
  · left
    obtain ⟨z0, B1, x0, B2, y0, B3, B4, e1, e2, e3, e4⟩ := hd
    refine ov.thenS S L P fun z u m1 H1 A1 ez g1 L1 rz P1 => ?_
    rw [e1] at ez
    cases ez
    refine oo.thenS g1.sim L1 P1 fun x v m2 H2 A2 ex g2 L2 rx P2 => ?_
    rw [e2] at ex
    cases ex
    refine oi.thenS g2.sim L2 P2 fun y w m3 H3 A3 ey g3 L3 ry P3 => ?_
    rw [e3] at ey
    cases ey
    rw [e4] at P3
    obtain ⟨a, H', rfl, hp, g4⟩ := dPut_ok g3.sim (RelA.mono g3.pre g3.fz rx) ry (RelA.mono (g2.trans g3).pre (g2.trans g3).fz rz) e4
    exact ⟨a, H', rfl, hp, P3 m3 H' σ g4 (L3.mono g4.pre g4.fz)⟩
  · right
    refine ov.thenS S L P fun z u m1 H1 A1 ez g1 L1 rz P1 => ?_
    refine oo.thenS g1.sim L1 P1 fun x v m2 H2 A2 ex g2 L2 rx P2 => ?_
    refine oi.thenS g2.sim L2 P2 fun y w m3 H3 A3 ey g3 L3 ry P3 => ?_
    cases e4 : dPut A3 x y z with
    | some A4 => exact (hd ⟨z, A1, x, A2, y, A3, A4, ez, ex, ey, e4⟩).elim
    | none =>
      rw [e4] at P3
      simp only at P3
      split at P3
      · rename_i A4 e5
        unfold setL at e5
        split at e5
        · rename_i n i
          split at e5
          · rename_i xs e6
            rw [Option.map_eq_some_iff] at e5
            obtain ⟨j, hj, rfl⟩ := e5
            obtain ⟨a, rfl, hm, vs, h1, r⟩ := g3.sim.obj (RelA.mono g3.pre g3.fz rx) e6
            have rz3 : RelA cf.K m3 H3 z u := RelA.mono (g2.trans g3).pre (g2.trans g3).fz rz
            have g4 : Go cf m3 H3 m3 (upd H3 a (.lst (vs.set j u))) (A3.set n (.lst (xs.set j z))) := go_put g3.sim hm h1 trivial ⟨_, upd_same, (RelAs.set rz3 j r).mono (Pre.refl m3) (fz_main h1 trivial)⟩
            exact ⟨a, vs, i, j, rfl, ry.to_int, h1, by rw [← r.length]; exact hj, P3 m3 _ σ g4 (L3.mono g4.pre g4.fz)⟩
          · cases e5
        · cases e5
      · exact P3.elim
/-! ### {}, {k: v, ..} -/
def fDK : FE := fun _ A => .ok (.obj A.length) (A ++ [.dK []])
def fDT : FE := fun _ A => .ok (.obj A.length) (A ++ [.dT []])
theorem c_dK {pos : Pos} : CE cf X W (.Dict [] [] pos) fDK := ⟨_, pe_dnewK, fun ρ σ m H A Q S L P p hp => P _ _ _ (go_new S hp ⟨[], upd_same, .nil⟩) (rel_new S)⟩
theorem c_dT {pos : Pos} : CE cf X W (.Dict [] [] pos) fDT := ⟨_, pe_dnewT, fun ρ σ m H A Q S L P p hp => P _ _ _ (go_new S hp ⟨[], upd_same, .nil⟩) (rel_new S)⟩
abbrev FP := Rho → AH → Res (List (AV × AV))
def fpNil : FP := fun _ A => .ok [] A
def fpCons (k v : FE) (f : FP) : FP := fun ρ A => (k ρ A).bind fun x A => (v ρ A).bind fun y A => (f ρ A).bind fun ps A => .ok ((x, y) :: ps) A
def RelPs (K : PySem.W.Frag) (m : List Addr) (H : Hp) : List (AV × AV) → List (V × V) → Prop := Paired fun p q => RelA K m H p.1 q.1 ∧ RelA K m H p.2 q.2
structure CP (cf : Cfg) (X : Cx) (W : WX) (pos : Pos) (keys : List (Option Expr)) (values : List Expr) (f : FP) : Prop where
  ex : ∃ trs, PPs X pos keys values trs ∧ Ok cf W (fun m H => RelPs cf.K m H) (tPairs trs) f
theorem cp_nil {pos : Pos} : CP cf X W pos [] [] fpNil := ⟨_, pps_nil, fun ρ σ m H A Q S L P => P m H [] (Go.refl S) .nil⟩
theorem cp_cons {pos : Pos} {k v : Expr} {ks : List (Option Expr)} {vs : List Expr} {fk fv : FE} {f : FP} (hk : CE cf X W k fk) (hv : CE cf X W v fv) (hr : CP cf X W pos ks vs f) : CP cf X W pos (some k :: ks) (v :: vs) (fpCons fk fv f) := by
  obtain ⟨tk, pk, ok⟩ := hk.ex
  obtain ⟨tv, pv, ov⟩ := hv.ex
  obtain ⟨tr, pr, or'⟩ := hr.ex
  refine ⟨_, pps_cons pk pv pr, fun ρ σ m H A Q S L P => ?_⟩
  refine ok.then S L P fun x v m1 H1 A1 _ g1 L1 r1 P1 => ?_
  refine ov.then g1.sim L1 P1 fun y w m2 H2 A2 _ g2 L2 r2 P2 => ?_
  refine or'.then g2.sim L2 P2 fun ps qs m3 H3 A3 _ g3 L3 r3 P3 => ?_
  exact P3 m3 H3 _ (Go.refl g3.sim) (.cons ⟨RelA.mono (g2.trans g3).pre (g2.trans g3).fz r1, RelA.mono g3.pre g3.fz r2⟩ r3)
def keysA : List (AV × AV) → Option (List (Key × AV))
  | [] => some []
  | (x, y) :: ps => match keyOf x, keysA ps with
    | some k, some r => some ((k, y) :: r)
    | _, _ => none
def mergeA (kvs more : List (Key × AV)) : List (Key × AV) := more.foldl (fun acc kv => putA acc kv.1 kv.2) kvs
theorem keysA_ok {m : List Addr} {H : Hp} : ∀ {ps : List (AV × AV)} {qs : List (V × V)} {kvs : List (Key × AV)}, RelPs cf.K m H ps qs → keysA ps = some kvs → ∃ ws : List (Key × V), qs = ws.map (fun kv => (kV kv.1, kv.2)) ∧ RelKV cf.K m H kvs ws ∧ ws.length = ps.length
  | [], _, kvs, r, h => by
    cases h
    cases r
    exact ⟨[], rfl, .nil, rfl⟩
  | (x, y) :: ps, _, kvs, r, h => by
    unfold keysA at h
    split at h
    · rename_i k r' h1 h2
      cases h
      cases r with
      | cons r1 r2 =>
        rename_i q qs
        obtain ⟨ws, rfl, r3, hl⟩ := keysA_ok r2 h2
        obtain ⟨q1, q2⟩ := q
        have e : q1 = kV k := keyOf_ok r1.1 h1
        subst e
        exact ⟨(k, q2) :: ws, rfl, .cons ⟨rfl, r1.2⟩ r3, by rw [List.length_cons, List.length_cons, hl]⟩
    · cases h
theorem mergeA_ok {m : List Addr} {H : Hp} : ∀ {more : List (Key × AV)} {more' : List (Key × V)} {kvs : List (Key × AV)} {vs : List (Key × V)}, RelKV cf.K m H more more' → RelKV cf.K m H kvs vs → RelKV cf.K m H (mergeA kvs more) (mergeK vs more')
  | _, _, _, _, .nil, r => r
  | (k, x) :: more, (k', v) :: more', _, _, .cons h t, r => by
    obtain ⟨e, h⟩ := h
    cases (show k = k' from e)
    show RelKV cf.K m H (mergeA (putA _ k x) more) (mergeK (putK _ k v) more')
    exact mergeA_ok t (putA_ok r h)
/-- {k: v, ..}, its parts read while the dict stands empty at its new place -/
def fDisp (f : FP) : FE := fun ρ A => (f ρ (A ++ [.dK []])).bind fun ps B => match keysA ps, B[A.length]? with
  | some kvs, some (.dK []) => if ps.length ≤ 15 then .ok (.obj A.length) (B.set A.length (.dK (mergeA [] kvs))) else .er
  | _, _ => .er
theorem c_disp {pos : Pos} {keys : List (Option Expr)} {values : List Expr} {f : FP} (h : CP cf X W pos keys values f) (hall : keys.all (·.isSome) = true := by rfl) (hl : keys.length = values.length := by rfl) (h0 : keys ≠ [] := by exact fun z => nomatch z) (h15 : keys.length ≤ 15 := by decide) :
    CE cf X W (.Dict keys values pos) (fDisp f) := by
  obtain ⟨trs, p, o⟩ := h.ex
  refine ⟨_, pe_disp p hall hl h0 h15, fun ρ σ m H A Q S L P p hp => ?_⟩
  have gN : Go cf m H (m ++ [p]) (upd H p (.dK [])) (A ++ [.dK []]) := go_new S hp ⟨[], upd_same, .nil⟩
  have hk : (m ++ [p])[A.length]? = some p := by
    rw [← S.len, List.getElem?_append_right (Nat.le_refl _)]
    simp
  refine o.then gN.sim (L.mono gN.pre gN.fz) (Post.mono gN P) fun ps qs m1 H1 A1 _ g1 L1 r1 P1 => ?_
  split at P1
  · rename_i kvs e1 e2
    obtain ⟨h15, P1⟩ := post_if P1
    obtain ⟨ws, rfl, rw', hlw⟩ := keysA_ok r1 e1
    have hk1 := g1.pre _ _ hk
    obtain ⟨vs, h1, r2⟩ := g1.sim.at_ _ _ _ hk1 e2
    cases r2
    refine ⟨h1, ws, rfl, by omega, P1 m1 _ _ (go_put g1.sim hk1 h1 trivial ⟨_, upd_same, ?_⟩) (.obj hk1)⟩
    exact (mergeA_ok rw' .nil).mono (Pre.refl m1) (fz_main h1 trivial)
  · exact P1.elim
end
end Dn

set_option maxRecDepth 100000
set_option maxHeartbeats 1000000
/-! Dn, part G: objects, isinstance, enumerate, sums and sorts. -/
namespace Dn
open PySem L2 PyProof.Rows

section
variable {cf : Cfg} {X : Cx} {W : WX}
/-! ### fields: tbl tells by class where a field stands -/
abbrev Tbl := List (Nat × Nat)
def tblAt (t : Tbl) (c : Nat) : Option Nat := (t.find? fun p => p.1 == c).map (·.2)
theorem tblAt_mem {t : Tbl} {c i : Nat} (h : tblAt t c = some i) : (c, i) ∈ t := by
  unfold tblAt at h
  rw [Option.map_eq_some_iff] at h
  obtain ⟨p, h1, rfl⟩ := h
  have h2 := List.find?_some h1
  have h3 := List.mem_of_find?_eq_some h1
  obtain ⟨a, b⟩ := p
  have e : a = c := by simpa using h2
  subst e
  exact h3
/-- a class whose objects have dicts -/
structure InsF (cf : Cfg) (f : Str) (c i : Nat) : Prop where
  cl : Cls cf.K (cf.cls c)
  no : NoAttr cf.K (cf.cls c) f
  nd : (cf.nam c).Nodup
  at_ : (cf.nam c)[i]? = some f
  few : (cf.nam c).length < 1000
/-- a class with slots -/
structure SltF (cf : Cfg) (f : Str) (c i : Nat) : Prop where
  cl : SlX.SCls cf.K (cf.cls c)
  sl : ∃ p, SlX.Slot1 cf.K (cf.cls c) f p i
def fFld (ti ts : Tbl) (fe : FE) : FE := fun ρ A => (fe ρ A).bind fun x A => match x with
  | .obj n => match A[n]? with
    | some (.ins c fs) => match tblAt ti c with
      | some i => match fs[i]? with
        | some v => .ok v A
        | none => .er
      | none => .er
    | some (.slt c fs) => match tblAt ts c with
      | some i => match fs[i]? with
        | some (some v) => .ok v A
        | _ => .er
      | none => .er
    | _ => .er
  | _ => .er
theorem lookup_zip {f : Str} : ∀ {ns : List Str} {vs : List V} {i : Nat} {v : V}, ns.Nodup → ns[i]? = some f → vs[i]? = some v → (ns.zip vs).lookup f = some v
  | [], _, _, _, _, h, _ => by simp at h
  | _ :: _, [], _, _, _, _, h => by simp at h
  | n :: ns, w :: vs, 0, v, nd, h1, h2 => by
    simp at h1 h2
    subst h1 h2
    simp
  | n :: ns, w :: vs, i + 1, v, nd, h1, h2 => by
    have h1' : ns[i]? = some f := by simpa using h1
    have h2' : vs[i]? = some v := by simpa using h2
    have hne : f ≠ n := fun e => (List.nodup_cons.mp nd).1 (e ▸ List.mem_of_getElem? h1')
    have hb : (f == n) = false := beq_eq_false_iff_ne.mpr hne
    simp only [List.zip_cons_cons, List.lookup, hb]
    exact lookup_zip (List.nodup_cons.mp nd).2 h1' h2'
theorem RelOs.get {m : List Addr} {H : Hp} : ∀ {xs : List (Option AV)} {vs : List (Option V)} {i : Nat} {x : AV}, RelOs cf.K m H xs vs → xs[i]? = some (some x) → ∃ v, vs[i]? = some (some v) ∧ RelA cf.K m H x v
  | _, _, _, _, .nil, e => by simp at e
  | _, v :: _, 0, x, .cons r _, e => by
    simp at e
    subst e
    cases v with
    | none => exact r.elim
    | some v => exact ⟨v, rfl, r⟩
  | _, _, i + 1, x, .cons _ t, e => by
    obtain ⟨u, h1, h2⟩ := RelOs.get (i := i) (x := x) t (by simpa using e)
    exact ⟨u, by simpa using h1, h2⟩
theorem slt_of {m : List Addr} {H : Hp} {a C dx : Addr} {vs : List (Option V)} (h : (H a = some (.ins C dx []) ∧ vs = [] ∧ H dx = some (.own a)) ∨ (H a = some (SlX.SlO a C dx vs) ∧ H dx = some (.xd []))) : SlX.Slt H a C dx vs := by
  rcases h with ⟨h1, h2, _⟩ | h
  · exact .inl ⟨h1, h2⟩
  · exact .inr h
def isSlt (A : AH) : AV → Bool
  | .obj n => match A[n]? with
    | some (.slt _ _) => true
    | _ => false
  | _ => false
theorem c_fld {e : Expr} {f : Str} {pos : Pos} {fe : FE} (ti ts : Tbl) (hK : X.K = cf.K) (h1 : ∀ p ∈ ti, InsF cf f p.1 p.2) (h2 : ∀ p ∈ ts, SltF cf f p.1 p.2) (he : CE cf X W e fe) (hb : attributeBase e f X.env (eval e X.env) = eval e X.env := by rfl) :
    CE cf X W (.Attribute e f pos) (fFld ti ts fe) := by
  obtain ⟨t, p, o⟩ := he.ex
  refine ⟨_, PE.or (SlX.pe_sl p hb) (pe_fld p hb), fun ρ σ m H A Q S L P => ?_⟩
  by_cases hs : ∃ x A1, fe ρ A = .ok x A1 ∧ isSlt A1 x = true
  · left
    obtain ⟨x0, B1, e0, hs⟩ := hs
    refine o.then S L P fun x v m1 H1 A1 ea g1 L1 r1 P1 => ?_
    rw [e0] at ea
    cases ea
    split at P1
    · rename_i n
      split at P1
      · rename_i c fs e1
        simp only [isSlt, e1] at hs
        cases hs
      · rename_i c fs e1
        split at P1
        · rename_i i ei
          split at P1
          · rename_i u eu
            obtain ⟨a, rfl, hm, dx, vs, ne, hq, r⟩ := g1.sim.obj r1 e1
            obtain ⟨w, hw, rw'⟩ := RelOs.get r eu
            obtain ⟨F1, q, F2⟩ := h2 _ (tblAt_mem ei)
            rw [hK]
            exact ⟨a, _, dx, q, vs, i, w, rfl, slt_of (m := m1) hq, F1, F2, hw, P1 m1 H1 w (Go.refl g1.sim) rw'⟩
          · exact P1.elim
        · exact P1.elim
      · exact P1.elim
    · exact P1.elim
  · right
    refine o.then S L P fun x v m1 H1 A1 ea g1 L1 r1 P1 => ?_
    split at P1
    · rename_i n
      split at P1
      · rename_i c fs e1
        split at P1
        · rename_i i ei
          split at P1
          · rename_i u eu
            obtain ⟨a, rfl, hm, dx, vs, h3, hl, r⟩ := g1.sim.obj r1 e1
            obtain ⟨w, hw, rw'⟩ := r.get eu
            have F := h1 _ (tblAt_mem ei)
            rw [hK]
            exact ⟨a, _, dx, _, w, rfl, h3, F.cl, F.no, lookup_zip F.nd F.at_ hw, P1 m1 H1 w (Go.refl g1.sim) rw'⟩
          · exact P1.elim
        · exact P1.elim
      · rename_i c fs e1
        exact (hs ⟨_, A1, ea, by simp only [isSlt, e1]⟩).elim
      · exact P1.elim
    · exact P1.elim
/-! storing -/
def putI (i : Nat) (v : AV) (fs : List AV) : Option (List AV) := if i < fs.length then some (fs.set i v) else if i = fs.length then some (fs ++ [v]) else none
def putO (i : Nat) (v : AV) (fs : List (Option AV)) : List (Option AV) := (fs ++ List.replicate (i + 1 - fs.length) none).set i (some v)
def setF (ti ts : Tbl) (A : AH) (x y : AV) : Option AH := match x with
  | .obj n => match A[n]? with
    | some (.ins c fs) => match tblAt ti c with
      | some i => (putI i y fs).map fun fs' => A.set n (.ins c fs')
      | none => none
    | some (.slt c fs) => match tblAt ts c with
      | some i => some (A.set n (.slt c (putO i y fs)))
      | none => none
    | _ => none
  | _ => none
theorem putF_zip {f : Str} {v : V} : ∀ {ns : List Str} {vs : List V} {i : Nat}, ns.Nodup → ns[i]? = some f → i < vs.length → vs.length ≤ ns.length → putF f v (ns.zip vs) = ns.zip (vs.set i v)
  | [], _, _, _, h, _, _ => by simp at h
  | _ :: _, [], _, _, _, h, _ => by simp at h
  | n :: ns, w :: vs, 0, nd, h1, h2, h3 => by
    simp at h1
    subst h1
    show (if n = n then (n, v) :: ns.zip vs else (n, w) :: putF n v (ns.zip vs)) = _
    rw [if_pos rfl]
    rfl
  | n :: ns, w :: vs, i + 1, nd, h1, h2, h3 => by
    have h1' : ns[i]? = some f := by simpa using h1
    have hne : ¬ n = f := fun e => (List.nodup_cons.mp nd).1 (e ▸ List.mem_of_getElem? h1')
    show (if n = f then (n, v) :: ns.zip vs else (n, w) :: putF f v (ns.zip vs)) = _
    rw [if_neg hne, putF_zip (List.nodup_cons.mp nd).2 h1' (by simpa using h2) (by simpa using h3)]
    rfl
theorem putF_zip' {f : Str} {v : V} : ∀ {ns : List Str} {vs : List V}, ns.Nodup → ns[vs.length]? = some f → putF f v (ns.zip vs) = ns.zip (vs ++ [v])
  | [], _, _, h => by simp at h
  | n :: ns, [], nd, h => by
    simp at h
    subst h
    show [(n, v)] = _
    cases ns <;> rfl
  | n :: ns, w :: vs, nd, h => by
    have h1' : ns[vs.length]? = some f := by simpa using h
    have hne : ¬ n = f := fun e => (List.nodup_cons.mp nd).1 (e ▸ List.mem_of_getElem? h1')
    show (if n = f then (n, v) :: ns.zip vs else (n, w) :: putF f v (ns.zip vs)) = _
    rw [if_neg hne, putF_zip' (List.nodup_cons.mp nd).2 h1']
    rfl
theorem RelOs.len {m : List Addr} {H : Hp} {xs : List (Option AV)} {vs : List (Option V)} (r : RelOs cf.K m H xs vs) : xs.length = vs.length := Paired.length r
theorem RelOs.app {m : List Addr} {H : Hp} : ∀ {xs ys : List (Option AV)} {vs ws : List (Option V)}, RelOs cf.K m H xs vs → RelOs cf.K m H ys ws → RelOs cf.K m H (xs ++ ys) (vs ++ ws)
  | _, _, _, _, .nil, s => s
  | _, _, _, _, .cons r t, s => .cons r (RelOs.app t s)
theorem RelOs.set {m : List Addr} {H : Hp} {x : Option AV} {v : Option V} (r : RelOA cf.K m H x v) : ∀ {xs : List (Option AV)} {vs : List (Option V)} (i : Nat), RelOs cf.K m H xs vs → RelOs cf.K m H (xs.set i x) (vs.set i v)
  | _, _, _, .nil => .nil
  | _, _, 0, .cons _ t => .cons r t
  | _, _, i + 1, .cons q t => .cons q (RelOs.set r i t)
theorem RelOs.nones {m : List Addr} {H : Hp} : ∀ n : Nat, RelOs cf.K m H (List.replicate n none) (List.replicate n none)
  | 0 => .nil
  | n + 1 => .cons trivial (RelOs.nones n)
theorem put_slt {m : List Addr} {H : Hp} {A : AH} {n : Nat} {a C dx : Addr} {c : Nat} {fs' : List (Option AV)} {vs vs' : List (Option V)} (S : Sim cf m H A) (hm : m[n]? = some a) (hC : C = cf.cls c) (ne : dx ≠ a)
    (hq : (H a = some (.ins C dx []) ∧ vs = [] ∧ H dx = some (.own a)) ∨ (H a = some (SlX.SlO a C dx vs) ∧ H dx = some (.xd []))) (r : RelOs cf.K m H fs' vs') : Go cf m H m (SlX.slH H a C dx vs') (A.set n (.slt c fs')) := by
  subst hC
  have hdx : H dx = some (.own a) ∨ H dx = some (.xd []) := hq.elim (fun h => .inl h.2.2) fun h => .inr h.2
  obtain ⟨u, hu, mu⟩ : ∃ u, H a = some u ∧ Mn u := by
    rcases hq with ⟨q, _⟩ | ⟨q, _⟩
    · exact ⟨_, q, trivial⟩
    · exact ⟨_, q, trivial⟩
  have fz : Fz H (SlX.slH H a (cf.cls c) dx vs') := by
    refine ⟨fun b xs e => ?_, fun b o w e => ?_⟩
    · rw [SlX.slH_ne (ne_of e hu (fun z => by subst z; exact mu)) (fun z => by subst z; rcases hdx with q | q <;> (rw [e] at q; cases q))]
      exact e
    · rw [SlX.slH_ne (ne_of e hu (fun z => by subst z; exact mu)) (fun z => by subst z; rcases hdx with q | q <;> (rw [e] at q; cases q))]
      exact e
  refine ⟨Pre.refl m, fz, by rw [List.length_set, S.len], S.nd, fun k b q hk hA => ?_⟩
  by_cases e : k = n
  · subst e
    rw [hm] at hk
    cases hk
    have hl : k < A.length := by
      rw [← S.len]
      exact (List.getElem?_eq_some_iff.mp hm).1
    rw [List.getElem?_set_self hl] at hA
    cases hA
    refine ⟨dx, vs', ne, .inr ⟨upd_same, ?_⟩, r.mono (Pre.refl m) fz⟩
    unfold SlX.slH
    rw [upd_ne ne, upd_same]
  · rw [List.getElem?_set_ne (Ne.symm e)] at hA
    have hb : b ≠ a := fun z => by
      subst z
      exact e (nd_ix S.nd hk hm)
    obtain ⟨ub, hub, mub⟩ := S.main hk
    have hbd : b ≠ dx := fun z => by
      subst z
      rcases hdx with q | q <;> (rw [hub] at q; cases q; exact mub)
    refine (S.at_ k b q hk hA).stay (Pre.refl m) fz (fun u e => by rw [SlX.slH_ne hb hbd]; exact e) fun d w ed hw => ?_
    by_cases hda : d = a
    · subst hda
      rw [hu] at ed
      cases ed
      rcases hw with z | z <;> (subst z; exact mu.elim)
    · by_cases hdd : d = dx
      · subst hdd
        rcases hw with z | z
        · subst z
          rcases hdx with q | q
          · rw [ed] at q
            cases q
            exact absurd rfl hb
          · rw [ed] at q
            cases q
        · subst z
          unfold SlX.slH
          rw [upd_ne ne, upd_same]
      · rw [SlX.slH_ne hda hdd]
        exact ed
def fSetF (ti ts : Tbl) (fv fo : FE) : FS := fun ρ A => (fv ρ A).s ρ fun y A => (fo ρ A).s ρ fun x A => match setF ti ts A x y with
  | some A' => .nx ρ A'
  | none => .er
theorem cs_fld {o e : Expr} {f : Str} {pos pos' : Pos} {fv fo : FE} (ti ts : Tbl) (hK : X.K = cf.K) (h1 : ∀ p ∈ ti, InsF cf f p.1 p.2) (h2 : ∀ p ∈ ts, SltF cf f p.1 p.2) (he : CE cf X W e fv) (ho : CE cf X W o fo) (hs : swapsWith e (some (.Attribute o f pos')) pos.line X.env = pure false := by rfl) :
    CS cf X W (.Assign [.Attribute o f pos'] e pos) (fSetF ti ts fv fo) := by
  obtain ⟨tv, pv, ov⟩ := he.ex
  obtain ⟨to, po, oo⟩ := ho.ex
  refine ⟨_, PS.or (SlX.ps_sl po pv hs) (ps_fld po pv hs), fun ρ σ m H A D S L P => ?_⟩
  by_cases hsl : ∃ y A1 x A2, fv ρ A = .ok y A1 ∧ fo ρ A1 = .ok x A2 ∧ isSlt A2 x = true
  · left
    obtain ⟨y0, B1, x0, B2, e1, e2, hsl⟩ := hsl
    refine ov.thenS S L P fun y u m1 H1 A1 ey g1 L1 ry P1 => ?_
    rw [e1] at ey
    cases ey
    refine oo.thenS g1.sim L1 P1 fun x v m2 H2 A2 ex g2 L2 rx P2 => ?_
    rw [e2] at ex
    cases ex
    split at P2
    · rename_i A' ea
      unfold setF at ea
      split at ea
      · rename_i n
        split at ea
        · rename_i c fs e3
          simp only [isSlt, e3] at hsl
          cases hsl
        · rename_i c fs e3
          split at ea
          · rename_i i ei
            cases ea
            obtain ⟨a, rfl, hm, dx, vs, ne, hq, r⟩ := g2.sim.obj rx e3
            obtain ⟨F1, q, F2⟩ := h2 _ (tblAt_mem ei)
            have r2 : RelOs cf.K m2 H2 (putO i y0 fs) (SlX.putS i u vs) := by
              unfold putO SlX.putS
              rw [r.len]
              exact RelOs.set (show RelOA cf.K m2 H2 (some y0) (some u) from RelA.mono g2.pre g2.fz ry) i (r.app (RelOs.nones _))
            have g3 := put_slt g2.sim hm rfl ne hq r2
            rw [hK]
            exact ⟨a, _, dx, q, vs, i, rfl, slt_of (m := m2) hq, F1, F2, P2 m2 _ σ g3 (L2.mono g3.pre g3.fz)⟩
          · cases ea
        · cases ea
      · cases ea
    · exact P2.elim
  · right
    refine ov.thenS S L P fun y u m1 H1 A1 ey g1 L1 ry P1 => ?_
    refine oo.thenS g1.sim L1 P1 fun x v m2 H2 A2 ex g2 L2 rx P2 => ?_
    split at P2
    · rename_i A' ea
      unfold setF at ea
      split at ea
      · rename_i n
        split at ea
        · rename_i c fs e3
          split at ea
          · rename_i i ei
            rw [Option.map_eq_some_iff] at ea
            obtain ⟨fs', hf, rfl⟩ := ea
            obtain ⟨a, rfl, hm, dx, vs, h3, hl, r⟩ := g2.sim.obj rx e3
            have F := h1 _ (tblAt_mem ei)
            have ry2 : RelA cf.K m2 H2 y u := RelA.mono g2.pre g2.fz ry
            have hlv : vs.length ≤ (cf.nam c).length := by rw [← r.length]; exact hl
            have key : ∃ vs', putF f u ((cf.nam c).zip vs) = (cf.nam c).zip vs' ∧ fs'.length ≤ (cf.nam c).length ∧ RelAs cf.K m2 H2 fs' vs' := by
              unfold putI at hf
              split at hf
              · rename_i hi
                cases hf
                exact ⟨_, putF_zip F.nd F.at_ (by rw [← r.length]; exact hi) hlv, by rw [List.length_set]; exact hl, RelAs.set ry2 i r⟩
              · split at hf
                · rename_i hi
                  cases hf
                  have hi2 : i = vs.length := by rw [← r.length]; exact hi
                  have hat := F.at_
                  simp only at hat
                  rw [hi2] at hat
                  obtain ⟨hlt, _⟩ := List.getElem?_eq_some_iff.mp hat
                  exact ⟨_, putF_zip' F.nd hat, by rw [List.length_append, List.length_singleton, r.length]; omega, r.app (.cons ry2 .nil)⟩
                · cases hf
            obtain ⟨vs', k1, k2, k3⟩ := key
            have g3 : Go cf m2 H2 m2 (upd H2 a (.ins (cf.cls c) dx (putF f u ((cf.nam c).zip vs)))) (A2.set n (.ins c fs')) := by
              rw [k1]
              exact go_put g2.sim hm h3 trivial ⟨dx, vs', upd_same, k2, k3.mono (Pre.refl m2) (fz_main h3 trivial)⟩
            rw [hK]
            refine ⟨a, _, dx, _, rfl, h3, F.cl, F.no, ?_, P2 m2 _ σ g3 (L2.mono g3.pre g3.fz)⟩
            rw [List.length_zip]
            exact Nat.lt_of_le_of_lt (Nat.min_le_left _ _) F.few
          · cases ea
        · rename_i c fs e3
          exact (hsl ⟨_, _, _, _, ey, ex, by simp only [isSlt, e3]⟩).elim
        · cases ea
      · cases ea
    · exact P2.elim

/-! ### methods and classes of the program -/
theorem passW {E : XK} {W : WX} (tk : Takes X (WD E)) : Passes (L2.CX X.prog X.w) X E := passes_call tk fun _ _ _ _ h => h
/-- a method: its class c; G takes the object first -/
def fMth (c : Nat) (n : Nat) (G : FD) (fo : FE) (fa : FA) : FE := fun ρ A => (fo ρ A).bind fun x A => match x with
  | .obj k => match A[k]? with
    | some (.ins c' _) => if c' = c then (fa ρ A).bind fun as A => if as.length + 1 = n then G (.obj k :: as) A else .er else .er
    | _ => .er
  | _ => .er
theorem zip_none {f : Str} : ∀ {ns : List Str} {vs : List V}, f ∉ ns → (ns.zip vs).lookup f = none
  | [], _, _ => by simp
  | _ :: _, [], _ => by simp
  | n :: ns, w :: vs, h => by
    have hb : (f == n) = false := beq_eq_false_iff_ne.mpr fun e => h (by rw [e]; simp)
    simp only [List.zip_cons_cons, List.lookup, hb]
    exact zip_none fun q => h (List.mem_cons_of_mem _ q)
theorem post_wd {E : XK} {m : List Addr} {H : Hp} {σ : L2.St} {Q : VK} {r : Res AV} (P : Post cf (WD E) (rA cf) m H σ Q r) : Post cf (WD E) (rA cf) m H [] Q r := by
  cases r with
  | ok _ _ => exact P
  | exc _ _ => exact P
  | er => exact P
theorem c_mth {E : XK} {o e : Expr} {es : List Expr} {m : Str} {apos pos : Pos} {pl : Sem Bool} {k n : Nat} {c : Nat} {g : Addr} {fd : FuncData} {ps : List Str} {G : FD} {fo : FE} {fa : FA} (hK : X.K = cf.K) (cl : Cls X.K (cf.cls c)) (hm : Meth X.K (cf.cls c) m g)
    (F : FnOk X.prog X.w X.K X.mg X.base (L2.CX X.prog X.w) k g fd ps (spOf cf n G)) (hr : Room k X.A) (hb : Binds X.K fd ps []) (tk : Takes X (WD E)) (hno : m ∉ cf.nam c) (ho : CE cf X (WD E) o fo) (ha : CA cf X (WD E) (e :: es) fa)
    (hst : starEach (e :: es) X.env = (false, eval e X.env) :: starEach es X.env := by rfl) (hpl : (backTo pos (starEach es X.env)).any (·.1) = false := by rfl)
    (ht : eval (.Call (.Attribute o m apos) (e :: es) [] pos) X.env = (do
      let ov ← eval o X.env
      standAt apos.atName
      let (f, first) ← holding [ov] (getMethod ov m pl)
      callWith pos f first (backTo pos (starEach (e :: es) X.env)) (backToKw pos (keywordEach [] X.env))) := by rfl) :
    CE cf X (WD E) (.Call (.Attribute o m apos) (e :: es) [] pos) (fMth c n G fo fa) := by
  obtain ⟨t, p, q⟩ := ho.ex
  obtain ⟨t2, p2, q2⟩ := ha.ex
  refine ⟨_, pe_meth p cl hm F hr hb .nil (passW (W := WD E) tk) p2 hst hpl ht, fun ρ σ mm H A Q S L P => ?_⟩
  refine q.then S L P fun x v m1 H1 A1 ea g1 L1 r1 P1 => ?_
  split at P1
  · rename_i k'
    split at P1
    · rename_i c' fs e1
      obtain ⟨hc, P1b⟩ := post_if P1
      subst hc
      obtain ⟨a, rfl, hm1, dx, vs, h3, hl, r⟩ := g1.sim.obj r1 e1
      refine ⟨a, dx, _, rfl, h3, zip_none hno, ?_⟩
      refine q2.then g1.sim L1 P1b fun as us m2 H2 A2 _ g2 L2 r2 P2 => ?_
      obtain ⟨hl2, P2⟩ := post_if P2
      rw [List.append_nil]
      exact ⟨m2, A2, _, g2.sim, .cons (RelA.mono g2.pre g2.fz r1) r2, hl2, post_wd P2⟩
    · exact P1.elim
  · exact P1.elim
theorem c_mth0 {E : XK} {o : Expr} {m : Str} {apos pos : Pos} {pl : Sem Bool} {k : Nat} {c : Nat} {g : Addr} {fd : FuncData} {ps : List Str} {G : FD} {fo : FE} (hK : X.K = cf.K) (cl : Cls X.K (cf.cls c)) (hm : Meth X.K (cf.cls c) m g)
    (F : FnOk X.prog X.w X.K X.mg X.base (L2.CX X.prog X.w) k g fd ps (spOf cf 1 G)) (hr : Room k X.A) (hb : Binds X.K fd ps []) (tk : Takes X (WD E)) (hno : m ∉ cf.nam c) (ho : CE cf X (WD E) o fo)
    (ht : eval (.Call (.Attribute o m apos) [] [] pos) X.env = (do
      let ov ← eval o X.env
      standAt apos.atName
      let (f, first) ← holding [ov] (getMethod ov m pl)
      callWith pos f first (backTo pos (starEach [] X.env)) (backToKw pos (keywordEach [] X.env))) := by rfl) :
    CE cf X (WD E) (.Call (.Attribute o m apos) [] [] pos) (fMth c 1 G fo fNil) := by
  obtain ⟨t, p, q⟩ := ho.ex
  refine ⟨_, pe_meth0 p cl hm F hr hb .nil (passW (W := WD E) tk) ht, fun ρ σ mm H A Q S L P => ?_⟩
  refine q.then S L P fun x v m1 H1 A1 ea g1 L1 r1 P1 => ?_
  split at P1
  · rename_i k'
    split at P1
    · rename_i c' fs e1
      obtain ⟨hc, P1b⟩ := post_if P1
      subst hc
      obtain ⟨a, rfl, hm1, dx, vs, h3, hl, r⟩ := g1.sim.obj r1 e1
      exact ⟨a, dx, _, rfl, h3, zip_none hno, m1, A1, _, g1.sim, .cons r1 .nil, rfl, post_wd P1b⟩
    · exact P1.elim
  · exact P1.elim
/-- C(..): o0 the new object -/
def fMake (o0 : AO) (n : Nat) (G : FD) (fa : FA) : FE := fun ρ A => (fa ρ A).bind fun as A => if as.length + 1 = n then (G (.obj A.length :: as) (A ++ [o0])).bind fun v B => match v with
  | .non => .ok (.obj A.length) B
  | _ => .er
  else .er
theorem made_ins {m : List Addr} {H : Hp} {A : AH} {x dx : Addr} {c : Nat} (S : Sim cf m H A) (hx : H x = none) (hd : H dx = none) (ne : dx ≠ x) : Go cf m H (m ++ [x]) (upd (upd H dx (.own x)) x (.ins (cf.cls c) dx [])) (A ++ [.ins c []]) := by
  have g1 : Go cf m H m (upd H dx (.own x)) A := go_side S hd
  have hx1 : upd H dx (.own x) x = none := by rw [upd_ne (Ne.symm ne)]; exact hx
  exact g1.trans (go_new g1.sim hx1 ⟨dx, [], by rw [upd_same]; cases (cf.nam c) <;> rfl, Nat.zero_le _, .nil⟩)
theorem made_slt {m : List Addr} {H : Hp} {A : AH} {x dx : Addr} {c : Nat} (S : Sim cf m H A) (hx : H x = none) (hd : H dx = none) (ne : dx ≠ x) : Go cf m H (m ++ [x]) (upd (upd H dx (.own x)) x (.ins (cf.cls c) dx [])) (A ++ [.slt c []]) := by
  have g1 : Go cf m H m (upd H dx (.own x)) A := go_side S hd
  have hx1 : upd H dx (.own x) x = none := by rw [upd_ne (Ne.symm ne)]; exact hx
  exact g1.trans (go_new g1.sim hx1 ⟨dx, [], ne, .inl ⟨upd_same, rfl, by rw [upd_ne ne, upd_same]⟩, .nil⟩)
theorem c_make {E : XK} {x : Str} {p pos : Pos} {e : Expr} {es : List Expr} {k n c : Nat} {fi : Addr} {fd : FuncData} {ps : List Str} {G : FD} {fa : FA} {o0 : AO} (ho0 : o0 = .ins c [] ∨ o0 = .slt c []) (M : Mk X.K (cf.cls c) fi) (F : FnOk X.prog X.w X.K X.mg X.base (L2.CX X.prog X.w) k fi fd ps (spOf cf n G)) (hr : Room (k + 1) X.A)
    (hm : X.mg x = some (.ref (cf.cls c))) (hb : Binds X.K fd ps []) (tk : Takes X (WD E)) (ha : CA cf X (WD E) (e :: es) fa) (hg : Gl X x := by rfl) (hdb : (x == ("__debug__" : Str)) = false := by decide) (he : starEach (e :: es) X.env = (false, eval e X.env) :: starEach es X.env := by rfl) (hpl : (backTo pos (starEach es X.env)).any (·.1) = false := by rfl) :
    CE cf X (WD E) (.Call (.Name x p) (e :: es) [] pos) (fMake o0 n G fa) := by
  obtain ⟨t, p, o⟩ := ha.ex
  refine ⟨_, pe_make M F hr hg hm hb .nil (passW (W := WD E) tk) p hdb he hpl, fun ρ σ m H A Q S L P => ?_⟩
  refine o.then S L P fun as vs m1 H1 A1 _ g1 L1 r P1 => ?_
  obtain ⟨hl, P1⟩ := post_if P1
  intro x dx hx hd ne
  have gm : Go cf m1 H1 (m1 ++ [x]) (upd (upd H1 dx (.own x)) x (.ins (cf.cls c) dx [])) (A1 ++ [o0]) := by
    rcases ho0 with z | z
    · subst z
      exact made_ins g1.sim hx hd ne
    · subst z
      exact made_slt g1.sim hx hd ne
  have hk : (m1 ++ [x])[A1.length]? = some x := by
    rw [← g1.sim.len, List.getElem?_append_right (Nat.le_refl _)]
    simp
  rw [List.append_nil]
  refine ⟨_, _, .obj A1.length :: as, gm.sim, .cons (.obj hk) (r.mono gm.pre gm.fz), hl, ?_⟩
  have P2 := Post.mono gm P1
  cases eg : G (.obj A1.length :: as) (A1 ++ [o0]) with
  | ok v B =>
    rw [eg] at P2
    intro m2 H2 u g2 ru
    have P3 := Post.mono g2 P2
    simp only [Res.bind_ok] at P3
    split at P3
    · exact ⟨ru.to_non, P3 m2 H2 _ (Go.refl g2.sim) (.obj (g2.pre _ _ hk))⟩
    · exact P3.elim
  | exc ex B =>
    rw [eg] at P2
    exact P2
  | er =>
    rw [eg] at P2
    exact P2.elim
/-- o.f, a property of the class c -/
def fProp (c : Nat) (G : FD) (fo : FE) : FE := fun ρ A => (fo ρ A).bind fun x A => match x with
  | .obj k => match A[k]? with
    | some (.ins c' _) => if c' = c then match G [.obj k] A with
      | .ok v B => .ok v B
      | _ => .er
      else .er
    | _ => .er
  | _ => .er
theorem c_prop {e : Expr} {f : Str} {pos : Pos} {k c : Nat} {p g : Addr} {fd : FuncData} {ps : List Str} {G : FD} {fo : FE} (cl : Cls X.K (cf.cls c)) (hp : PropOf X.K (cf.cls c) f p g) (F : FnOk X.prog X.w X.K X.mg X.base (L2.CX X.prog X.w) k g fd ps (spOf cf 1 G)) (hr : Room (k + 1) X.A) (hb : Binds X.K fd ps [])
    (ho : CE cf X W e fo) (hab : attributeBase e f X.env (eval e X.env) = eval e X.env := by rfl) : CE cf X W (.Attribute e f pos) (fProp c G fo) := by
  obtain ⟨t, pp, q⟩ := ho.ex
  refine ⟨_, pe_prop pp cl hp F hr hb .nil passL hab, fun ρ σ mm H A Q S L P => ?_⟩
  refine q.then S L P fun x v m1 H1 A1 ea g1 L1 r1 P1 => ?_
  split at P1
  · rename_i k'
    split at P1
    · rename_i c' fs e1
      obtain ⟨hc, P1b⟩ := post_if P1
      subst hc
      obtain ⟨a, rfl, hm1, dx, vs, h3, hl, r⟩ := g1.sim.obj r1 e1
      refine ⟨a, dx, _, rfl, h3, m1, A1, _, g1.sim, .cons r1 .nil, rfl, ?_⟩
      cases eg : G [AV.obj k'] A1 with
      | ok u B =>
        rw [eg] at P1b
        exact P1b
      | exc x B =>
        rw [eg] at P1b
        exact P1b.elim
      | er =>
        rw [eg] at P1b
        exact P1b.elim
    · exact P1.elim
  · exact P1.elim
end
end Dn

set_option maxRecDepth 100000
set_option maxHeartbeats 2000000
/-! Dn, part H: enumerate over tuples, isinstance, stars, sums, sorts. -/
namespace Dn
open PySem PySem.Spec L2 PyProof.Rows

/-! ### enumerate(v) of what begins -/
theorem meets_enumerate_newB1 {v : Value} {o : Obj} {H : Heap → Prop} (B : Begins v o H) :
    Meets (Builtin.«enumerate.__new__» ⟨[.type "enumerate", v], []⟩) (fun _ R s => H s.heap ∧
      R (.ok (.ret (.ref (s.heap.push o).objs.size))) { s with heap := (s.heap.push o).push { cls := .type "enumerate", data := .fields #[.none, .bool false, .ref s.heap.objs.size, rawInt 0, .none, .none] } }) :=
  .of_wp fun prog w A R s h => by
    obtain ⟨hp, g, d, tk, os⟩ := s; obtain ⟨h1, h⟩ := h
    have hsub := sub_enumerate
    have q1 : ∀ {A' : Around} {E : Value → Shared → Prop} {Q : Value → Shared → Prop}, Q (.ref hp.objs.size) ⟨hp.push o, g, d, tk, os⟩ → wpAny (model prog w) A' (pyIter v) Q E ⟨hp, g, d, tk, os⟩ :=
      fun q => B.iter prog w _ _ ⟨hp, g, d, tk, os⟩ _ h1 q
    wp_walk using q1
    refine wpAny_stack_any fun st => wpAny_pure ?_
    split
    · rename_i c _ _ _ _ _
      cases (c == Value.type "enumerate")
      · wp_walk using q1
        exact ⟨_, rfl, h⟩
      · wp_walk using q1
        exact ⟨_, rfl, h⟩
    · wp_walk using q1
      exact ⟨_, rfl, h⟩
theorem enum_begins1 {prog : Program} {w : World} {A : Around} {E : Value → Shared → Prop} {s : Shared} {v : Value} {o : Obj} {H : Heap → Prop} {Q : Value → Shared → Prop} (B : Begins v o H) (h1 : H s.heap)
    (h : ∀ h', IsEnum h' (s.heap.objs.size + 1) s.heap.objs.size 0 .none → h'.get? s.heap.objs.size = some o → h'.objs.size = s.heap.objs.size + 2 →
      (∀ b o, s.heap.get? b = some o → h'.get? b = some o) → Q (.ref (s.heap.objs.size + 1)) { s with heap := h' }) :
    wpAny (model prog w) A (call (.type "enumerate") [v]) Q E s := by
  refine callType_new F.called_enumerate (by decide) (F.typeCall_enumerate_1 _) (F.newCall_enumerate_1 _) (fun obj => F.args_object_init_2 obj _) F.entry_enumerate_new
    (meets_enumerate_newB1 B) ⟨h1, ?_⟩
  have hz : (s.heap.push o).objs.size = s.heap.objs.size + 1 := Heap.size_push ..
  show _ ∧ _
  rw [hz]
  have he : IsEnum ((s.heap.push o).push { cls := .type "enumerate", data := .fields #[.none, .bool false, .ref s.heap.objs.size, rawInt 0, .none, .none] }) (s.heap.objs.size + 1) s.heap.objs.size 0 .none := by
    have := Heap.get?_push_size (s.heap.push o) (o := { cls := .type "enumerate", data := .fields #[.none, .bool false, .ref s.heap.objs.size, rawInt 0, .none, .none] }) rfl
    rw [hz] at this; exact this
  refine ⟨⟨_, he, rfl⟩, h _ he (Heap.get?_push_of_some _ (Heap.get?_push_size _ B.free)) (by rw [Heap.size_push, hz]) fun b o x => Heap.get?_push_of_some _ (Heap.get?_push_of_some _ x)⟩
/-- the tuple at a, each item in a new pair -/
def IteT (K : PySem.W.Frag) (a : Addr) : It :=
  ⟨fun i H => ∃ (xs : List V) (x : V), SqT K H a xs ∧ xs[i]? = some x, fun i H v H' => ∃ T x, v = .ref T ∧ H T = none ∧ H' = upd H T (.tup [.int (i : Nat), x]) ∧ ∀ xs, SqT K H a xs → xs[i]? = some x, fun i H => ∃ xs : List V, SqT K H a xs ∧ xs.length = i⟩
theorem turn_enumT {P : Program} {w : World} {K : PySem.W.Frag} {elts : List Expr} {kk : Nat} {tpos : Pos} (a e it : Addr) :
    Turn P w K (.Tuple elts kk tpos) (IteT K a) [e, it] e (fun i h => (∃ old, IsEnum h e it ((i : Nat) : Int) old) ∧ h.IsTupleIter it a i ∧ e ≠ it) where
  mem := by simp
  obj := fun i h st b hb => by
    obtain ⟨⟨old, he⟩, ⟨o, ho, hc, hd⟩, _⟩ := st
    have e' : b = e ∨ b = it := by simpa using hb
    rcases e' with z | z
    · rw [z]; exact ⟨_, he, fun v q => nomatch q⟩
    · rw [z]; exact ⟨o, ho, fun v q => by rw [hd] at q; cases q⟩
  keep := fun i h h' st k => let ⟨⟨old, he⟩, hi, hne⟩ := st; ⟨⟨old, k e (by simp) _ he⟩, hi.at fun o q => k it (by simp) o q, hne⟩
  item := by
    intro X hP hw hK hc i pins s σ H E I hf st hg
    subst hP hw hK
    obtain ⟨⟨old, he⟩, hit, hne⟩ := st
    obtain ⟨xs, x, hq, hx⟩ := hg
    obtain ⟨its, rv, p, hz⟩ := I.tuple hq
    obtain ⟨u, hu, ru⟩ := rv.get hx
    have hel : e < s.heap.objs.size := Heap.lt_size he
    have hil : it < s.heap.objs.size := by obtain ⟨_, q, _⟩ := hit; exact Heap.lt_size q
    have hai : a ≠ it := fun z => by
      obtain ⟨o1, h1, h2, _⟩ := hit
      obtain ⟨o2, h3, h4, _⟩ := p
      rw [z, h1] at h3
      cases h3
      rw [h2] at h4
      exact absurd h4 (by simp)
    have hae : e ∉ [it, a] := fun z => by
      rcases List.mem_cons.mp z with z | z
      · exact hne z
      · rw [List.mem_singleton] at z
        obtain ⟨o2, h3, h4, _⟩ := p
        have he2 : s.heap.get? e = some _ := he
        rw [← z, he2] at h3
        cases h3
        exact absurd h4 (by simp)
    have hd0 : X.A.in1.handled = none := I.ok.hd hc
    have hlt : i < its.toArray.size := by
      rw [List.size_toArray, ← rv.length]
      exact (List.getElem?_eq_some_iff.mp hx).1
    refine wpAny_pyNext_enum_itemD (Draws.tuple hd0 it a hai its.toArray) he ⟨hit, p⟩ hlt hne hae fun y h' tk hy ho hst hT hsz hk => ?_
    have ey : y = u := by
      have h5 : its[i]? = some y := by simpa using hy
      rw [hu] at h5
      cases h5
      rfl
    subst ey
    refine ⟨_, rfl, wpAny_letOwnedTupleGo_enum (s := { s with heap := h', toks := tk + 1 }) ho fun h'' he' sb => ?_⟩
    have hT2 : h''.get? s.heap.objs.size = some { cls := .type "tuple", data := .seq #[.int i tk, y] } := (sb.2 _ (Nat.ne_of_gt hel)).trans hT
    have new : ObjOk X.prog X.w (upd H s.heap.objs.size (.tup [.int (i : Nat), x])) h'' s.heap.objs.size (.tup [.int (i : Nat), x]) :=
      ⟨by show 2 ≤ sizeLine; decide, [.int i tk, y], .cons ⟨_, rfl⟩ (.cons ru .nil), ⟨_, hT2, rfl, _, rfl⟩⟩
    have I1 : Inv X pins σ (upd H s.heap.objs.size (.tup [.int (i : Nat), x])) { s with heap := h'', toks := tk + 1 } :=
      I.turnedNew (ch := [e, it]) (fun b ob hb q => (sb.2 b (fun z => hb (by simp [z]))).trans (hk b ob (fun z => hb (by simp [z])) (fun z => hb (by simp [z])) q)) hf (Nat.le_refl _) new
    refine ⟨.ref s.heap.objs.size, _, I1, rfl, ⟨_, x, rfl, I.hok.fresh (Nat.le_refl _), rfl, fun ys hy => by rw [I.tuple_inj hy hq]; exact hx⟩, ⟨⟨y, ?_⟩, hst.1.at fun o q => (sb.2 it (Ne.symm hne)).trans q, hne⟩, fun b hb => ?_⟩
    · have e1 : ((i + 1 : Nat) : Int) = (i : Int) + 1 := by omega
      rw [e1]; exact he'
    · have hb' : b < s.heap.objs.size := by
        have e' : b = e ∨ b = it := by simpa using hb
        rcases e' with z | z
        · rw [z]; exact hel
        · rw [z]; exact hil
      rw [upd_ne (Nat.ne_of_lt hb')]
      exact (hf b hb).1
  done := by
    intro X hP hw hK hc i pins s σ H E I hf st hg
    subst hP hw hK
    obtain ⟨⟨old, he⟩, hit, hne⟩ := st
    obtain ⟨xs, hq, hx⟩ := hg
    obtain ⟨its, rv, p, hz⟩ := I.tuple hq
    obtain ⟨f0, f1, f2, f3, f4, f5⟩ := hf it (by simp)
    have hl := rv.length
    have hai : a ≠ it := fun z => by
      obtain ⟨o1, h1, h2, _⟩ := hit
      obtain ⟨o2, h3, h4, _⟩ := p
      rw [z, h1] at h3
      cases h3
      rw [h2] at h4
      exact absurd h4 (by simp)
    have hi2 : i = its.toArray.size := by rw [List.size_toArray, ← hl, hx]
    have hit2 : s.heap.IsTupleIter it a its.toArray.size := hi2 ▸ hit
    exact wpAny_pyNext_enum_endD (i := ((i : Nat) : Int)) (Draws.tuple (show X.A.in1.handled = none from I.ok.hd hc) it a hai its.toArray) he ⟨hit2, p⟩ fun h' eb => ⟨rfl, I.turned (t' := s.toks) (fun b o hb q => eb b o hb q) f0 f1 f3 f4 f5⟩
  self := fun A i s Q E st h => let ⟨⟨_, he⟩, _⟩ := st; wpAny_pyIter_enum he h
def iEnumT (K : PySem.W.Frag) (ta : TA) : TI := fun σ H R => ta σ H fun vs H1 => ∃ a xs, vs = [.ref a] ∧ SqT K H1 a xs ∧ R (IteT K a) H1
theorem pi_enumT {X : Cx} {e : Expr} {ta : TA} {p pos tpos : Pos} {elts : List Expr} {kk : Nat} (hg : Gl X "enumerate") (hm : X.mg "enumerate" = none) (ha : PA X [e] ta) (hs : starEach [e] X.env = [(false, eval e X.env)] := by rfl) :
    PI X (.Tuple elts kk tpos) (.Call (.Name "enumerate" p) [e] [] pos) (iEnumT X.K ta) := by
  refine ⟨fun pins s σ H R I h => ?_⟩
  refine Call_ (ld_blt I hg hm boot_enumerate (PyProof.Rows.callWith_type1 (thn (ha.run pos pins s σ H _ I h) fun us s1 ⟨vs, H1, I1, r1, q1⟩ => ?_) hs rfl))
  obtain ⟨a, xs, ex, hq, q⟩ := q1
  subst ex
  cases r1 with
  | cons r rr =>
    cases rr
    cases r
    obtain ⟨its, rv, p', hz⟩ := I1.tuple hq
    refine enum_begins1 (begins_tuple a its.toArray) p' fun h' he hit hsz hk => wpAny_pyIter_enum he ?_
    have I2 : Inv X pins σ H1 { s1 with heap := h' } := I1.kept (t' := s1.toks) hk
    refine ⟨s1.heap.objs.size + 1, [s1.heap.objs.size + 1, s1.heap.objs.size], _, _, H1, rfl, I2, turn_enumT a (s1.heap.objs.size + 1) s1.heap.objs.size, ⟨⟨.none, he⟩, ⟨_, hit, rfl, rfl⟩, Nat.succ_ne_self _⟩, fun b hb => ?_, q⟩
    have e' : b = s1.heap.objs.size + 1 ∨ b = s1.heap.objs.size := by simpa using hb
    have hle : s1.heap.objs.size ≤ b := by
      rcases e' with z | z
      · rw [z]; exact Nat.le_add_right _ _
      · rw [z]; exact Nat.le_refl _
    exact I1.fpOk hle (I1.hok.fresh hle)

section
variable {cf : Cfg} {X : Cx} {W : WX}
def pairI (i : Nat) (x : AV) : AV := .tup [.int (i : Nat), x]
def enumF (i : Nat) : List AV → List AV
  | [] => []
  | x :: xs => pairI i x :: enumF (i + 1) xs
theorem enumF_len : ∀ (xs : List AV) (i : Nat), (enumF i xs).length = xs.length
  | [], _ => rfl
  | _ :: xs, i => by rw [enumF, List.length_cons, List.length_cons, enumF_len xs]
theorem enumF_get : ∀ (xs : List AV) (i j : Nat), (enumF i xs)[j]? = xs[j]?.map (pairI (i + j))
  | [], _, _ => by simp [enumF]
  | x :: xs, i, 0 => by simp [enumF]
  | x :: xs, i, j + 1 => by
    rw [enumF, List.getElem?_cons_succ, List.getElem?_cons_succ, enumF_get xs (i + 1) j]
    congr 2
    omega
def fEnum (f : FE) : FI := fun ρ A => (f ρ A).bind fun x A => match x with
  | .obj n => match A[n]? with
    | some (.lst _) => .ok (.live n pairI) A
    | _ => .er
  | .scr ns => .ok (.fix (enumF 0 (ns.map AV.int))) A
  | .tup xs => .ok (.fix (enumF 0 xs)) A
  | _ => .er
theorem pair_go {m : List Addr} {H : Hp} {A : AH} {T : Addr} {i : Nat} {x : AV} {v : V} (S : Sim cf m H A) (hT : H T = none) (r : RelA cf.K m H x v) : Go cf m H m (upd H T (.tup [.int (i : Nat), v])) A ∧ RelA cf.K m (upd H T (.tup [.int (i : Nat), v])) (pairI i x) (.ref T) :=
  ⟨go_side S hT, .tup upd_same (.cons (.int _) (.cons (r.mono (Pre.refl m) (fz_new hT)) .nil))⟩
theorem src_enum {J : It} {m : List Addr} {H : Hp} {vs : List V} {xs : List AV} (hgo : ∀ H' i, Fz H H' → i < vs.length → J.go i H') (hst : ∀ H', Fz H H' → J.stop vs.length H')
    (hy : ∀ H' i x H2, Fz H H' → J.yld i H' x H2 → ∃ T v, x = .ref T ∧ H' T = none ∧ H2 = upd H' T (.tup [.int (i : Nat), v]) ∧ vs[i]? = some v) (hr : RelAs cf.K m H xs vs) : SrcR cf m H J (.fix (enumF 0 xs)) := fun m1 H1 A1 g => by
  have hl : (enumF 0 xs).length = vs.length := by rw [enumF_len, hr.length]
  refine ⟨fun i hi => hgo H1 i g.fz (by rw [← hl]; exact hi), by rw [hl]; exact hst H1 g.fz, fun i x H2 y hi => ?_⟩
  obtain ⟨T, v, rfl, hT, rfl, hv⟩ := hy H1 i x H2 g.fz y
  obtain ⟨z, h1, h2⟩ := hr.get' hv
  obtain ⟨g2, r2⟩ := pair_go (i := i) g.sim hT (h2.mono g.pre g.fz)
  exact ⟨pairI i z, by rw [enumF_get, h1, Nat.zero_add]; rfl, g2, r2⟩
theorem ci_enum {e : Expr} {p pos tpos : Pos} {elts : List Expr} {kk : Nat} {f : FE} (hK : X.K = cf.K) (hm : X.mg "enumerate" = none) (h : CE cf X W e f) (hg : Gl X "enumerate" := by rfl) (hs : starEach [e] X.env = [(false, eval e X.env)] := by rfl) :
    CI cf X W (.Tuple elts kk tpos) (.Call (.Name "enumerate" p) [e] [] pos) (fEnum f) := by
  obtain ⟨t, q, o⟩ := (ca_cons h ca_nil hs).ex
  refine ⟨_, PI.or (pi_enum hg hm q hs) (pi_enumT hg hm q hs), ?_⟩
  rw [hK]
  intro ρ σ m H A R S L P
  have key : ∀ (x : AV) (A1 : AH), f ρ A = .ok x A1 → fCons f fNil ρ A = .ok [x] A1 := fun x A1 e => by
    unfold fCons
    rw [e]
    rfl
  have P' : Post cf W (fun m' H' s J => SrcR cf m' H' J s) m H σ R ((fCons f fNil ρ A).bind fun xs A => match xs with
      | [x] => match x with
        | .obj n => match A[n]? with
          | some (.lst _) => .ok (.live n pairI) A
          | _ => .er
        | .scr ns => .ok (.fix (enumF 0 (ns.map AV.int))) A
        | .tup xs => .ok (.fix (enumF 0 xs)) A
        | _ => .er
      | _ => .er) := by
    unfold fEnum at P
    unfold fCons
    cases e : f ρ A with
    | ok x A1 =>
      rw [e] at P
      exact P
    | exc x A1 =>
      rw [e] at P
      exact P
    | er =>
      rw [e] at P
      exact P
  by_cases hk : ∃ xs A1, f ρ A = .ok (.tup xs) A1
  · right
    obtain ⟨xs, A1, hk⟩ := hk
    refine o.then S L P' fun x v m1 H1 A1 e g1 L1 r1 P1 => ?_
    rw [key _ _ hk] at e
    cases e
    obtain ⟨v, rfl, r2⟩ := RelAs.one r1
    obtain ⟨a, vs, rfl, ha, r⟩ := RelA.to_tup r2
    refine ⟨a, vs, rfl, SqT.of ha, P1 m1 H1 _ (Go.refl g1.sim) (src_enum (vs := vs) (fun H' i f hi => ⟨vs, vs[i], SqT.of (f.tup _ _ ha), by simp [hi]⟩) (fun H' f => ⟨vs, SqT.of (f.tup _ _ ha), rfl⟩) (fun H' i x H2 f y => ?_) r)⟩
    obtain ⟨T, w, h1, h2, h3, h4⟩ := y
    exact ⟨T, w, h1, h2, h3, h4 vs (SqT.of (f.tup _ _ ha))⟩
  · left
    refine o.then S L P' fun xs v m1 H1 A1 e g1 L1 r1 P1 => ?_
    split at P1
    · rename_i x
      obtain ⟨v, rfl, r2⟩ := RelAs.one r1
      clear r1
      have ex : f ρ A = .ok x A1 := by
        unfold fCons at e
        cases e2 : f ρ A with
        | ok y B =>
          rw [e2] at e
          simp only [Res.bind_ok, fNil] at e
          cases e
          rfl
        | exc y B => rw [e2] at e; cases e
        | er => rw [e2] at e; cases e
      split at P1
      · rename_i n
        split at P1
        · rename_i xs e1
          obtain ⟨a, rfl, hm, vs, h1, r⟩ := g1.sim.obj r2 e1
          refine ⟨a, vs, rfl, SqL.of h1, P1 m1 H1 _ (Go.refl g1.sim) (live_ok (A := A1) (xs0 := xs) hm (fun i H vs e hi => ⟨vs, vs[i], SqL.of e, by simp [hi]⟩) (fun i H vs e hi => ⟨vs, SqL.of e, hi⟩) fun i m2 H2 A2 vs x H3 S2 e y => ?_)⟩
          obtain ⟨T, w, rfl, hT, rfl, hw⟩ := y
          exact ⟨w, hw vs (SqL.of e), go_side S2 hT, fun z hz => (pair_go S2 hT hz).2⟩
        · exact P1.elim
      · rename_i ns
        cases r2 with
        | scr hf =>
          refine ⟨_, ns.map V.int, rfl, hf.sq, P1 m1 H1 _ (Go.refl g1.sim) (src_enum (vs := ns.map V.int) (fun H' i f hi => ⟨_, _, (hf.mono f).sq, List.getElem?_eq_getElem hi⟩) (fun H' f => ⟨_, (hf.mono f).sq, Nat.le_refl _⟩) (fun H' i x H2 f y => ?_) (RelAs.ints ns))⟩
          obtain ⟨T, w, h1, h2, h3, h4⟩ := y
          exact ⟨T, w, h1, h2, h3, h4 _ (hf.mono f).sq⟩
      · rename_i xs
        exact (hk ⟨xs, A1, ex⟩).elim
      · exact P1.elim
    · exact P1.elim

/-! ### isinstance of built-in types -/
def tyS (A : AH) : AV → String
  | .non => "NoneType"
  | .bl _ => "bool"
  | .int _ => "int"
  | .str _ => "str"
  | .scr _ => "list"
  | .tup _ => "tuple"
  | .ty _ => "?"
  | .obj n => match A[n]? with
    | some (.lst _) => "list"
    | some (.dK _) => "dict"
    | some (.dT _) => "dict"
    | _ => "?"
/-- the class of an object of the program -/
def clsA (A : AH) : AV → Option Nat
  | .obj n => match A[n]? with
    | some (.ins c _) => some c
    | some (.slt c _) => some c
    | _ => none
  | _ => none
theorem tyX_ok {m : List Addr} {H : Hp} {A : AH} {x : AV} {v : V} (S : Sim cf m H A) (r : RelA cf.K m H x v) (h : tyS A x ≠ "?") : TyX cf.K H v (.type (tyS A x)) := by
  cases x with
  | non => rw [r.to_non]; exact .base .non
  | bl b => rw [r.to_bl]; exact .base (.bl b)
  | int b => rw [r.to_int]; exact .base (.int b)
  | str b => rw [r.to_str]; exact .base (.str b)
  | ty b => exact absurd rfl h
  | scr ns =>
    cases r with
    | scr hf =>
      rcases hf with ⟨o, hf⟩ | ⟨o, its, n, h1, h2, _⟩
      · exact .base (.frz hf)
      · exact .kList h1 h2
  | tup xs =>
    obtain ⟨a, vs, rfl, h1, _⟩ := r.to_tup
    exact .base (.tup h1)
  | obj n =>
    unfold tyS at h ⊢
    simp only at h ⊢
    split at h
    · rename_i xs e
      obtain ⟨a, rfl, _, vs, h1, _⟩ := S.obj r e
      exact .base (.lst h1)
    · rename_i xs e
      obtain ⟨a, rfl, _, vs, h1, _⟩ := S.obj r e
      exact .base (.dK h1)
    · rename_i xs e
      obtain ⟨a, rfl, _, vs, h1, _⟩ := S.obj r e
      exact .base (.dT h1)
    · exact absurd rfl h
def tyNames : List String := ["NoneType", "bool", "int", "str", "list", "tuple", "dict"]
def isiT (t T : String) : Bool := t == T || (t == "bool" && T == "int")
theorem kit_names : ∀ t ∈ tyNames, ∀ T ∈ ["int", "bool", "str", "tuple", "list"], kitB t T = some (isiT t T) := by decide +kernel
theorem tyS_in {A : AH} {x : AV} (h : tyS A x ≠ "?") : tyS A x ∈ tyNames := by
  cases x with
  | obj n =>
    unfold tyS at h ⊢
    simp only at h ⊢
    split at h
    · decide
    · decide
    · decide
    · exact absurd rfl h
  | ty _ => exact absurd rfl h
  | _ => (simp only [tyS]; decide)
/-- isinstance(x, T) -/
def fIsi (T : String) (fe : FE) : FE := fun ρ A => (fe ρ A).bind fun x A => if tyS A x ≠ "?" then .ok (.bl (isiT (tyS A x) T)) A else .er
theorem c_tyN {x : Str} {T : String} {pos : Pos} (hm : X.mg x = none) (hv : bootBuiltins x = some (.type T)) (hg : Gl X x := by rfl) (hn : x ≠ "__name__" := by decide) (hd : (x == ("__debug__" : Str)) = false := by decide) : PE X (.Name x pos) (tC (.ty T)) := pe_bltn (v := .ty T) hg hm hv rfl hn hd
theorem c_isiT {e : Expr} {xT : Str} {T : String} {p p2 pos : Pos} {fe : FE} (hK : X.K = cf.K) (hI : X.mg "isinstance" = none) (hm : X.mg xT = none) (hv : bootBuiltins xT = some (.type T)) (hT : T ∈ ["int", "bool", "str", "tuple", "list"]) (he : CE cf X W e fe) (hgI : Gl X "isinstance" := by rfl) (hg : Gl X xT := by rfl) (hn : xT ≠ "__name__" := by decide) (hd : (xT == ("__debug__" : Str)) = false := by decide)
    (hs : starEach [e, .Name xT p2] X.env = (false, eval e X.env) :: starEach [.Name xT p2] X.env := by rfl) (hs2 : starEach [.Name xT p2] X.env = (false, eval (.Name xT p2) X.env) :: starEach [] X.env := by rfl) (hpl : (backTo pos (starEach [.Name xT p2] X.env)).any (·.1) = false := by rfl) :
    CE cf X W (.Call (.Name "isinstance" p) [e, .Name xT p2] [] pos) (fIsi T fe) := by
  obtain ⟨t, q, o⟩ := he.ex
  refine ⟨_, pe_callB call_isi hgI hI boot_isinstance (pa_cons q (pa_cons (c_tyN hm hv hg hn hd) pa_nil hs2) hs) (by decide) (by decide) hs hpl, fun ρ σ m H A Q S L P => ?_⟩
  refine o.then S L P fun x v m1 H1 A1 _ g1 L1 r P1 => ?_
  obtain ⟨h1, P1⟩ := post_if P1
  rw [hK]
  exact ⟨v, .ty T, _, _, _, rfl, .ty T, tyX_ok g1.sim r h1, kit_ty (kit_names _ (tyS_in h1) T hT), P1 m1 H1 _ (Go.refl g1.sim) (.bl _)⟩
/-- isinstance(x, (T, U)) -/
def fIsi2 (T U : String) (fe : FE) : FE := fun ρ A => (fe ρ A).bind fun x A => if tyS A x ≠ "?" then .ok (.bl (isiT (tyS A x) T || isiT (tyS A x) U)) A else .er
theorem c_isiT2 {e : Expr} {xT xU : Str} {T U : String} {k : Nat} {p p2 p3 p4 pos : Pos} {fe : FE} (hK : X.K = cf.K) (hI : X.mg "isinstance" = none) (hm : X.mg xT = none) (hv : bootBuiltins xT = some (.type T)) (hT : T ∈ ["int", "bool", "str", "tuple", "list"]) (hm2 : X.mg xU = none) (hv2 : bootBuiltins xU = some (.type U)) (hU : U ∈ ["int", "bool", "str", "tuple", "list"]) (he : CE cf X W e fe)
    (hgI : Gl X "isinstance" := by rfl) (hg : Gl X xT := by rfl) (hn : xT ≠ "__name__" := by decide) (hd : (xT == ("__debug__" : Str)) = false := by decide) (hg2 : Gl X xU := by rfl) (hn2 : xU ≠ "__name__" := by decide) (hd2 : (xU == ("__debug__" : Str)) = false := by decide)
    (hs : starEach [e, .Tuple [.Name xT p2, .Name xU p3] k p4] X.env = (false, eval e X.env) :: starEach [.Tuple [.Name xT p2, .Name xU p3] k p4] X.env := by rfl) (hs2 : starEach [.Tuple [.Name xT p2, .Name xU p3] k p4] X.env = (false, eval (.Tuple [.Name xT p2, .Name xU p3] k p4) X.env) :: starEach [] X.env := by rfl)
    (ht : starEach [.Name xT p2, .Name xU p3] X.env = (false, eval (.Name xT p2) X.env) :: starEach [.Name xU p3] X.env := by rfl) (ht2 : starEach [.Name xU p3] X.env = (false, eval (.Name xU p3) X.env) :: starEach [] X.env := by rfl)
    (hpl : (backTo pos (starEach [.Tuple [.Name xT p2, .Name xU p3] k p4] X.env)).any (·.1) = false := by rfl) :
    CE cf X W (.Call (.Name "isinstance" p) [e, .Tuple [.Name xT p2, .Name xU p3] k p4] [] pos) (fIsi2 T U fe) := by
  obtain ⟨t, q, o⟩ := he.ex
  refine ⟨_, pe_callB call_isiT hgI hI boot_isinstance (pa_cons q (pa_cons (pe_tup (pa_cons (c_tyN hm hv hg hn hd) (pa_cons (c_tyN hm2 hv2 hg2 hn2 hd2) pa_nil ht2) ht)) pa_nil hs2) hs) (by decide) (by decide) hs hpl, fun ρ σ m H A Q S L P => ?_⟩
  refine o.then S L P fun x v m1 H1 A1 _ g1 L1 r P1 => ?_
  obtain ⟨h1, P1⟩ := post_if P1
  refine ⟨by show 2 ≤ sizeLine; decide, fun p hp => ?_⟩
  have g2 : Go cf m1 H1 m1 (upd H1 p (.tup [.ty T, .ty U])) A1 := go_side g1.sim hp
  rw [hK]
  refine ⟨v, p, [.ty T, .ty U], _, [.type T, .type U], _, rfl, upd_same, .cons (.ty T) (.cons (.ty U) .nil), tyX_ok g2.sim (r.mono g2.pre g2.fz) h1, ?_, P1 m1 _ _ g2 (.bl (isiT (tyS A1 x) T || isiT (tyS A1 x) U))⟩
  refine kitAny_cons (kit_ty (kit_names _ (tyS_in h1) T hT)) (fun e => ?_) (fun e => by rw [e]; rfl)
  rw [e, Bool.false_or]
  refine kitAny_cons (kit_ty (kit_names _ (tyS_in h1) U hU)) (fun e => ?_) (fun e => e)
  rw [e]
  exact kitAny_nil
end
end Dn

set_option maxRecDepth 100000
set_option maxHeartbeats 2000000
/-! Dn, part I: the defs of a text by their names; calls; small operators. -/
namespace Dn
open PySem L2 PyProof.Rows

section
variable {P : Program} {w : World} {cf : Cfg} {mg : Str → Option Value} {base : Heap}
/-- a def of the text -/
structure Raw (cf : Cfg) (mg : Str → Option Value) (x : Str) (st : Stmt) : Prop where
  ex : ∃ fa fd, Fun cf.K x x st fa fd ∧ mg x = some (.ref fa)
/-- a method of the text -/
structure RawM (cf : Cfg) (c : Nat) (m qual : Str) (st : Stmt) : Prop where
  ex : ∃ fa fd, Fun cf.K m qual st fa fd ∧ Meth cf.K (cf.cls c) m fa
/-- a def: what it computes -/
structure Df (P : Program) (w : World) (cf : Cfg) (mg : Str → Option Value) (base : Heap) (x : Str) (st : Stmt) (ps : List Str) (k : Nat) (G : FD) : Prop where
  ex : ∃ fa fd, Fun cf.K x x st fa fd ∧ mg x = some (.ref fa) ∧ FnOk P w cf.K mg base (L2.CX P w) k fa fd ps (spOf cf ps.length G)
structure Mf (P : Program) (w : World) (cf : Cfg) (mg : Str → Option Value) (base : Heap) (c : Nat) (m qual : Str) (st : Stmt) (ps : List Str) (k : Nat) (G : FD) : Prop where
  ex : ∃ fa fd, Fun cf.K m qual st fa fd ∧ Meth cf.K (cf.cls c) m fa ∧ FnOk P w cf.K mg base (L2.CX P w) k fa fd ps (spOf cf ps.length G)
/-- a class to make objects of -/
structure Mak (cf : Cfg) (mg : Str → Option Value) (x : Str) (c : Nat) : Prop where
  makes : PySem.W.makesIn cf.K (cf.cls c) = true
  keep : PySem.W.keepIn cf.K (.ref (cf.cls c)) = true
  gl : mg x = some (.ref (cf.cls c))
theorem df_of {x : Str} {st : Stmt} {N ps : List Str} {k : Nat} {fs : FS} {G : FD} (R : Raw cf mg x st) (S : FnScope N ps (defScope st)) (hG : G = runDef N.length fs ∨ G = runDef0 N.length fs)
    (hbody : ∀ (f : Addr) (cdv : Value) (A : Around) (outer : List Env) (s : Shared) (H : Hp) (E : XK), Room k (A.deeper (envOfC x (defScope st) s.heap.objs.size f cdv)) →
      CB cf (cxOf (L2.CX P w) P w cf.K mg base N x (defScope st) f cdv A outer s H E) (WD E) (defBody st) fs) : Df P w cf mg base x st ps (k + 1) G := by
  obtain ⟨fa, fd, F, hm⟩ := R.ex
  exact ⟨fa, fd, F, hm, ok_def hG F S fun cdv A outer s H E hr => hbody fa cdv A outer s H E hr⟩
theorem mf_of {c : Nat} {m qual : Str} {st : Stmt} {N ps : List Str} {k : Nat} {fs : FS} {G : FD} (R : RawM cf c m qual st) (S : FnScope N ps (defScope st)) (hG : G = runDef N.length fs ∨ G = runDef0 N.length fs)
    (hbody : ∀ (f : Addr) (cdv : Value) (A : Around) (outer : List Env) (s : Shared) (H : Hp) (E : XK), Room k (A.deeper (envOfC qual (defScope st) s.heap.objs.size f cdv)) →
      CB cf (cxOf (L2.CX P w) P w cf.K mg base N qual (defScope st) f cdv A outer s H E) (WD E) (defBody st) fs) : Mf P w cf mg base c m qual st ps (k + 1) G := by
  obtain ⟨fa, fd, F, hm⟩ := R.ex
  exact ⟨fa, fd, F, hm, ok_def hG F S fun cdv A outer s H E hr => hbody fa cdv A outer s H E hr⟩
end
/-- how a def binds as many values as it has parameters -/
def BindsT (x qual : Str) (st : Stmt) (ps : List Str) : Prop :=
  ∀ (kV doc pm : Value) (an : Option Addr) (cdv ct : Value) (us : List Value), us.length = ps.length → bindArgs (PySem.W.fnOf x qual (defArgs st) (defBody st) (defScope st) .none kV doc pm an cdv ct) ⟨us, []⟩ = pure (ps.zip us)
/-- the same by keywords ks alone; g puts their values in the parameters' order -/
def BindsKw (x qual : Str) (st : Stmt) (ps ks : List Str) (n : Nat) (g : {α : Type} → List α → List α → List α) : Prop :=
  ∀ (kV doc pm : Value) (an : Option Addr) (cdv ct : Value) (us ws : List Value), us.length = n → ws.length = ks.length → bindArgs (PySem.W.fnOf x qual (defArgs st) (defBody st) (defScope st) .none kV doc pm an cdv ct) ⟨us, ks.zip ws⟩ = pure (ps.zip (g us ws))

section
variable {cf : Cfg} {X : Cx} {W : WX}
theorem c_df {x : Str} {st : Stmt} {p pos : Pos} {e : Expr} {es : List Expr} {k j : Nat} {ps : List Str} {G : FD} {f : FA} (D : Df X.prog X.w cf X.mg X.base x st ps k G) (hb : BindsT x x st ps) (hK : X.K = cf.K) (hr : Room j X.A) (hj : k ≤ j) (tk : Takes X W) (ha : CA cf X W (e :: es) f)
    (hg : Gl X x := by rfl) (hdb : (x == ("__debug__" : Str)) = false := by decide) (he : starEach (e :: es) X.env = (false, eval e X.env) :: starEach es X.env := by rfl) (hpl : (backTo pos (starEach es X.env)).any (·.1) = false := by rfl) :
    CE cf X W (.Call (.Name x p) (e :: es) [] pos) (fCall ps.length G f) := by
  obtain ⟨fa, fd, F, hm, O⟩ := D.ex
  have hk := F.kp
  have hbn := F.binds hb
  rw [← hK] at O hk hbn
  exact c_call O (hr.mono hj) hm hk hbn tk ha hg hdb he hpl
theorem c_mf {E : XK} {o e : Expr} {es : List Expr} {c : Nat} {m qual : Str} {st : Stmt} {apos pos : Pos} {pl : Sem Bool} {k j : Nat} {ps : List Str} {G : FD} {fo : FE} {fa : FA} (D : Mf X.prog X.w cf X.mg X.base c m qual st ps k G) (hb : BindsT m qual st ps) (cl : Cls cf.K (cf.cls c)) (hno : m ∉ cf.nam c) (hK : X.K = cf.K) (hr : Room j X.A) (hj : k ≤ j) (tk : Takes X (WD E)) (ho : CE cf X (WD E) o fo) (ha : CA cf X (WD E) (e :: es) fa)
    (hst : starEach (e :: es) X.env = (false, eval e X.env) :: starEach es X.env := by rfl) (hpl : (backTo pos (starEach es X.env)).any (·.1) = false := by rfl)
    (ht : eval (.Call (.Attribute o m apos) (e :: es) [] pos) X.env = (do
      let ov ← eval o X.env
      standAt apos.atName
      let (f, first) ← holding [ov] (getMethod ov m pl)
      callWith pos f first (backTo pos (starEach (e :: es) X.env)) (backToKw pos (keywordEach [] X.env))) := by rfl) :
    CE cf X (WD E) (.Call (.Attribute o m apos) (e :: es) [] pos) (fMth c ps.length G fo fa) := by
  obtain ⟨g, fd, F, hm, O⟩ := D.ex
  have hbn := F.binds hb
  rw [← hK] at O hm hbn cl
  exact c_mth hK cl hm O (hr.mono hj) hbn tk hno ho ha hst hpl ht
theorem c_mf0 {E : XK} {o : Expr} {c : Nat} {m qual : Str} {st : Stmt} {apos pos : Pos} {pl : Sem Bool} {k j : Nat} {ps : Str} {G : FD} {fo : FE} (D : Mf X.prog X.w cf X.mg X.base c m qual st [ps] k G) (hb : BindsT m qual st [ps]) (cl : Cls cf.K (cf.cls c)) (hno : m ∉ cf.nam c) (hK : X.K = cf.K) (hr : Room j X.A) (hj : k ≤ j) (tk : Takes X (WD E)) (ho : CE cf X (WD E) o fo)
    (ht : eval (.Call (.Attribute o m apos) [] [] pos) X.env = (do
      let ov ← eval o X.env
      standAt apos.atName
      let (f, first) ← holding [ov] (getMethod ov m pl)
      callWith pos f first (backTo pos (starEach [] X.env)) (backToKw pos (keywordEach [] X.env))) := by rfl) :
    CE cf X (WD E) (.Call (.Attribute o m apos) [] [] pos) (fMth c 1 G fo fNil) := by
  obtain ⟨g, fd, F, hm, O⟩ := D.ex
  have hbn := F.binds hb
  rw [← hK] at O hm hbn cl
  exact c_mth0 hK cl hm O (hr.mono hj) hbn tk hno ho ht
theorem mk_of {x : Str} {c : Nat} {f : Addr} (M : Mak cf X.mg x c) (hK : X.K = cf.K) (hm : Meth cf.K (cf.cls c) "__init__" f) : Mk X.K (cf.cls c) f := by
  rw [hK]
  exact ⟨M.makes, hm.at_, hm.fn, M.keep⟩
theorem c_mk {E : XK} {x qual : Str} {st : Stmt} {p pos : Pos} {e : Expr} {es : List Expr} {k j c : Nat} {ps : List Str} {G : FD} {fa : FA} (o0 : AO) (ho0 : o0 = .ins c [] ∨ o0 = .slt c []) (D : Mf X.prog X.w cf X.mg X.base c "__init__" qual st ps k G) (M : Mak cf X.mg x c) (hb : BindsT "__init__" qual st ps) (hK : X.K = cf.K) (hr : Room j X.A) (hj : k + 1 ≤ j) (tk : Takes X (WD E)) (ha : CA cf X (WD E) (e :: es) fa)
    (hg : Gl X x := by rfl) (hdb : (x == ("__debug__" : Str)) = false := by decide) (he : starEach (e :: es) X.env = (false, eval e X.env) :: starEach es X.env := by rfl) (hpl : (backTo pos (starEach es X.env)).any (·.1) = false := by rfl) :
    CE cf X (WD E) (.Call (.Name x p) (e :: es) [] pos) (fMake o0 ps.length G fa) := by
  obtain ⟨g, fd, F, hm, O⟩ := D.ex
  have hbn := F.binds hb
  rw [← hK] at O hbn
  exact c_make ho0 (mk_of M hK hm) O (hr.mono hj) M.gl hbn tk ha hg hdb he hpl

/-! ### keywords alone -/
structure CK (cf : Cfg) (X : Cx) (W : WX) (kws : List Keyword) (f : FA) : Prop where
  ex : ∃ t, PK X kws t ∧ AOk cf W t f
theorem ck_nil : CK cf X W [] fNil := ⟨_, pk_nil, ok_nil⟩
theorem ck_cons {nm : Option Str} {e : Expr} {kpos : Pos} {kws : List Keyword} {f : FE} {g : FA} (h : CE cf X W e f) (k : CK cf X W kws g) : CK cf X W (⟨nm, e, kpos⟩ :: kws) (fCons f g) := by
  obtain ⟨t, p, o⟩ := h.ex
  obtain ⟨u, p', o'⟩ := k.ex
  exact ⟨_, pk_cons p p', ok_cons o o'⟩
/-- the values of keywords put in the parameters' order -/
def perm (ix : List Nat) {α : Type} (us ws : List α) : List α := us ++ ix.filterMap fun i => ws[i]?
theorem vals_perm : ∀ (ix : List Nat) {zs : List V} {ws : List Value}, Vals zs ws → Vals (ix.filterMap fun i => zs[i]?) (ix.filterMap fun i => ws[i]?)
  | [], _, _, _ => .nil
  | i :: ix, zs, ws, r => by
    have ih := vals_perm ix r
    rw [List.filterMap_cons, List.filterMap_cons]
    cases e : zs[i]? with
    | none =>
      have h : ws[i]? = none := by
        rw [List.getElem?_eq_none_iff] at e ⊢
        rw [← r.length]
        exact e
      rw [h]
      exact ih
    | some v =>
      obtain ⟨u, hu, ru⟩ := r.get e
      rw [hu]
      exact .cons ru ih
theorem vals_app : ∀ {vs zs : List V} {us ws : List Value}, Vals vs us → Vals zs ws → Vals (vs ++ zs) (us ++ ws)
  | _, _, _, _, .nil, s => s
  | _, _, _, _, .cons r t, s => .cons r (vals_app t s)
theorem RelAs.perm {K : PySem.W.Frag} {m : List Addr} {H : Hp} : ∀ (ix : List Nat) {zs : List AV} {ws : List V}, RelAs K m H zs ws → RelAs K m H (ix.filterMap fun i => zs[i]?) (ix.filterMap fun i => ws[i]?)
  | [], _, _, _ => .nil
  | i :: ix, zs, ws, r => by
    have ih := RelAs.perm ix r
    rw [List.filterMap_cons, List.filterMap_cons]
    cases e : zs[i]? with
    | none =>
      have h : ws[i]? = none := by
        rw [List.getElem?_eq_none_iff] at e ⊢
        rw [← r.length]
        exact e
      rw [h]
      exact ih
    | some v =>
      obtain ⟨u, hu, ru⟩ := r.get e
      rw [hu]
      exact .cons ru ih
/-- a def's call, the values in the parameters' order -/
def gOrd (l m : Nat) (ix : List Nat) (G : FD) : List AV → FD := fun as bs A => if bs.length = m ∧ (perm ix as bs).length = l then G (perm ix as bs) A else .er
def fCallK (l m : Nat) (ix : List Nat) (G : FD) (fk : FA) : FE := fun ρ A => (fk ρ A).bind fun bs A => gOrd l m ix G [] bs A
/-- a call by keywords of the object at g, first the values vs -/
theorem run_kw {x qual : Str} {st : Stmt} {k j n : Nat} {ps ks : List Str} {G : FD} {ix : List Nat} {g : Addr} {fd : FuncData} {E : L2.St → XK} {pins : List (Addr × Obj)} {σ : L2.St} {H : Hp} {s : Shared} {Q : VK} {us ws : List Value} {vs zs : List V}
    (F : Fun cf.K x qual st g fd) (O : FnOk X.prog X.w X.K X.mg X.base (L2.CX X.prog X.w) k g fd ps (spOf cf ps.length G)) (hb : BindsKw x qual st ps ks n (perm ix)) (hr : Room k X.A) (hx : PassesAt (L2.CX X.prog X.w) X σ (E σ)) (I : Inv X pins σ H s) (r : Vals vs us) (rz : Vals zs ws) (l1 : vs.length = n) (l2 : zs.length = ks.length)
    (l3 : (perm ix vs zs).length = ps.length) (q : spOf cf ps.length G (perm ix vs zs) H Q (E σ)) : wpAny (model X.prog X.w) X.A (call (.ref g) us (ks.zip ws)) (EP X pins σ Q) X.xe s := by
  have rg : Vals (perm ix vs zs) (perm ix us ws) := vals_app r (vals_perm ix rz)
  have hbt : BindsTo s fd ⟨us, ks.zip ws⟩ (ps.zip (perm ix us ws)) := by
    obtain ⟨oc, od, kV, doc, pm, an, cdv, ct, osl, rfl, lk, hcd⟩ := F.ex
    exact .of_eq (hb kV doc pm an cdv ct us ws (by rw [← r.length]; exact l1) (by rw [← rz.length]; exact l2))
  refine wpAny_call (codeAny_mono (O.run X.A X.stack s H ⟨us, ks.zip ws⟩ (perm ix us ws) (perm ix vs zs) Q (E σ) hr I.env0 hbt rg q) fun r s' hq => ?_)
  cases r with
  | error e => exact hx pins H s e s' I hq
  | ok fl =>
    cases fl with
    | ret u => exact I.after hq
    | next => exact False.elim hq
    | brk => exact False.elim hq
    | cont => exact False.elim hq
theorem c_dfK {x : Str} {st : Stmt} {p pos : Pos} {kws : List Keyword} {k j : Nat} {ps : List Str} {G : FD} {fk : FA} (ks : List Str) (ix : List Nat) (D : Df X.prog X.w cf X.mg X.base x st ps k G) (hb : BindsKw x x st ps ks 0 (perm ix)) (hK : X.K = cf.K) (hr : Room j X.A) (hj : k ≤ j) (tk : Takes X W) (ha : CK cf X W kws fk)
    (hall : (backToKw pos (keywordEach kws X.env)).all (·.1.isSome) = true := by rfl) (hks : (backToKw pos (keywordEach kws X.env)).filterMap (·.1) = ks := by rfl)
    (hg : Gl X x := by rfl) (hdb : (x == ("__debug__" : Str)) = false := by decide)
    (hpl : ((backTo pos (starEach [] X.env)).any (·.1) || (backToKw pos (keywordEach kws X.env)).any (·.1.isNone)) = false := by rfl) :
    CE cf X W (.Call (.Name x p) [] kws pos) (fCallK ps.length ks.length ix G fk) := by
  obtain ⟨fa, fd, F, hm, O⟩ := D.ex
  obtain ⟨t, hkw, o⟩ := ha.ex
  have hk := F.kp
  rw [← hK] at O hk
  refine ⟨fun σ H Q => t σ H fun zs H2 => zs.length = ks.length ∧ (perm ix [] zs).length = ps.length ∧ spOf cf ps.length G (perm ix [] zs) H2 Q (WE W σ), ⟨fun pins s σ H Q I h => ?_⟩, fun ρ σ m H A Q S L P => ?_⟩
  · refine wpAny_Call_Name_kw (ld_glob I hg hm ?_ hdb)
    refine PySem.W.callWith_KW0 (h₀ := X.base) I.ok.mod.kin hk hall ?_ hpl
    refine thn (hkw.run pos pins s σ H _ I h) fun ws s2 ⟨zs, H2, I2, rz, l2, l3, q2⟩ => ⟨I2.kIn, ?_⟩
    rw [hks]
    exact run_kw (us := []) (vs := []) (E := fun σ => WE W σ) (j := 0) F O hb (hr.mono hj) (passAt tk σ) I2 .nil rz rfl l2 l3 q2
  · refine o.then S L P fun bs zs m1 H1 A1 _ g1 L1 r P1 => ?_
    obtain ⟨⟨h2, h3⟩, P1⟩ := post_if P1
    have rr : RelAs cf.K m1 H1 (perm ix [] bs) (perm ix [] zs) := RelAs.app .nil (RelAs.perm ix r)
    exact ⟨by rw [← r.length]; exact h2, by rw [← rr.length]; exact h3, m1, A1, _, g1.sim, rr, h3, post_w P1⟩
/-- C(k = v, ..) -/
def fMakeK (o0 : AO) (l m : Nat) (ix : List Nat) (G : FD) (fk : FA) : FE := fun ρ A => (fk ρ A).bind fun bs A => (gOrd l m ix G [.obj A.length] bs (A ++ [o0])).bind fun v B => match v with
  | .non => .ok (.obj A.length) B
  | _ => .er
theorem c_mkK {E : XK} {x qual : Str} {st : Stmt} {p pos : Pos} {kws : List Keyword} {k j c : Nat} {ps : List Str} {G : FD} {fk : FA} (o0 : AO) (ks : List Str) (ix : List Nat) (ho0 : o0 = .ins c [] ∨ o0 = .slt c []) (D : Mf X.prog X.w cf X.mg X.base c "__init__" qual st ps k G) (M : Mak cf X.mg x c) (hb : BindsKw "__init__" qual st ps ks 1 (perm ix)) (hK : X.K = cf.K) (hr : Room j X.A) (hj : k + 1 ≤ j) (tk : Takes X (WD E)) (ha : CK cf X (WD E) kws fk)
    (hall : (backToKw pos (keywordEach kws X.env)).all (·.1.isSome) = true := by rfl) (hks : (backToKw pos (keywordEach kws X.env)).filterMap (·.1) = ks := by rfl)
    (hg : Gl X x := by rfl) (hdb : (x == ("__debug__" : Str)) = false := by decide)
    (hpl : ((backTo pos (starEach [] X.env)).any (·.1) || (backToKw pos (keywordEach kws X.env)).any (·.1.isNone)) = false := by rfl) :
    CE cf X (WD E) (.Call (.Name x p) [] kws pos) (fMakeK o0 ps.length ks.length ix G fk) := by
  obtain ⟨fi, fd, F, hm, O⟩ := D.ex
  obtain ⟨t, hkw, o⟩ := ha.ex
  have hMk := mk_of M hK hm
  rw [← hK] at O
  have hM := M.gl
  refine ⟨fun σ H Q => t σ H fun zs H2 => zs.length = ks.length ∧ ∀ y dx, H2 y = none → H2 dx = none → dx ≠ y → (perm ix [V.ref y] zs).length = ps.length ∧ spOf cf ps.length G (perm ix [V.ref y] zs) (upd (upd H2 dx (.own y)) y (.ins (cf.cls c) dx [])) (fun v H3 => v = .non ∧ Q (.ref y) H3) E,
    ⟨fun pins s σ H Q I h => ?_⟩, fun ρ σ m H A Q S L P => ?_⟩
  · refine wpAny_Call_Name_kw (ld_glob I hg hM ?_ hdb)
    refine PySem.W.callWith_KW0 (h₀ := X.base) I.ok.mod.kin hMk.kp hall ?_ hpl
    refine thn (hkw.run pos pins s σ H _ I h) fun ws s2 ⟨zs, H2, I2, rz, l2, q2⟩ => ⟨I2.kIn, ?_⟩
    rw [hks]
    obtain ⟨l3, hq⟩ := q2 (s2.heap.objs.size + 1) s2.heap.objs.size (I2.hok.fresh (Nat.le_succ _)) (I2.hok.fresh (Nat.le_refl _)) (Nat.ne_of_lt (Nat.lt_succ_self _))
    have I3 := Inv.made (C := cf.cls c) I2
    have r1 : Vals [V.ref (s2.heap.objs.size + 1)] [Value.ref (s2.heap.objs.size + 1)] := .cons rfl .nil
    have rg : Vals (perm ix [V.ref (s2.heap.objs.size + 1)] zs) (perm ix [Value.ref (s2.heap.objs.size + 1)] ws) := vals_app r1 (vals_perm ix rz)
    refine wpAny_call (make_map (f := fi) I2.kIn hMk.makes hMk.init (beq_iff_eq.mp hMk.fn) (codeAny_mono (O.run _ X.stack _ _ ⟨[Value.ref (s2.heap.objs.size + 1)], ks.zip ws⟩ (perm ix [Value.ref (s2.heap.objs.size + 1)] ws) _ _ E ((hr.mono hj).make (cf.cls c) [] (ks.zip ws))
      (I3.env0.make (cf.cls c) [] (ks.zip ws)) ?_ rg hq) fun r s' hq' => ?_))
    · obtain ⟨oc, od, kV, doc, pm, an, cdv, ct, osl, rfl, lk, hcd⟩ := F.ex
      exact .of_eq (hb kV doc pm an cdv ct _ ws rfl (by rw [← rz.length]; exact l2))
    · cases r with
      | error e => exact (passW (W := WD E) tk) pins σ _ _ e s' I3 hq'
      | ok fl =>
        cases fl with
        | ret u =>
          obtain ⟨v, H', I4, rv, ev, q3⟩ := I3.after hq'
          subst ev
          exact ⟨rv, ⟨V.ref (s2.heap.objs.size + 1), H', I4, rfl, q3⟩⟩
        | next => exact False.elim hq'
        | brk => exact False.elim hq'
        | cont => exact False.elim hq'
  · refine o.then S L P fun bs zs m1 H1 A1 _ g1 L1 r P1 => ?_
    have h2 : bs.length = ks.length ∧ (perm ix [AV.obj A1.length] bs).length = ps.length := by
      by_cases hc : bs.length = ks.length ∧ (perm ix [AV.obj A1.length] bs).length = ps.length
      · exact hc
      · exfalso
        unfold gOrd at P1
        rw [if_neg hc] at P1
        exact P1
    refine ⟨by rw [← r.length]; exact h2.1, fun y dx hy hd ne => ?_⟩
    have gm : Go cf m1 H1 (m1 ++ [y]) (upd (upd H1 dx (.own y)) y (.ins (cf.cls c) dx [])) (A1 ++ [o0]) := by
      rcases ho0 with z | z
      · subst z
        exact made_ins g1.sim hy hd ne
      · subst z
        exact made_slt g1.sim hy hd ne
    have hk : (m1 ++ [y])[A1.length]? = some y := by
      rw [← g1.sim.len, List.getElem?_append_right (Nat.le_refl _)]
      simp
    have rr : RelAs cf.K (m1 ++ [y]) (upd (upd H1 dx (.own y)) y (.ins (cf.cls c) dx [])) (perm ix [AV.obj A1.length] bs) (perm ix [V.ref y] zs) := RelAs.app (.cons (.obj hk) .nil) (RelAs.perm ix (r.mono gm.pre gm.fz))
    refine ⟨by rw [← rr.length]; exact h2.2, _, _, _, gm.sim, rr, h2.2, ?_⟩
    have P2 := Post.mono gm P1
    unfold gOrd at P2
    rw [if_pos h2] at P2
    cases eg : G (perm ix [AV.obj A1.length] bs) (A1 ++ [o0]) with
    | ok v B =>
      rw [eg] at P2
      intro m2 H2 u g2 ru
      have P3 := Post.mono g2 P2
      simp only [Res.bind_ok] at P3
      split at P3
      · exact ⟨ru.to_non, P3 m2 H2 _ (Go.refl g2.sim) (.obj (g2.pre _ _ hk))⟩
      · exact P3.elim
    | exc ex B =>
      rw [eg] at P2
      exact P2
    | er =>
      rw [eg] at P2
      exact P2.elim

/-! ### methods of a class with slots -/
def fMthS (c : Nat) (n : Nat) (G : FD) (fo : FE) (fa : FA) : FE := fun ρ A => (fo ρ A).bind fun x A => match x with
  | .obj k => match A[k]? with
    | some (.slt c' _) => if c' = c then (fa ρ A).bind fun as A => if as.length + 1 = n then G (.obj k :: as) A else .er else .er
    | _ => .er
  | _ => .er
theorem fnR_of {k : Nat} {f : Addr} {fd : FuncData} {ps : List Str} {sp : Sp} (F : FnOk X.prog X.w X.K X.mg X.base (L2.CX X.prog X.w) k f fd ps sp) (hb : L2.Binds X.K fd ps []) : L2.FnR X.prog X.w X.K X.mg X.base (L2.CX X.prog X.w) k f sp := by
  have h := F.raw hb .nil
  simpa using h
theorem c_sm {E : XK} {o e : Expr} {es : List Expr} {c : Nat} {m qual : Str} {st : Stmt} {apos pos : Pos} {pl : Sem Bool} {k j : Nat} {ps : List Str} {G : FD} {fo : FE} {fa : FA} (D : Mf X.prog X.w cf X.mg X.base c m qual st ps k G) (hb : BindsT m qual st ps) (cl : SlX.SCls cf.K (cf.cls c)) (hK : X.K = cf.K) (hr : Room j X.A) (hj : k ≤ j) (tk : Takes X (WD E)) (ho : CE cf X (WD E) o fo) (ha : CA cf X (WD E) (e :: es) fa)
    (hst : starEach (e :: es) X.env = (false, eval e X.env) :: starEach es X.env := by rfl) (hpl : (backTo pos (starEach es X.env)).any (·.1) = false := by rfl)
    (ht : eval (.Call (.Attribute o m apos) (e :: es) [] pos) X.env = (do
      let ov ← eval o X.env
      standAt apos.atName
      let (f, first) ← holding [ov] (getMethod ov m pl)
      callWith pos f first (backTo pos (starEach (e :: es) X.env)) (backToKw pos (keywordEach [] X.env))) := by rfl) :
    CE cf X (WD E) (.Call (.Attribute o m apos) (e :: es) [] pos) (fMthS c ps.length G fo fa) := by
  obtain ⟨g, fd, F, hm, O⟩ := D.ex
  have hbn := F.binds hb
  rw [← hK] at O hm hbn cl
  obtain ⟨t, p, q⟩ := ho.ex
  obtain ⟨t2, p2, q2⟩ := ha.ex
  refine ⟨_, SlX.pe_methSl p cl hm (fnR_of O hbn) (hr.mono hj) (passW (W := WD E) tk) p2 hst hpl ht, fun ρ σ mm H A Q S L P => ?_⟩
  refine q.then S L P fun x v m1 H1 A1 ea g1 L1 r1 P1 => ?_
  split at P1
  · rename_i k'
    split at P1
    · rename_i c' fs e1
      obtain ⟨hc, P1b⟩ := post_if P1
      subst hc
      obtain ⟨a, rfl, hm1, dx, vs, ne, hq, r⟩ := g1.sim.obj r1 e1
      refine ⟨a, dx, vs, rfl, slt_of (m := m1) hq, ?_⟩
      refine q2.then g1.sim L1 P1b fun as us m2 H2 A2 _ g2 L2 r2 P2 => ?_
      obtain ⟨hl2, P2⟩ := post_if P2
      exact ⟨m2, A2, _, g2.sim, .cons (RelA.mono g2.pre g2.fz r1) r2, hl2, post_wd P2⟩
    · exact P1.elim
  · exact P1.elim
/-- o.m(k = v, ..), o of a class with slots or not (sl) -/
def fMthK (sl : Bool) (c l m : Nat) (ix : List Nat) (G : FD) (fo : FE) (fk : FA) : FE := fun ρ A => (fo ρ A).bind fun x A => match x with
  | .obj k => match A[k]? with
    | some (.slt c' _) => if c' = c ∧ sl = true then (fk ρ A).bind fun bs A => gOrd l m ix G [.obj k] bs A else .er
    | some (.ins c' _) => if c' = c ∧ sl = false then (fk ρ A).bind fun bs A => gOrd l m ix G [.obj k] bs A else .er
    | _ => .er
  | _ => .er
def KindC (cf : Cfg) (sl : Bool) (c : Nat) (m : Str) : Prop := match sl with
  | true => SlX.SCls cf.K (cf.cls c)
  | false => Cls cf.K (cf.cls c) ∧ m ∉ cf.nam c
theorem c_mfK {E : XK} {o : Expr} {kws : List Keyword} {c : Nat} {m qual : Str} {st : Stmt} {apos pos : Pos} {pl : Sem Bool} {k j : Nat} {ps : List Str} {G : FD} {fo : FE} {fk : FA} (sl : Bool) (ks : List Str) (ix : List Nat) (D : Mf X.prog X.w cf X.mg X.base c m qual st ps k G) (hb : BindsKw m qual st ps ks 1 (perm ix)) (cl : KindC cf sl c m) (hK : X.K = cf.K) (hr : Room j X.A) (hj : k ≤ j) (tk : Takes X (WD E)) (ho : CE cf X (WD E) o fo) (ha : CK cf X (WD E) kws fk)
    (hall : (backToKw pos (keywordEach kws X.env)).all (·.1.isSome) = true := by rfl) (hks : (backToKw pos (keywordEach kws X.env)).filterMap (·.1) = ks := by rfl)
    (hpl : ((backTo pos (starEach [] X.env)).any (·.1) || (backToKw pos (keywordEach kws X.env)).any (·.1.isNone)) = false := by rfl)
    (ht : eval (.Call (.Attribute o m apos) [] kws pos) X.env = (do
      let ov ← eval o X.env
      standAt apos.atName
      let (f, first) ← holding [ov] (getMethod ov m pl)
      callWith pos f first (backTo pos (starEach [] X.env)) (backToKw pos (keywordEach kws X.env))) := by rfl) :
    CE cf X (WD E) (.Call (.Attribute o m apos) [] kws pos) (fMthK sl c ps.length ks.length ix G fo fk) := by
  obtain ⟨g, fd, F, hm, O⟩ := D.ex
  obtain ⟨t, p, q⟩ := ho.ex
  obtain ⟨t2, p2, q2⟩ := ha.ex
  rw [← hK] at O hm
  refine ⟨fun σ H Q => t σ H fun x H1 => ∃ a, x = V.ref a ∧ ((sl = true ∧ ∃ dx vs, SlX.Slt H1 a (cf.cls c) dx vs) ∨ (sl = false ∧ ∃ dx fs, H1 a = some (.ins (cf.cls c) dx fs) ∧ fs.lookup m = none)) ∧
    t2 σ H1 fun zs H2 => zs.length = ks.length ∧ (perm ix [V.ref a] zs).length = ps.length ∧ spOf cf ps.length G (perm ix [V.ref a] zs) H2 Q E, ⟨fun pins s σ H Q I h => ?_⟩, fun ρ σ mm H A Q S L P => ?_⟩
  · refine PySem.W.methodCall_KW (pl := pl) (thn (p.run pins s σ H _ I h) fun u s1 ⟨x, H1, I1, rx, a, ex, hsl, q⟩ => ?_) ht
    subst ex
    obtain rfl : u = Value.ref a := rx
    have key : ∀ {QQ : Value × List Value → Shared → Prop}, QQ (.ref g, [.ref a]) s1 → wpAny (model X.prog X.w) X.A (getMethod (.ref a) m pl) QQ X.xe s1 := fun {QQ} hq => by
      rcases hsl with ⟨rfl, dx, vs, hsl⟩ | ⟨rfl, dx, fs, hin, hl⟩
      · have cl' : SlX.SCls cf.K (cf.cls c) := cl
        rw [← hK] at cl'
        exact SlX.getmethsl_ok I1 hsl cl' hm hq
      · have cl' : Cls cf.K (cf.cls c) ∧ m ∉ cf.nam c := cl
        rw [← hK] at cl'
        exact getmeth_ok I1 hin cl'.1 hm hl hq
    refine key ?_
    refine PySem.W.callWith_KW0 (first := [.ref a]) (h₀ := X.base) I.ok.mod.kin hm.kp hall ?_ hpl
    refine thn (p2.run pos pins s1 σ H1 _ I1 q) fun ws s2 ⟨zs, H2, I2, rz, l2, l3, q2⟩ => ⟨I2.kIn, ?_⟩
    rw [hks]
    exact run_kw (us := [.ref a]) (vs := [.ref a]) (E := fun _ => E) (j := 0) F O hb (hr.mono hj) (fun p' H' s' e s'' I' c' => (passW (W := WD E) tk) p' σ H' s' e s'' I' c') I2 (.cons rfl .nil) rz rfl l2 l3 q2
  · refine q.then S L P fun x v m1 H1 A1 ea g1 L1 r1 P1 => ?_
    split at P1
    · rename_i k'
      have fin : ∀ a, RelA cf.K m1 H1 (.obj k') (.ref a) → Post cf (WD E) (rA cf) m1 H1 σ Q ((fk ρ A1).bind fun bs A => gOrd ps.length ks.length ix G [.obj k'] bs A) → t2 σ H1 fun zs H2 => zs.length = ks.length ∧ (perm ix [V.ref a] zs).length = ps.length ∧ spOf cf ps.length G (perm ix [V.ref a] zs) H2 Q E := fun a ra P2 => by
        refine q2.then g1.sim L1 P2 fun bs zs m2 H2 A2 _ g2 L2 r2 P3 => ?_
        obtain ⟨⟨h2, h3⟩, P3⟩ := post_if P3
        have rr : RelAs cf.K m2 H2 (perm ix [AV.obj k'] bs) (perm ix [V.ref a] zs) := RelAs.app (.cons (RelA.mono g2.pre g2.fz ra) .nil) (RelAs.perm ix r2)
        exact ⟨by rw [← r2.length]; exact h2, by rw [← rr.length]; exact h3, m2, A2, _, g2.sim, rr, h3, post_wd P3⟩
      split at P1
      · rename_i c' fs e1
        obtain ⟨⟨hc, hs⟩, P1b⟩ := post_if P1
        subst hc
        obtain ⟨a, rfl, hm1, dx, vs, ne, hq, r⟩ := g1.sim.obj r1 e1
        exact ⟨a, rfl, .inl ⟨hs, dx, vs, slt_of (m := m1) hq⟩, fin a r1 P1b⟩
      · rename_i c' fs e1
        obtain ⟨⟨hc, hs⟩, P1b⟩ := post_if P1
        subst hc
        obtain ⟨a, rfl, hm1, dx, vs, h3, hl, r⟩ := g1.sim.obj r1 e1
        subst hs
        have cl' : Cls cf.K (cf.cls c') ∧ m ∉ cf.nam c' := cl
        exact ⟨a, rfl, .inr ⟨rfl, dx, _, h3, zip_none cl'.2⟩, fin a r1 P1b⟩
      · exact P1.elim
    · exact P1.elim
/-! ### never come to; small operators -/
theorem pe_nv {e : Expr} : PE X e (fun _ _ _ => False) := ⟨fun _ _ _ _ _ _ h => h.elim⟩
def fErE : FE := fun _ _ => .er
theorem c_never {e : Expr} : CE cf X W e fErE := ⟨_, pe_nv, fun ρ σ m H A Q S L P => P⟩
def gNeg : AV → AH → Res AV := fun x A => match x with
  | .int i => .ok (.int (-i)) A
  | _ => .er
def f1 (g : AV → AH → Res AV) (fa : FE) : FE := fun ρ A => (fa ρ A).bind fun x A => g x A
theorem c_neg {a : Expr} {pos : Pos} {fa : FE} (h : CE cf X W a fa) : CE cf X W (.UnaryOp .USub a pos) (f1 gNeg fa) := by
  obtain ⟨t, p, o⟩ := h.ex
  refine ⟨_, pe_un un_neg p, fun ρ σ m H A Q S L P => ?_⟩
  refine o.then S L P fun x v m1 H1 A1 e1 g1 L1 r P1 => ?_
  clear e1
  unfold gNeg at P1
  split at P1
  · exact ⟨_, r.to_int, P1 m1 H1 _ (Go.refl g1.sim) (.int _)⟩
  · exact P1.elim
end
end Dn

set_option maxRecDepth 100000
set_option maxHeartbeats 2000000
/-! Dn, part J: data: sums, any, all, least and greatest, sorted, removed; comparisons. -/
namespace Dn
open PySem L2 PyProof.Rows

section
variable {cf : Cfg} {X : Cx} {W : WX}
/-- a list's items (no tuple's) -/
def lsAt (A : AH) : AV → Option (List AV)
  | .obj n => match A[n]? with
    | some (.lst xs) => some xs
    | _ => none
  | .scr ns => some (ns.map AV.int)
  | _ => none
theorem lsAt_ok {m : List Addr} {H : Hp} {A : AH} {x : AV} {v : V} {xs : List AV} (S : Sim cf m H A) (r : RelA cf.K m H x v) (h : lsAt A x = some xs) : ∃ a vs, v = .ref a ∧ SqL cf.K H a vs ∧ RelAs cf.K m H xs vs := by
  cases x with
  | obj n =>
    obtain ⟨_, a, ws, _, e1, _, e3, r'⟩ := lstAt_ok S r (show lstAt A (.obj n) = some xs from h)
    exact ⟨a, ws, e1, SqL.of e3, r'⟩
  | scr ns =>
    cases h
    cases r with
    | scr h => exact ⟨_, _, rfl, h.sq, RelAs.ints ns⟩
  | _ => cases h
def asI : AV → Option Int
  | .int i => some i
  | _ => none
def asBo : AV → Option Bool
  | .bl i => some i
  | _ => none
theorem asI_all {K : PySem.W.Frag} {m : List Addr} {H : Hp} : ∀ {xs : List AV} {vs : List V} {ns : List Int}, RelAs K m H xs vs → mapO asI xs = some ns → vs = ns.map V.int
  | [], _, ks, r, h => by
    cases h
    cases r
    rfl
  | x :: xs, _, ks, r, h => by
    obtain ⟨k, es, h1, h2, rfl⟩ := mapO_cons h
    cases r with
    | cons r1 r2 =>
      cases x with
      | int i =>
        cases h1
        rw [r1.to_int, asI_all r2 h2]
        rfl
      | _ => cases h1
theorem asB_all {K : PySem.W.Frag} {m : List Addr} {H : Hp} : ∀ {xs : List AV} {vs : List V} {ns : List Bool}, RelAs K m H xs vs → mapO asBo xs = some ns → vs = ns.map V.bl
  | [], _, ks, r, h => by
    cases h
    cases r
    rfl
  | x :: xs, _, ks, r, h => by
    obtain ⟨k, es, h1, h2, rfl⟩ := mapO_cons h
    cases r with
    | cons r1 r2 =>
      cases x with
      | bl i =>
        cases h1
        rw [r1.to_bl, asB_all r2 h2]
        rfl
      | _ => cases h1
/-- the ints of a list -/
def ilAt (A : AH) (x : AV) : Option (List Int) := (lsAt A x).bind (mapO asI)
theorem ilAt_ok {m : List Addr} {H : Hp} {A : AH} {x : AV} {v : V} {ns : List Int} (S : Sim cf m H A) (r : RelA cf.K m H x v) (h : ilAt A x = some ns) : ∃ a, v = .ref a ∧ SqL cf.K H a (ns.map V.int) := by
  unfold ilAt at h
  rw [Option.bind_eq_some_iff] at h
  obtain ⟨xs, h1, h2⟩ := h
  obtain ⟨a, vs, rfl, hs, r2⟩ := lsAt_ok S r h1
  rw [asI_all r2 h2] at hs
  exact ⟨a, rfl, hs⟩
def blAt (A : AH) (x : AV) : Option (List Bool) := (lsAt A x).bind (mapO asBo)
theorem blAt_ok {m : List Addr} {H : Hp} {A : AH} {x : AV} {v : V} {ns : List Bool} (S : Sim cf m H A) (r : RelA cf.K m H x v) (h : blAt A x = some ns) : ∃ a, v = .ref a ∧ SqL cf.K H a (ns.map V.bl) := by
  unfold blAt at h
  rw [Option.bind_eq_some_iff] at h
  obtain ⟨xs, h1, h2⟩ := h
  obtain ⟨a, vs, rfl, hs, r2⟩ := lsAt_ok S r h1
  rw [asB_all r2 h2] at hs
  exact ⟨a, rfl, hs⟩
def gSum : FD := fun xs A => match xs with
  | [x] => match ilAt A x with
    | some ns => .ok (.int ns.sum) A
    | none => .er
  | _ => .er
theorem ok_sum : CbOk cf (rSum cf.K) gSum := fun W m H A σ Q xs vs S r P => by
  unfold gSum at P
  split at P
  · split at P
    · rename_i e
      obtain ⟨v, rfl, q⟩ := r.one
      obtain ⟨a, rfl, hs⟩ := ilAt_ok S q e
      exact ⟨a, _, rfl, hs, P m H _ (Go.refl S) (.int _)⟩
    · exact P.elim
  · exact P.elim
def gAny : FD := fun xs A => match xs with
  | [x] => match blAt A x with
    | some ns => .ok (.bl (ns.any id)) A
    | none => .er
  | _ => .er
theorem ok_any : CbOk cf (rAny cf.K) gAny := fun W m H A σ Q xs vs S r P => by
  unfold gAny at P
  split at P
  · split at P
    · rename_i e
      obtain ⟨v, rfl, q⟩ := r.one
      obtain ⟨a, rfl, hs⟩ := blAt_ok S q e
      exact ⟨a, _, rfl, hs, P m H _ (Go.refl S) (.bl _)⟩
    · exact P.elim
  · exact P.elim
def gAll : FD := fun xs A => match xs with
  | [x] => match blAt A x with
    | some ns => .ok (.bl (ns.all id)) A
    | none => .er
  | _ => .er
theorem ok_all : CbOk cf (rAll cf.K) gAll := fun W m H A σ Q xs vs S r P => by
  unfold gAll at P
  split at P
  · split at P
    · rename_i e
      obtain ⟨v, rfl, q⟩ := r.one
      obtain ⟨a, rfl, hs⟩ := blAt_ok S q e
      exact ⟨a, _, rfl, hs, P m H _ (Go.refl S) (.bl _)⟩
    · exact P.elim
  · exact P.elim

/-! ### sorted -/
def insI (x : Int) : List Int → List Int
  | [] => [x]
  | y :: ys => if x ≤ y then x :: y :: ys else y :: insI x ys
def srtI : List Int → List Int
  | [] => []
  | x :: xs => insI x (srtI xs)
theorem insI_perm (x : Int) : ∀ ys, (insI x ys).Perm (x :: ys)
  | [] => .refl _
  | y :: ys => by
    unfold insI
    split
    · exact .refl _
    · exact ((insI_perm x ys).cons y).trans (.swap x y ys)
theorem srtI_perm : ∀ xs, (srtI xs).Perm xs
  | [] => .refl _
  | x :: xs => (insI_perm x _).trans ((srtI_perm xs).cons x)
theorem insI_srt (x : Int) : ∀ {ys : List Int}, ys.Pairwise (· ≤ ·) → (insI x ys).Pairwise (· ≤ ·)
  | [], _ => by simp [insI]
  | y :: ys, h => by
    unfold insI
    rw [List.pairwise_cons] at h
    split
    · rename_i hx
      refine List.pairwise_cons.mpr ⟨fun z hz => ?_, List.pairwise_cons.mpr h⟩
      rcases List.mem_cons.mp hz with e | hz
      · rw [e]; exact hx
      · exact Int.le_trans hx (h.1 z hz)
    · rename_i hx
      refine List.pairwise_cons.mpr ⟨fun z hz => ?_, insI_srt x h.2⟩
      rcases List.mem_cons.mp ((insI_perm x ys).mem_iff.mp hz) with e | hz
      · rw [e]; omega
      · exact h.1 z hz
theorem srtI_srt : ∀ xs, (srtI xs).Pairwise (· ≤ ·)
  | [] => .nil
  | x :: xs => insI_srt x (srtI_srt xs)
theorem perm_srt_eq : ∀ {xs ys : List Int}, xs.Perm ys → xs.Pairwise (· ≤ ·) → ys.Pairwise (· ≤ ·) → xs = ys := fun p h1 h2 => p.eq_of_pairwise (fun a b _ _ x y => Int.le_antisymm x y) h1 h2
/-- pairs of ints -/
def asP : AV → Option (Int × Int)
  | .tup [.int i, .int j] => some (i, j)
  | _ => none
def leP (p q : Int × Int) : Bool := decide (p.1 < q.1) || (decide (p.1 = q.1) && decide (p.2 ≤ q.2))
def insP (x : Int × Int) : List (Int × Int) → List (Int × Int)
  | [] => [x]
  | y :: ys => if leP x y = true then x :: y :: ys else y :: insP x ys
def srtP : List (Int × Int) → List (Int × Int)
  | [] => []
  | x :: xs => insP x (srtP xs)
def pA (p : Int × Int) : AV := .tup [.int p.1, .int p.2]
def gSorted : FD := fun xs A => match xs with
  | [x] => match lsAt A x with
    | some ys => match mapO asI ys with
      | some ns => .ok (.obj A.length) (A ++ [.lst ((srtI ns).map AV.int)])
      | none => match mapO asP ys with
        | some ps => .ok (.obj A.length) (A ++ [.lst ((srtP ps).map pA)])
        | none => .er
    | none => .er
  | _ => .er
theorem leP_iff {p q : Int × Int} : leP p q = true ↔ p.1 < q.1 ∨ (p.1 = q.1 ∧ p.2 ≤ q.2) := by
  simp [leP]
theorem insP_perm (x : Int × Int) : ∀ ys, (insP x ys).Perm (x :: ys)
  | [] => .refl _
  | y :: ys => by
    unfold insP
    split
    · exact .refl _
    · exact ((insP_perm x ys).cons y).trans (.swap x y ys)
theorem srtP_perm : ∀ xs, (srtP xs).Perm xs
  | [] => .refl _
  | x :: xs => (insP_perm x _).trans ((srtP_perm xs).cons x)
theorem leP_tot {p q : Int × Int} (h : ¬ leP p q = true) : leP q p = true := by
  rw [leP_iff] at h ⊢
  omega
theorem leP_tr {p q r : Int × Int} (h : leP p q = true) (k : leP q r = true) : leP p r = true := by
  rw [leP_iff] at h k ⊢
  omega
theorem leP_anti {p q : Int × Int} (h : leP p q = true) (k : leP q p = true) : p = q := by
  rw [leP_iff] at h k
  obtain ⟨a, b⟩ := p
  obtain ⟨c, d⟩ := q
  simp only at h k
  rw [Prod.mk.injEq]
  omega
theorem insP_srt (x : Int × Int) : ∀ {ys : List (Int × Int)}, ys.Pairwise (fun p q => leP p q = true) → (insP x ys).Pairwise (fun p q => leP p q = true)
  | [], _ => by simp [insP]
  | y :: ys, h => by
    unfold insP
    rw [List.pairwise_cons] at h
    split
    · rename_i hx
      refine List.pairwise_cons.mpr ⟨fun z hz => ?_, List.pairwise_cons.mpr h⟩
      rcases List.mem_cons.mp hz with e | hz
      · rw [e]; exact hx
      · exact leP_tr hx (h.1 z hz)
    · rename_i hx
      refine List.pairwise_cons.mpr ⟨fun z hz => ?_, insP_srt x h.2⟩
      rcases List.mem_cons.mp ((insP_perm x ys).mem_iff.mp hz) with e | hz
      · rw [e]; exact leP_tot hx
      · exact h.1 z hz
theorem srtP_srt : ∀ xs, (srtP xs).Pairwise (fun p q => leP p q = true)
  | [] => .nil
  | x :: xs => insP_srt x (srtP_srt xs)
/-- the pair that stands at a reference -/
def kH (H : Hp) : V → Int × Int
  | .ref t => match H t with
    | some (.tup [.int i, .int j]) => (i, j)
    | _ => (0, 0)
  | _ => (0, 0)
theorem asP_all {K : PySem.W.Frag} {m : List Addr} {H : Hp} : ∀ {xs : List AV} {vs : List V} {ps : List (Int × Int)}, RelAs K m H xs vs → mapO asP xs = some ps → vs.map (kH H) = ps ∧ ∀ x ∈ vs, ∃ t, x = .ref t ∧ H t = some (.tup [.int (kH H x).1, .int (kH H x).2])
  | [], _, ks, r, h => by
    cases h
    cases r
    exact ⟨rfl, fun x hx => nomatch hx⟩
  | x :: xs, _, ks, r, h => by
    obtain ⟨k, es, h1, h2, rfl⟩ := mapO_cons h
    cases r with
    | cons r1 r2 =>
      rename_i v vs
      obtain ⟨e1, e2⟩ := asP_all r2 h2
      unfold asP at h1
      split at h1
      · rename_i i j
        cases h1
        obtain ⟨a, us, rfl, ha, ru⟩ := r1.to_tup
        obtain ⟨u1, u2, rfl, q1, q2⟩ := ru.two
        rw [q1.to_int, q2.to_int] at ha
        have hk : kH H (.ref a) = (i, j) := by simp only [kH, ha]
        refine ⟨by rw [List.map_cons, hk, e1], fun x hx => ?_⟩
        rcases List.mem_cons.mp hx with e | hx
        · subst e
          exact ⟨a, rfl, by rw [hk]; exact ha⟩
        · exact e2 x hx
      · cases h1
theorem pA_all {K : PySem.W.Frag} {m : List Addr} {H : Hp} : ∀ {vs : List V}, (∀ x ∈ vs, ∃ t, x = .ref t ∧ H t = some (.tup [.int (kH H x).1, .int (kH H x).2])) → RelAs K m H ((vs.map (kH H)).map pA) vs
  | [], _ => .nil
  | v :: vs, h => by
    obtain ⟨t, e, ht⟩ := h v List.mem_cons_self
    refine .cons ?_ (pA_all fun x hx => h x (List.mem_cons_of_mem _ hx))
    subst e
    exact .tup ht (.cons (.int _) (.cons (.int _) .nil))
abbrev rSrtAll (K : PySem.W.Frag) : List V → Hp → VK → Prop := fun vs H Q => rSortedI K vs H Q ∨ rSortedPO K vs H Q
theorem call_sorted : CallR X (.builtin "sorted") (rSrtAll X.K) := cr_sortedI.or cr_sortedPO
theorem ok_sorted : CbOk cf (rSrtAll cf.K) gSorted := fun W m H A σ Q xs vs S r P => by
  unfold gSorted at P
  split at P
  · rename_i x
    obtain ⟨v, rfl, q⟩ := r.one
    split at P
    · rename_i ys e
      obtain ⟨a, ws, rfl, hs, r2⟩ := lsAt_ok S q e
      split at P
      · rename_i ns e2
        rw [asI_all r2 e2] at hs
        refine .inl ⟨a, ns, rfl, hs, fun ns' p hp1 hp2 hp => ?_⟩
        have en : ns' = srtI ns := perm_srt_eq (hp1.trans (srtI_perm ns).symm) hp2 (srtI_srt ns)
        subst en
        exact new_list S (RelAs.ints _) P hp
      · split at P
        · rename_i ps e3
          obtain ⟨k1, k2⟩ := asP_all r2 e3
          refine .inr ⟨a, ws, kH H, rfl, hs, k2, fun zs p hz1 hz2 hp => ?_⟩
          have k3 : ∀ x ∈ zs, ∃ t, x = .ref t ∧ H t = some (.tup [.int (kH H x).1, .int (kH H x).2]) := fun x hx => k2 x (hz2.perm.mem_iff.mp hx)
          have k4 : zs.map (kH H) = srtP ps := by
            have p1 : (zs.map (kH H)).Perm (srtP ps) := by
              have := hz2.perm.map (kH H)
              rw [k1] at this
              exact this.trans (srtP_perm ps).symm
            refine p1.eq_of_pairwise (le := fun p q => leP p q = true) (fun a b _ _ x y => leP_anti x y) ?_ (srtP_srt ps)
            refine List.pairwise_map.mpr (hz1.imp fun {x y} h => ?_)
            have h' : ¬ _ := SrtO.lexB_no.mp h
            rw [leP_iff]
            omega
          have r5 : RelAs cf.K m H ((srtP ps).map pA) zs := by rw [← k4]; exact pA_all k3
          exact new_list S r5 P hp
        · exact P.elim
    · exact P.elim
  · exact P.elim

/-! ### comparisons of data -/
def rLtD (K : PySem.W.Frag) (f : PyData → PyData → Bool) : R2 := fun x y H Q => ∃ d e, Dp K H x d ∧ Dp K H y e ∧ PySem.W.alike d e = true ∧ d ≠ .none ∧ d.depth ≤ 16 ∧ Q (.bl (f d e)) H
theorem op_ltD (hu : X.A.units + 64 < cLine) : OpR X (compareOp .Lt) (rLtD X.K PySem.W.dataLt) := by
  intro pins s σ H x y v u Q I rx ry h
  obtain ⟨d, e, hd, he, sd, se, sz, q⟩ := h
  obtain ⟨as, r1⟩ := Dp.reads I d x v hd rx
  obtain ⟨bs, r2⟩ := Dp.reads I e y u he ry
  exact PySem.W.lt_data r1 r2 sd se (by have := Nat.min_le_left d.depth e.depth; omega) ⟨.bl _, H, I, rfl, q⟩
theorem op_gtD (hu : X.A.units + 64 < cLine) : OpR X (compareOp .Gt) (rLtD X.K fun d e => PySem.W.dataLt e d) := by
  intro pins s σ H x y v u Q I rx ry h
  obtain ⟨d, e, hd, he, sd, se, sz, q⟩ := h
  obtain ⟨as, r1⟩ := Dp.reads I d x v hd rx
  obtain ⟨bs, r2⟩ := Dp.reads I e y u he ry
  exact PySem.W.gt_data r1 r2 sd se (by have := Nat.min_le_left d.depth e.depth; omega) ⟨.bl _, H, I, rfl, q⟩
theorem op_leD (hu : X.A.units + 64 < cLine) : OpR X (compareOp .LtE) (rLtD X.K fun d e => !PySem.W.dataLt e d) := by
  intro pins s σ H x y v u Q I rx ry h
  obtain ⟨d, e, hd, he, sd, se, sz, q⟩ := h
  obtain ⟨as, r1⟩ := Dp.reads I d x v hd rx
  obtain ⟨bs, r2⟩ := Dp.reads I e y u he ry
  exact PySem.W.le_data r1 r2 sd se (by have := Nat.min_le_left d.depth e.depth; omega) ⟨.bl _, H, I, rfl, q⟩
theorem op_geD (hu : X.A.units + 64 < cLine) : OpR X (compareOp .GtE) (rLtD X.K fun d e => !PySem.W.dataLt d e) := by
  intro pins s σ H x y v u Q I rx ry h
  obtain ⟨d, e, hd, he, sd, se, sz, q⟩ := h
  obtain ⟨as, r1⟩ := Dp.reads I d x v hd rx
  obtain ⟨bs, r2⟩ := Dp.reads I e y u he ry
  exact PySem.W.ge_data r1 r2 sd se (by have := Nat.min_le_left d.depth e.depth; omega) ⟨.bl _, H, I, rfl, q⟩
def nonP : PyData → Bool
  | .none => true
  | _ => false
def gCmpD (f : PyData → PyData → Bool) : F2 := fun x y A => match AV.toP A 16 x, AV.toP A 16 y with
  | some d, some e => if PySem.W.alike d e = true ∧ nonP d = false then .ok (.bl (f d e)) A else .er
  | _, _ => .er
theorem ok_cmpD (f : PyData → PyData → Bool) : R2Ok cf (rLtD cf.K f) (gCmpD f) := fun W m H A σ Q x y v w S rx ry P => by
  unfold gCmpD at P
  split at P
  · rename_i d e h1 h2
    obtain ⟨⟨ha, hn⟩, P⟩ := post_if P
    exact ⟨d, e, toP_ok S 16 x d v h1 rx, toP_ok S 16 y e w h2 ry, ha, (fun z => by subst z; cases hn), (toP_shape 16 x d h1).2, P m H _ (Go.refl S) (.bl _)⟩
  · exact P.elim
/-- ints, else data -/
def isI : AV → Bool
  | .int _ => true
  | _ => false
def gOr2 (g g' : F2) : F2 := fun x y A => match x with
  | .int _ => g x y A
  | _ => g' x y A
theorem R2Ok.or2 {r r' : R2} {g g' : F2} (h : R2Ok cf r g) (h' : R2Ok cf r' g') : R2Ok cf (fun x y H Q => r x y H Q ∨ r' x y H Q) (gOr2 g g') := fun W m H A σ Q x y v w S rx ry P => by
  unfold gOr2 at P
  split at P
  · exact .inl (h W m H A σ Q _ y v w S rx ry P)
  · exact .inr (h' W m H A σ Q x y v w S rx ry P)
def gLtA : F2 := gOr2 gLt (gCmpD PySem.W.dataLt)
def gGtA : F2 := gOr2 gGt (gCmpD fun d e => PySem.W.dataLt e d)
def gLeA : F2 := gOr2 gLe (gCmpD fun d e => !PySem.W.dataLt e d)
def gGeA : F2 := gOr2 gGe (gCmpD fun d e => !PySem.W.dataLt d e)
abbrev rLtA (K : PySem.W.Frag) : R2 := fun x y H Q => rI0 (fun i j => .bl (decide (i < j))) x y H Q ∨ rLtD K PySem.W.dataLt x y H Q
abbrev rGtA (K : PySem.W.Frag) : R2 := fun x y H Q => rI0 (fun i j => .bl (decide (j < i))) x y H Q ∨ rLtD K (fun d e => PySem.W.dataLt e d) x y H Q
abbrev rLeA (K : PySem.W.Frag) : R2 := fun x y H Q => rI0 (fun i j => .bl (decide (i ≤ j))) x y H Q ∨ rLtD K (fun d e => !PySem.W.dataLt e d) x y H Q
abbrev rGeA (K : PySem.W.Frag) : R2 := fun x y H Q => rI0 (fun i j => .bl (decide (j ≤ i))) x y H Q ∨ rLtD K (fun d e => !PySem.W.dataLt d e) x y H Q
theorem op_ltA (hu : X.A.units + 64 < cLine) : OpR X (compareOp .Lt) (rLtA X.K) := op_lt.or (op_ltD hu)
theorem op_gtA (hu : X.A.units + 64 < cLine) : OpR X (compareOp .Gt) (rGtA X.K) := op_gt.or (op_gtD hu)
theorem op_leA (hu : X.A.units + 64 < cLine) : OpR X (compareOp .LtE) (rLeA X.K) := op_le.or (op_leD hu)
theorem op_geA (hu : X.A.units + 64 < cLine) : OpR X (compareOp .GtE) (rGeA X.K) := op_ge.or (op_geD hu)
theorem ok_ltA : R2Ok cf (rLtA cf.K) gLtA := R2Ok.or2 ok_lt (ok_cmpD _)
theorem ok_gtA : R2Ok cf (rGtA cf.K) gGtA := R2Ok.or2 ok_gt (ok_cmpD _)
theorem ok_leA : R2Ok cf (rLeA cf.K) gLeA := R2Ok.or2 ok_le (ok_cmpD _)
theorem ok_geA : R2Ok cf (rGeA cf.K) gGeA := R2Ok.or2 ok_ge (ok_cmpD _)
/-! ### min of a list of tuples of ints -/
def tI (l : List Int) : PyData := .tuple (l.map PyData.int)
theorem tI_inj {l m : List Int} (h : tI l = tI m) : l = m := by
  have h1 : l.map PyData.int = m.map PyData.int := PyData.tuple.inj h
  exact List.map_inj_right (fun a b e => PyData.int.inj e) |>.mp h1
def ltT (l m : List Int) : Bool := PySem.W.dataLt (tI l) (tI m)
def minT (l : List Int) (ls : List (List Int)) : List Int := ls.foldl (fun a y => if ltT y a = true then y else a) l
theorem minD_T : ∀ (ls : List (List Int)) (l : List Int), PySem.W.minD (tI l) (ls.map tI) = tI (minT l ls)
  | [], _ => rfl
  | m :: ls, l => by
    have ih := minD_T ls (if ltT m l = true then m else l)
    unfold PySem.W.minD minT at ih ⊢
    rw [List.map_cons, List.foldl_cons, List.foldl_cons, ← ih]
    congr 1
    by_cases h : ltT m l = true
    · have h' : PySem.W.dataLt (tI m) (tI l) = true := h
      rw [if_pos h, if_pos h']
    · have h' : ¬ PySem.W.dataLt (tI m) (tI l) = true := h
      rw [if_neg h, if_neg h']
theorem alike_ints : ∀ l m : List Int, PySem.W.alikeAll (l.map PyData.int) (m.map PyData.int) = true
  | [], m => by simp [PySem.W.alikeAll]
  | a :: l, [] => by simp [PySem.W.alikeAll]
  | a :: l, b :: m => by
    rw [List.map_cons, List.map_cons, PySem.W.alikeAll, alike_ints l m]
    rfl
theorem alike_tI (l m : List Int) : PySem.W.alike (tI l) (tI m) = true := by
  unfold tI
  rw [PySem.W.alike]
  exact alike_ints l m
theorem alikeAll_tI (ls : List (List Int)) : PySem.W.AlikeAll (ls.map tI) := by
  refine ⟨fun x hx y hy => ?_, fun x hx z => ?_⟩
  · obtain ⟨l, _, rfl⟩ := List.mem_map.mp hx
    obtain ⟨m, _, rfl⟩ := List.mem_map.mp hy
    exact alike_tI l m
  · obtain ⟨l, _, rfl⟩ := List.mem_map.mp hx
    cases z
theorem depth_tI : ∀ ls : List (List Int), PyData.depthAll (ls.map tI) ≤ 1
  | [] => Nat.zero_le _
  | l :: ls => by
    have ih := depth_tI ls
    have hd : (tI l).depth ≤ 1 := by
      unfold tI
      rw [PyData.depth, (canInts l).2]
      exact Nat.le_refl _
    rw [List.map_cons, PyData.depthAll]
    omega
theorem plain_tI (l : List Int) : (tI l).plain = true := PySem.PyData.plain_of_canLay0 _ (by unfold tI; rw [PyData.canLay0]; exact (canInts l).1)
def rMinT (K : PySem.W.Frag) : List V → Hp → VK → Prop := fun vs H Q => ∃ (a : Addr) (xs : List V) (l : List Int) (ls : List (List Int)), vs = [V.ref a] ∧ SqL K H a xs ∧ DpAll K H xs ((l :: ls).map tI) ∧
  ∀ (i : Nat) (v : V), xs[i]? = some v → (l :: ls)[i]? = some (minT l ls) → Q v H
theorem cr_minT (hc : X.calm = true) (hu : X.A.units + 64 < cLine) : CallR X (.builtin "min") (rMinT X.K) := by
  intro pins s σ H vs us Q I r h
  obtain ⟨a, xs, l, ls, rfl, hs, hd, q⟩ := h
  obtain ⟨its, rv, hl, _⟩ := I.list hs
  rw [Vals.ref1 r]
  obtain ⟨as, hr⟩ := Dp.readsAll I _ xs its hd rv
  refine PySem.W.min_list_data (x := tI l) (xs := ls.map tI) (I.ok.hd hc) hl.isList hr (alikeAll_tI (l :: ls)) (by have := depth_tI (l :: ls); rw [List.map_cons] at this; omega) fun i v h' tk bs hv hm hk => ?_
  have hv' : its[i]? = some v := by simpa using hv
  have hil : i < its.length := (List.getElem?_eq_some_iff.mp hv').1
  obtain ⟨w, hw⟩ : ∃ w, xs[i]? = some w := ⟨xs[i]'(by rw [rv.length]; exact hil), List.getElem?_eq_getElem _⟩
  obtain ⟨u, hu', rw'⟩ := rv.get hw
  rw [hv'] at hu'
  cases hu'
  obtain ⟨cs, rr, hlt, _, _⟩ := PySem.W.readsAll_atA (h := s.heap) (vs := its.toArray) hr i v hv
  have hlt' : i < (l :: ls).length := by simpa using hlt
  have e1 : ((l :: ls).map tI).getD i .none = tI ((l :: ls)[i]) := by
    rw [List.getD_eq_getElem?_getD, List.getElem?_map, List.getElem?_eq_getElem hlt']
    rfl
  rw [e1] at rr
  rw [minD_T] at hm
  have e2 := tI_inj (PySem.SeqAt.plain_unique _ _ v _ _ (plain_tI _) (PySem.W.reads_keeps hk rr) hm)
  exact ⟨w, H, I.kept hk, rw', q i w hw (by rw [List.getElem?_eq_getElem hlt', e2])⟩
def asT : AV → Option (List Int)
  | .tup xs => mapO asI xs
  | _ => none
def tA (l : List Int) : AV := .tup (l.map AV.int)
theorem dp_ints {K : PySem.W.Frag} {H : Hp} (ns : List Int) : DpAll K H (ns.map V.int) (ns.map PyData.int) := DpAll.ints ns
theorem asI_map : ∀ {xs : List AV} {ns : List Int}, mapO asI xs = some ns → xs = ns.map AV.int
  | [], _, h => by cases h; rfl
  | x :: xs, _, h => by
    obtain ⟨k, es, h1, h2, rfl⟩ := mapO_cons h
    cases x with
    | int i =>
      cases h1
      rw [asI_map h2]
      rfl
    | _ => cases h1
theorem asT_all {K : PySem.W.Frag} {m : List Addr} {H : Hp} : ∀ {xs : List AV} {vs : List V} {ls : List (List Int)}, RelAs K m H xs vs → mapO asT xs = some ls → DpAll K H vs (ls.map tI) ∧ xs = ls.map tA
  | [], _, ks, r, h => by
    cases h
    cases r
    exact ⟨.nil, rfl⟩
  | x :: xs, _, ks, r, h => by
    obtain ⟨k, es, h1, h2, rfl⟩ := mapO_cons h
    cases r with
    | cons r1 r2 =>
      obtain ⟨d1, e1⟩ := asT_all r2 h2
      unfold asT at h1
      split at h1
      · rename_i ys
        obtain ⟨a, us, rfl, ha, ru⟩ := r1.to_tup
        have e2 := asI_all ru h1
        subst e2
        have e3 := asI_map h1
        subst e3
        refine ⟨.cons (.tup (SqT.of ha) (dp_ints k)) d1, by rw [e1]; rfl⟩
      · cases h1
def gMinL : FD := fun xs A => match xs with
  | [x] => match (lsAt A x).bind (mapO asT) with
    | some (l :: ls) => .ok (tA (minT l ls)) A
    | _ => .er
  | _ => .er
theorem ok_minT : CbOk cf (rMinT cf.K) gMinL := fun W m H A σ Q xs vs S r P => by
  unfold gMinL at P
  split at P
  · rename_i x
    obtain ⟨v, rfl, q⟩ := r.one
    split at P
    · rename_i l ls e
      rw [Option.bind_eq_some_iff] at e
      obtain ⟨ys, e1, e2⟩ := e
      obtain ⟨a, ws, rfl, hs, r2⟩ := lsAt_ok S q e1
      obtain ⟨d1, d2⟩ := asT_all r2 e2
      subst d2
      refine ⟨a, ws, l, ls, rfl, hs, d1, fun i v hv hi => ?_⟩
      obtain ⟨y, hy, ry⟩ := r2.get' hv
      rw [List.getElem?_map, hi] at hy
      cases hy
      exact P m H _ (Go.refl S) ry
    · exact P.elim
  · exact P.elim

/-! ### xs.remove(k) -/
def fRemove (fo fe : FE) : FE := fun ρ A => (fo ρ A).bind fun x A => if isL A x = true then (fe ρ A).bind fun y A => match x, y with
  | .obj n, .int k => match A[n]? with
    | some (.lst xs) => match mapO asI xs with
      | some ns => if k ∈ ns then .ok .non (A.set n (.lst ((ns.erase k).map AV.int))) else .er
      | none => .er
    | _ => .er
  | _, _ => .er
  else .er
theorem c_remove {o e : Expr} {apos cpos : Pos} {fo fe : FE} (hc : X.calm = true) (hK : X.K = cf.K) (tk : Takes X W) (ho : CE cf X W o fo) (he : CE cf X W e fe) (hbase : attributeBase o "remove" X.env (eval o X.env) = eval o X.env := by rfl)
    (hfew : ((backTo cpos (starEach [e] X.env)).all (fun x => !x.1) && (backToKw cpos (keywordEach [] X.env)).all (fun x => x.1.isSome)
      && decide (([e] : List Expr).length + ([] : List Keyword).length + (if ([] : List Keyword).isEmpty then 0 else 1) < 30)) = true := by rfl)
    (hline : (apos.endLine == cpos.line) = true := by rfl) (hs : starEach [e] X.env = (false, eval e X.env) :: starEach [] X.env := by rfl) (hplain : (backTo cpos (starEach [] X.env)).any (·.1) = false := by rfl) :
    CE cf X W (.Call (.Attribute o "remove" apos) [e] [] cpos) (fRemove fo fe) := by
  obtain ⟨t, p, q⟩ := ho.ex
  obtain ⟨t2, p2, q2⟩ := he.ex
  refine ⟨_, pe_remX hc tk p p2 hbase hfew hline hs hplain, fun ρ σ m H A Q S L P => ?_⟩
  rw [hK]
  refine q.then S L P fun x v m1 H1 A1 e1 g1 L1 r1 P1 => ?_
  obtain ⟨hl, P1b⟩ := post_if P1
  clear P1
  have hty : tyV cf.K "list" v H1 := isL_ok g1.sim r1 hl
  refine ⟨hty, ?_⟩
  refine q2.then g1.sim L1 P1b fun y w m2 H2 A2 e2 g2 L2 r2 P2 => ?_
  clear e1 e2 hl hty P1b
  split at P2
  · rename_i n k
    split at P2
    · rename_i xs ex
      split at P2
      · rename_i ns en
        obtain ⟨hk, P2⟩ := post_if P2
        obtain ⟨a, rfl, hm, vs, h1, r⟩ := g2.sim.obj (RelA.mono g2.pre g2.fz r1) ex
        have ev := asI_all r en
        subst ev
        exact ⟨a, ns, k, rfl, r2.to_int, h1, fun _ => put_list g2.sim hm h1 trivial (RelAs.ints _) .non P2, fun z => (z hk).elim⟩
      · exact P2.elim
    · exact P2.elim
  · exact P2.elim
end
/-! the kernel reckons them -/
example : PySem.W.dataLt (.tuple [.int 1, .int 2]) (.tuple [.int 1, .int 3]) = true := by decide +kernel
example : PyData.eqv (.tuple [.int 1, .int 2]) (.tuple [.int 1, .int 2]) = true := by decide +kernel
example : PySem.W.alike (.tuple [.int 1, .int 2]) (.tuple [.int 1, .int 2]) = true := by decide +kernel
end Dn

set_option maxRecDepth 100000
set_option maxHeartbeats 2000000
/-! Dn, part K: dicts locked and walked; get, update, del, op=; sums of values. -/
namespace Dn
open PySem PySem.Spec L2 PyProof.Rows

/-! ### the pairs of a locked dict whose keys are tuples -/
theorem frzTv {X : Cx} {pins : List (Addr × Obj)} {σ : L2.St} {H : Hp} {s : Shared} {d : Addr} {o : Obj} {kvs : List (List Key × V)} (I : Inv X pins σ H s) (h : H d = some (.frz o (.dT kvs))) :
    (d == sysModules) = false ∧ s.heap.get? d = some o ∧ o.ExactDict ∧ ∃ (es : Array DictEntry) (ep : Nat), o.data = .dict es ep ∧ es.size = kvs.length ∧
      ∀ (i : Nat) (k : List Key) (v : V), kvs[i]? = some (k, v) → ∃ (en : DictEntry) (q : Addr), es[i]? = some en ∧ en.key = .ref q ∧ H q = some (.tup (k.map kV)) ∧ L2.RelV v en.val := by
  obtain ⟨hd, z, hs, xs, pr, o', es, ep, ho, hx, hdt, he, _⟩ := I.hok d _ h
  rw [hd] at ho
  cases ho
  refine ⟨hs, hd, hx, es, ep, hdt, ?_, fun i k v e => ?_⟩
  · have l1 : es.size = xs.length := size_of_entries he
    have l2 : kvs.length = xs.length := Paired.length pr
    omega
  · obtain ⟨b, hb, e1, e2, e3⟩ := paired_get pr e
    have q := entry_at he i
    rw [hb] at q
    exact ⟨_, b.2.1, q, rfl, e2, e3⟩
/-- the pairs, each a new tuple -/
def ItiT (d : Addr) (o : Obj) (kvs : List (List Key × V)) : It :=
  ⟨fun i H => H d = some (.frz o (.dT kvs)) ∧ i < kvs.length, fun i H x H' => ∃ T q k v, kvs[i]? = some (k, v) ∧ x = .ref T ∧ H T = none ∧ H q = some (.tup (k.map kV)) ∧ H' = upd H T (.tup [.ref q, v]), fun i H => H d = some (.frz o (.dT kvs)) ∧ kvs.length ≤ i⟩
theorem turn_itemsT {P : Program} {w : World} {K : PySem.W.Frag} {d : Addr} {o : Obj} {es : Array DictEntry} {ep : Nat} {kvs : List (List Key × V)} {elts : List Expr} {kk : Nat} {tpos : Pos} (it : Addr) (hod : o.data = .dict es ep) :
    Turn P w K (.Tuple elts kk tpos) (ItiT d o kvs) [it] it (fun i h => ∃ ok ov, IsItemIter h it d i kvs.length ep ok ov) where
  mem := by simp
  obj := fun i h st b hb => by
    have e : b = it := by simpa using hb
    subst e
    obtain ⟨ok, ov, e⟩ := st
    exact ⟨_, e, fun v z => nomatch z⟩
  keep := fun i h h' st k => let ⟨ok, ov, e⟩ := st; ⟨ok, ov, k it (by simp) _ e⟩
  item := by
    intro X hP hw hK hc i pins s σ H E I hf st hg
    subst hP hw hK
    obtain ⟨hd, hi⟩ := hg
    obtain ⟨hs, hgd, hx, es', ep', hdt, hsz, ent⟩ := frzTv I hd
    obtain ⟨rfl, rfl⟩ := dict_ep hod hdt
    obtain ⟨⟨k, v⟩, hkv⟩ : ∃ p, kvs[i]? = some p := ⟨kvs[i], List.getElem?_eq_getElem hi⟩
    obtain ⟨en, q, hen, hkey, hq, rv⟩ := ent i k v hkv
    obtain ⟨ok, ov, he⟩ := st
    rw [← hsz] at he
    have hlt : it < s.heap.objs.size := Heap.lt_size he
    have hi2 : i < es'.size := by rw [hsz]; exact hi
    have hen2 : es'[i] = en := by
      rw [Array.getElem?_eq_getElem hi2] at hen
      exact Option.some.inj hen
    refine DT.nextI he ⟨o, hgd, hx, hdt⟩ hi2 fun h' ho hT hz hk => ?_
    rw [hen2] at ho hT
    refine ⟨_, rfl, wpAny_letOwnedTupleGo_items (s := { s with heap := h' }) ho fun h'' he' sb => ?_⟩
    have hT2 : h''.get? s.heap.objs.size = some { cls := .type "tuple", data := .seq #[en.key, en.val] } := (sb.2 _ (Nat.ne_of_gt hlt)).trans hT
    have new : ObjOk X.prog X.w (upd H s.heap.objs.size (.tup [.ref q, v])) h'' s.heap.objs.size (.tup [.ref q, v]) :=
      ⟨by show 2 ≤ sizeLine; decide, [en.key, en.val], .cons hkey (.cons rv .nil), ⟨_, hT2, rfl, _, rfl⟩⟩
    have I1 : Inv X pins σ (upd H s.heap.objs.size (.tup [.ref q, v])) { s with heap := h'' } :=
      I.turnedNew (t' := s.toks) (ch := [it]) (fun b ob hb e => (sb.2 b (by simpa using hb)).trans (hk b ob (by simpa using hb) e)) hf (Nat.le_refl _) new
    refine ⟨.ref s.heap.objs.size, _, I1, rfl, ⟨_, q, k, v, hkv, rfl, I.hok.fresh (Nat.le_refl _), hq, rfl⟩, ⟨en.key, en.val, ?_⟩, fun b hb => ?_⟩
    · rw [← hsz]; exact he'
    · have e : b = it := by simpa using hb
      rw [e, upd_ne (Nat.ne_of_lt hlt)]
      exact (hf it (by simp)).1
  done := by
    intro X hP hw hK hc i pins s σ H E I hf st hg
    subst hP hw hK
    obtain ⟨hd, hi⟩ := hg
    obtain ⟨f0, f1, f2, f3, f4, f5⟩ := hf it (by simp)
    obtain ⟨hs, hgd, hx, es', ep', hdt, hsz, ent⟩ := frzTv I hd
    obtain ⟨rfl, rfl⟩ := dict_ep hod hdt
    obtain ⟨ok, ov, he⟩ := st
    rw [← hsz] at he
    exact DT.endI (I.ok.hd hc) he ⟨o, hgd, hx, hdt⟩ (by omega) fun h' eb => ⟨rfl, I.turned (t' := s.toks) (fun b ob hb e => eb b ob hb e) f0 f1 f3 f4 f5⟩
  self := fun A i s Q E st h => let ⟨_, _, e⟩ := st; PySem.W.kcp_self e h
def iItemsT (td : TE) : TI := fun σ H R => td σ H fun x H1 => ∃ d o kvs, x = .ref d ∧ H1 d = some (.frz o (.dT kvs)) ∧ R (ItiT d o kvs) H1
theorem pi_itemsT {X : Cx} {e : Expr} {td : TE} {apos cpos : Pos} {elts : List Expr} {kk : Nat} {tpos : Pos} (he : PE X e td) (hbase : attributeBase e "items" X.env (eval e X.env) = eval e X.env := by rfl) (hline : (apos.endLine == cpos.line) = true := by rfl) :
    PI X (.Tuple elts kk tpos) (.Call (.Attribute e "items" apos) [] [] cpos) (iItemsT td) := by
  refine ⟨fun pins s σ H R I h => ?_⟩
  refine wpAny_Call_method (T := "dict") (id := "dict.items") hbase rfl hline PySem.F.plainAttrs_dict PySem.F.slot_dict_items PySem.F.type_dict_items (thn (he.run pins s σ H _ I h) fun u s1 ⟨x, H1, I1, rx, d, o, kvs, ex, hd, q⟩ => ?_)
  subst ex
  obtain rfl : u = Value.ref d := rx
  obtain ⟨hs, hgd, hx, es, ep, hdt, hsz, ent⟩ := frzTv I1 hd
  have raw : DT.Raw s1.heap d es ep := ⟨o, hgd, hx, hdt⟩
  refine ⟨raw.typeIs, fun b q => ?_, ?_⟩
  · cases q
    exact ⟨o, hgd, hx.2.1⟩
  have I2 : Inv X pins σ H1 { s1 with heap := s1.heap.push { cls := .type "dict_items", data := .fields #[.ref d] } } := I1.kept (t' := s1.toks) fun b ob q => Heap.get?_push_of_some _ q
  have fin : wpAny (model X.prog X.w) X.A (pyIter (.ref s1.heap.objs.size)) (PIE X pins σ (.Tuple elts kk tpos) R) X.xe { s1 with heap := s1.heap.push { cls := .type "dict_items", data := .fields #[.ref d] } } := by
    refine DT.iterI (d := d) ⟨_, Heap.get?_push_size _ rfl, rfl, rfl⟩ (raw.push _) (pi_one (tk := s1.toks) I2 _ (turn_itemsT _ hdt) ⟨.none, .none, ?_⟩ q)
    rw [← hsz]
    exact Heap.get?_push_size _ rfl
  show wpAny _ _ (callWith cpos (.builtin "dict.items") [.ref d] [] []) _ X.xe s1
  exact method_meetsIn PySem.F.slot_dict_items PySem.F.entry_dict_items rfl (PySem.evalArgs_none ⟨rfl, raw.typeIs, PySem.F.args_dict_items_1 _, _, DT.meetsItems (es := es) (ep := ep) hs, raw, fin⟩)

/-! ### locks -/
/-- tuples and what is frozen of lists stay -/
structure FzW (H H' : Hp) : Prop where
  tup : ∀ a xs, H a = some (.tup xs) → H' a = some (.tup xs)
  frz : ∀ a o xs, H a = some (.frz o (.lst xs)) → H' a = some (.frz o (.lst xs))
theorem FrzL.monoW {K : PySem.W.Frag} {H H' : Hp} {a : Addr} {xs : List V} (f : FzW H H') (h : FrzL K H a xs) : FrzL K H' a xs := by
  rcases h with ⟨o, h⟩ | h
  · exact .inl ⟨o, f.frz _ _ _ h⟩
  · exact .inr h
mutual
theorem RelA.monoW {K : PySem.W.Frag} {m : List Addr} {H H' : Hp} (f : FzW H H') : ∀ {x : AV} {v : V}, RelA K m H x v → RelA K m H' x v
  | _, _, .non => .non
  | _, _, .bl b => .bl b
  | _, _, .int i => .int i
  | _, _, .str x => .str x
  | _, _, .ty x => .ty x
  | _, _, .scr h => .scr (h.monoW f)
  | _, _, .obj h => .obj h
  | _, _, .tup h r => .tup (f.tup _ _ h) (RelAs.monoW f r)
theorem RelAs.monoW {K : PySem.W.Frag} {m : List Addr} {H H' : Hp} (f : FzW H H') : ∀ {xs : List AV} {vs : List V}, RelAs K m H xs vs → RelAs K m H' xs vs
  | _, _, .nil => .nil
  | _, _, .cons h t => .cons (RelA.monoW f h) (RelAs.monoW f t)
end
section
variable {cf : Cfg} {X : Cx} {W : WX}
theorem RelKV.monoW {κ : Type} {K : PySem.W.Frag} {m : List Addr} {H H' : Hp} (f : FzW H H') {xs : List (κ × AV)} {vs : List (κ × V)} (r : RelKV K m H xs vs) : RelKV K m H' xs vs := Paired.mapP r fun _ _ h => ⟨h.1, h.2.monoW f⟩
theorem RelOA.monoW {K : PySem.W.Frag} {m : List Addr} {H H' : Hp} (f : FzW H H') : ∀ {x : Option AV} {v : Option V}, RelOA K m H x v → RelOA K m H' x v
  | some _, some _, h => RelA.monoW f h
  | none, none, _ => trivial
  | some _, none, h => h.elim
  | none, some _, h => h.elim
theorem RelOs.monoW {K : PySem.W.Frag} {m : List Addr} {H H' : Hp} (f : FzW H H') {xs : List (Option AV)} {vs : List (Option V)} (r : RelOs K m H xs vs) : RelOs K m H' xs vs := Paired.mapP r fun _ _ h => h.monoW f
theorem ObjS.stayW {m : List Addr} {H H' : Hp} {a : Addr} {o : AO} (h : ObjS cf m H a o) (f : FzW H H') (ha : ∀ u, H a = some u → H' a = some u) (hd : ∀ c u, H c = some u → (u = .own a ∨ u = .xd []) → H' c = some u) : ObjS cf m H' a o := by
  cases o with
  | lst xs => obtain ⟨vs, e, r⟩ := h; exact ⟨vs, ha _ e, r.monoW f⟩
  | dK xs => obtain ⟨vs, e, r⟩ := h; exact ⟨vs, ha _ e, r.monoW f⟩
  | dT xs => obtain ⟨vs, e, r⟩ := h; exact ⟨vs, ha _ e, r.monoW f⟩
  | ins c fs => obtain ⟨dx, vs, e, l, r⟩ := h; exact ⟨dx, vs, ha _ e, l, r.monoW f⟩
  | slt c fs =>
    obtain ⟨dx, vs, ne, h, r⟩ := h
    refine ⟨dx, vs, ne, ?_, r.monoW f⟩
    rcases h with ⟨e, e1, e2⟩ | ⟨e, e2⟩
    · exact .inl ⟨ha _ e, e1, hd _ _ e2 (.inl rfl)⟩
    · exact .inr ⟨ha _ e, hd _ _ e2 (.inr rfl)⟩
  | lk kvs => obtain ⟨o, vs, e, r⟩ := h; exact ⟨o, vs, ha _ e, r.monoW f⟩
  | unk => obtain ⟨u, e, h⟩ := h; exact ⟨u, ha _ e, h⟩
def isLk (B : AH) (n : Nat) : Bool := match B[n]? with
  | some (.lk _) => true
  | _ => false
/-- unlocked again -/
theorem go_unlock {m m2 : List Addr} {H H2 : Hp} {A B : AH} {n : Nat} {a : Addr} {od : Obj} {kvs : List (List Key × AV)} {vs : List (List Key × V)} (S : Sim cf m H A) (hm : m[n]? = some a) (h1 : H a = some (.dT vs)) (r : RelKV cf.K m H kvs vs)
    (g2 : Go cf m (upd H a (.frz od (.dT vs))) m2 H2 B) (hl : isLk B n = true) : H2 a = some (.frz od (.dT vs)) ∧ FzW H2 (upd H2 a (.dT vs)) ∧ Go cf m H m2 (upd H2 a (.dT vs)) (B.set n (.dT kvs)) := by
  have e2 : H2 a = some (.frz od (.dT vs)) := g2.fz.frz a od _ upd_same
  have fw : FzW H2 (upd H2 a (.dT vs)) := by
    refine ⟨fun b xs e => ?_, fun b o xs e => ?_⟩
    · rw [upd_ne (ne_of e e2 (fun z => by cases z))]
      exact e
    · rw [upd_ne (ne_of e e2 (fun z => by cases z))]
      exact e
  have fz0 : Fz H (upd H2 a (.dT vs)) := by
    refine ⟨fun b xs e => ?_, fun b o u e => ?_⟩
    · have hb : b ≠ a := ne_of e h1 (fun z => by cases z)
      rw [upd_ne hb]
      exact g2.fz.tup b xs (by rw [upd_ne hb]; exact e)
    · have hb : b ≠ a := ne_of e h1 (fun z => by cases z)
      rw [upd_ne hb]
      exact g2.fz.frz b o u (by rw [upd_ne hb]; exact e)
  have hm2 : m2[n]? = some a := g2.pre _ _ hm
  refine ⟨e2, fw, g2.pre, fz0, by rw [List.length_set, g2.sim.len], g2.sim.nd, fun k b q hk hA => ?_⟩
  by_cases e : k = n
  · subst e
    rw [hm2] at hk
    cases hk
    have hlt : k < B.length := by
      rw [← g2.sim.len]
      exact (List.getElem?_eq_some_iff.mp hm2).1
    rw [List.getElem?_set_self hlt] at hA
    cases hA
    exact ⟨vs, upd_same, r.mono g2.pre fz0⟩
  · rw [List.getElem?_set_ne (Ne.symm e)] at hA
    have hb : b ≠ a := fun z => by
      subst z
      exact e (nd_ix g2.sim.nd hk hm2)
    refine (g2.sim.at_ k b q hk hA).stayW fw (fun u e => by rw [upd_ne hb]; exact e) fun c w e hw => ?_
    rw [upd_ne (fun z => ?_)]
    · exact e
    · subst z
      rw [e2] at e
      cases e
      rcases hw with z | z <;> cases z
def unlk (n : Nat) (kvs : List (List Key × AV)) : SRes → SRes
  | .nx ρ B => if isLk B n = true then .nx ρ (B.set n (.dT kvs)) else .er
  | .rt v B => if isLk B n = true then .rt v (B.set n (.dT kvs)) else .er
  | .bk ρ B => if isLk B n = true then .bk ρ (B.set n (.dT kvs)) else .er
  | .ct ρ B => if isLk B n = true then .ct ρ (B.set n (.dT kvs)) else .er
  | _ => .er
/-- a statement that reads the dict that f0 tells, and does not change it -/
def fLockS (f0 : FE) (f : FS) : FS := fun ρ A => match f0 ρ A with
  | .ok (.obj n) _ => match A[n]? with
    | some (.dT kvs) => unlk n kvs (f ρ (A.set n (.lk kvs)))
    | _ => .er
  | _ => .er
theorem Loc.monoW {K : PySem.W.Frag} {m : List Addr} {H H' : Hp} {ρ : Rho} {σ : L2.St} (f : FzW H H') (l : Loc K m H ρ σ) : Loc K m H' ρ σ := ⟨l.len, fun i x e => let ⟨v, h1, h2⟩ := l.at_ i x e; ⟨v, h1, h2.monoW f⟩⟩
theorem ok_lockS {t : TS} {f0 : FE} {f : FS} (h : SOk cf W t f) : SOk cf W (tLock t) (fLockS f0 f) := fun ρ σ m H A D S L P => by
  unfold fLockS at P
  split at P
  · rename_i n _ e0
    split at P
    · rename_i kvs e
      obtain ⟨a, hm⟩ := S.addr e
      obtain ⟨vs, h1, r⟩ := S.at_ n a _ hm e
      refine ⟨a, .dT vs, h1, by trivial, fun od => ?_⟩
      have gL : Go cf m H m (upd H a (.frz od (.dT vs))) (A.set n (.lk kvs)) := go_put S hm h1 trivial ⟨od, vs, upd_same, r.mono (Pre.refl m) (fz_main h1 trivial)⟩
      refine h ρ σ m _ _ _ gL.sim (L.mono gL.pre gL.fz) ?_
      unfold unlk at P
      cases ef : f ρ (A.set n (.lk kvs)) with
      | nx ρ' B =>
        rw [ef] at P
        obtain ⟨hl, P⟩ := sif P
        intro m2 H2 σ2 g2 l2
        obtain ⟨k1, k2, k3⟩ := go_unlock S hm h1 r g2 hl
        exact ⟨k1, P m2 _ σ2 k3 (l2.monoW k2)⟩
      | rt v B =>
        rw [ef] at P
        obtain ⟨hl, P⟩ := sif P
        intro m2 H2 u g2 l2
        obtain ⟨k1, k2, k3⟩ := go_unlock S hm h1 r g2 hl
        exact ⟨k1, P m2 _ u k3 (l2.monoW k2)⟩
      | bk ρ' B =>
        rw [ef] at P
        obtain ⟨hl, P⟩ := sif P
        intro m2 H2 σ2 g2 l2
        obtain ⟨k1, k2, k3⟩ := go_unlock S hm h1 r g2 hl
        exact ⟨k1, P m2 _ σ2 k3 (l2.monoW k2)⟩
      | ct ρ' B =>
        rw [ef] at P
        obtain ⟨hl, P⟩ := sif P
        intro m2 H2 σ2 g2 l2
        obtain ⟨k1, k2, k3⟩ := go_unlock S hm h1 r g2 hl
        exact ⟨k1, P m2 _ σ2 k3 (l2.monoW k2)⟩
      | exc x ρ' B => rw [ef] at P; exact P.elim
      | er => rw [ef] at P; exact P.elim
    · exact P.elim
  · exact P.elim
theorem cs_lock {st : Stmt} (f0 : FE) {f : FS} (h : CS cf X W st f) : CS cf X W st (fLockS f0 f) := let ⟨_, p, o⟩ := h.ex; ⟨_, ps_lock p, ok_lockS o⟩
/-- for k, v in d.items(), d locked -/
def fItemsT (f : FE) : FI := fun ρ A => (f ρ A).bind fun x A => match x with
  | .obj n => match A[n]? with
    | some (.lk kvs) => .ok (.fix (kvs.map fun kv => .tup [.tup (kv.1.map kA), kv.2])) A
    | _ => .er
  | _ => .er
theorem relKV_get {κ : Type} {K : PySem.W.Frag} {m : List Addr} {H : Hp} : ∀ {kvs : List (κ × AV)} {vs : List (κ × V)} {i : Nat} {k : κ} {v : V}, RelKV K m H kvs vs → vs[i]? = some (k, v) → ∃ x, kvs[i]? = some (k, x) ∧ RelA K m H x v
  | _, _, _, _, _, .nil, e => by simp at e
  | (k1, x) :: _, _, 0, _, _, .cons r _, e => by
    simp at e
    subst e
    obtain ⟨e, r⟩ := r
    cases (show k1 = _ from e)
    exact ⟨x, rfl, r⟩
  | _ :: _, _, i + 1, k, v, .cons _ t, e => by
    obtain ⟨u, h1, h2⟩ := relKV_get (i := i) (k := k) (v := v) t (by simpa using e)
    exact ⟨u, by simpa using h1, h2⟩
theorem ci_itemsT {e : Expr} {apos cpos : Pos} {elts : List Expr} {kk : Nat} {tpos : Pos} {f : FE} (h : CE cf X W e f) (hbase : attributeBase e "items" X.env (eval e X.env) = eval e X.env := by rfl) (hline : (apos.endLine == cpos.line) = true := by rfl) :
    CI cf X W (.Tuple elts kk tpos) (.Call (.Attribute e "items" apos) [] [] cpos) (fItemsT f) := by
  obtain ⟨t, p, o⟩ := h.ex
  refine ⟨_, pi_itemsT p hbase hline, fun ρ σ m H A R S L P => ?_⟩
  refine o.then S L P fun x v m1 H1 A1 e g1 L1 r1 P1 => ?_
  clear e
  split at P1
  · rename_i n
    split at P1
    · rename_i kvs e
      obtain ⟨a, rfl, hm, od, vs, h1, r⟩ := g1.sim.obj r1 e
      refine ⟨a, od, vs, rfl, h1, P1 m1 H1 _ (Go.refl g1.sim) fun m2 H2 A2 g2 => ?_⟩
      have h2 : H2 a = some (.frz od (.dT vs)) := g2.fz.frz _ _ _ h1
      have hlen : (kvs.map fun kv => AV.tup [.tup (kv.1.map kA), kv.2]).length = vs.length := by rw [List.length_map, paired_len r]
      refine ⟨fun i hi => ⟨h2, by rw [← hlen]; exact hi⟩, ⟨h2, by rw [hlen]; exact Nat.le_refl _⟩, fun i x H3 y hi => ?_⟩
      obtain ⟨T, q, k, v, hkv, rfl, hT, hq, rfl⟩ := y
      obtain ⟨z, hz, rz⟩ := relKV_get r hkv
      refine ⟨.tup [.tup (k.map kA), z], by rw [List.getElem?_map, hz]; rfl, go_side g2.sim hT, .tup upd_same (.cons (.tup ?_ (kAs_rel k)) (.cons ((rz.mono g2.pre g2.fz).mono (Pre.refl m2) (fz_new hT)) .nil))⟩
      rw [upd_ne (ne_of_none hq hT)]
      exact hq
    · exact P1.elim
  · exact P1.elim
end
end Dn

set_option maxRecDepth 100000
set_option maxHeartbeats 2000000
/-! Dn, part L: get, update, values, del, op=, a, b = .., dict comprehensions, is True. -/
namespace Dn
open PySem PySem.Spec L2 PyProof.Rows

section
variable {cf : Cfg} {X : Cx} {W : WX}
/-! ### a, b = e1, e2 -/
theorem cs_par2 {i j : Nat} {x y : Str} {a b : Expr} {f : FA} {px py pt pos : Pos} {kt k2 pt2} (hc : X.calm = true) (hN : X.N.Nodup) (ha : CA cf X W [a, b] f) (hij : i ≠ j := by decide) (hi : X.N[i]? = some x := by rfl) (hj : X.N[j]? = some y := by rfl)
    (hx : X.env.scope.names.lookup x = some .local := by rfl) (hy : X.env.scope.names.lookup y = some .local := by rfl)
    (hw : swappedStores [.Tuple [.Name x px, .Name y py] kt pt] (.Tuple [a, b] k2 pt2) X.env = pure (some [x, y]) := by rfl)
    (hs : swapsWithSole [.Tuple [.Name x px, .Name y py] kt pt] (.Tuple [a, b] k2 pt2) pos.line X.env = pure false := by rfl) :
    CS cf X W (.Assign [.Tuple [.Name x px, .Name y py] kt pt] (.Tuple [a, b] k2 pt2) pos) (fAsgG (fTup f) (gTp 2 (gsCons (gNm i) (gsCons (gNm j) gsNil)))) := by
  obtain ⟨t, p, o⟩ := ha.ex
  refine ⟨_, ps_par hc hN hi hj hij hx hy p hw hs, fun ρ σ m H A D S L P => ?_⟩
  have P' : SPost cf W m H D ((f ρ A).s ρ fun xs A => match xs with
      | [x, y] => .nx ((ρ.set i (some x)).set j (some y)) A
      | _ => .er) := by
    revert P
    unfold fAsgG fTup
    cases f ρ A with
    | ok xs B =>
      simp only [Res.bind_ok, Res.s_ok]
      split
      · simp only [Res.s_ok, gTp]
        match xs with
        | [] => exact fun P => P
        | [x] => exact fun P => P
        | [x, y] => exact fun P => P
        | _ :: _ :: _ :: _ =>
          intro P
          rw [if_neg (by simp)] at P
          exact P.elim
      · exact fun P => P.elim
    | exc e B => exact fun P => P
    | er => exact fun P => P
  refine o.thenS S L P' fun xs vs m1 H1 A1 _ g1 L1 r P1 => ?_
  split at P1
  · rename_i x y
    obtain ⟨v, w, rfl, r1, r2⟩ := RelAs.two r
    exact ⟨v, w, rfl, P1 m1 H1 _ (Go.refl g1.sim) ((L1.set i r1).set j r2)⟩
  · exact P1.elim
theorem RelAs.three {K : PySem.W.Frag} {m : List Addr} {H : Hp} {x y z : AV} {vs : List V} (r : RelAs K m H [x, y, z] vs) : ∃ u v w, vs = [u, v, w] ∧ RelA K m H x u ∧ RelA K m H y v ∧ RelA K m H z w := by
  cases r with
  | cons a b =>
    obtain ⟨v, w, rfl, q1, q2⟩ := b.two
    exact ⟨_, v, w, rfl, a, q1, q2⟩
theorem cs_par3 {i j l : Nat} {x y z : Str} {a b c : Expr} {f : FA} {px py pz pt pos : Pos} {kt k2 pt2} (hc : X.calm = true) (hN : X.N.Nodup) (ha : CA cf X W [a, b, c] f) (hij : i ≠ j := by decide) (hil : i ≠ l := by decide) (hjl : j ≠ l := by decide) (hi : X.N[i]? = some x := by rfl) (hj : X.N[j]? = some y := by rfl) (hl : X.N[l]? = some z := by rfl)
    (hx : X.env.scope.names.lookup x = some .local := by rfl) (hy : X.env.scope.names.lookup y = some .local := by rfl) (hz : X.env.scope.names.lookup z = some .local := by rfl)
    (hw : swappedStores [.Tuple [.Name x px, .Name y py, .Name z pz] kt pt] (.Tuple [a, b, c] k2 pt2) X.env = pure (some [x, y, z]) := by rfl)
    (hs : swapsWithSole [.Tuple [.Name x px, .Name y py, .Name z pz] kt pt] (.Tuple [a, b, c] k2 pt2) pos.line X.env = pure false := by rfl) :
    CS cf X W (.Assign [.Tuple [.Name x px, .Name y py, .Name z pz] kt pt] (.Tuple [a, b, c] k2 pt2) pos) (fAsgG (fTup f) (gTp 3 (gsCons (gNm i) (gsCons (gNm j) (gsCons (gNm l) gsNil))))) := by
  obtain ⟨t, p, o⟩ := ha.ex
  refine ⟨_, ps_par3 hc hN hi hj hl hij hil hjl hx hy hz p hw hs, fun ρ σ m H A D S L P => ?_⟩
  have P' : SPost cf W m H D ((f ρ A).s ρ fun xs A => match xs with
      | [x, y, z] => .nx (((ρ.set i (some x)).set j (some y)).set l (some z)) A
      | _ => .er) := by
    revert P
    unfold fAsgG fTup
    cases f ρ A with
    | ok xs B =>
      simp only [Res.bind_ok, Res.s_ok]
      split
      · simp only [Res.s_ok, gTp]
        match xs with
        | [] => exact fun P => P
        | [x] => exact fun P => P
        | [x, y] => exact fun P => P
        | [x, y, z] => exact fun P => P
        | _ :: _ :: _ :: _ :: _ =>
          intro P
          rw [if_neg (by simp)] at P
          exact P.elim
      · exact fun P => P.elim
    | exc e B => exact fun P => P
    | er => exact fun P => P
  refine o.thenS S L P' fun xs vs m1 H1 A1 _ g1 L1 r P1 => ?_
  split at P1
  · rename_i x y z
    obtain ⟨u, v, w, rfl, r1, r2, r3⟩ := RelAs.three r
    exact ⟨u, v, w, rfl, P1 m1 H1 _ (Go.refl g1.sim) (((L1.set i r1).set j r2).set l r3)⟩
  · exact P1.elim

/-! ### name op= e -/
def fAug (i : Nat) (g : F2) (f : FE) : FS := fun ρ A => match ρ[i]? with
  | some (some x) => (f ρ A).s ρ fun y A => (g x y A).s ρ fun z A => .nx (ρ.set i (some z)) A
  | _ => .er
theorem r2_thenS {r : R2} {g : F2} (hr : R2Ok cf r g) {x y : AV} {v w : V} {m : List Addr} {H : Hp} {A : AH} {ρ : Rho} {σ : L2.St} {D : Ends} {k : AV → AH → SRes} {R : VK} (S : Sim cf m H A) (L : Loc cf.K m H ρ σ) (rx : RelA cf.K m H x v) (ry : RelA cf.K m H y w)
    (P : SPost cf W m H D ((g x y A).s ρ k)) (h : ∀ z u m1 H1 A1, Go cf m H m1 H1 A1 → RelA cf.K m1 H1 z u → SPost cf W m1 H1 D (k z A1) → R u H1) : r v w H R := by
  refine hr W m H A σ R x y v w S rx ry ?_
  cases e : g x y A with
  | ok z A1 =>
    rw [e] at P
    exact fun m1 H1 u g1 r1 => h z u m1 H1 A1 g1 r1 (SPost.mono g1 P)
  | exc z A1 =>
    rw [e] at P
    exact fun m1 H1 cls d g1 r1 => P m1 H1 σ cls d g1 (L.mono g1.pre g1.fz) r1
  | er =>
    rw [e] at P
    exact P.elim
theorem cs_aug {x : Str} {e : Expr} {op : Operator} {r : R2} {g : F2} {f : FE} {pos pos' : Pos} (i : Nat) (hN : X.N.Nodup) (ho : OpR X (inplaceOp op) r) (hr : R2Ok cf r g) (he : CE cf X W e f) (hi : X.N[i]? = some x := by rfl) (hx : L2.Loc X.env.scope x := by first | exact .inl rfl | exact .inr rfl)
    (hf : X.fn x = true ∨ X.env.scope.names.lookup x = some .local := by first | exact .inl rfl | exact .inr rfl | assumption) : CS cf X W (.AugAssign (.Name x pos') op e pos) (fAug i g f) := by
  obtain ⟨t, p, o⟩ := he.ex
  refine ⟨_, ps_aug hN hi hx p (ti := r) ho hf, fun ρ σ m H A D S L P => ?_⟩
  unfold fAug at P
  split at P
  · rename_i x0 e0
    obtain ⟨v, hv, rv⟩ := L.at_ i x0 e0
    refine ⟨v, hv, ?_⟩
    refine o.thenS S L P fun y w m1 H1 A1 _ g1 L1 ry P1 => ?_
    exact r2_thenS hr g1.sim L1 (rv.mono g1.pre g1.fz) ry P1 fun z u m2 H2 A2 g2 rz P2 => P2 m2 H2 _ (Go.refl g2.sim) ((L1.mono g2.pre g2.fz).set i rz)
  · exact P.elim
theorem ok_iadd : R2Ok cf (rI0 fun i j => .int (i + j)) (gI0 fun i j => .int (i + j)) := ok_I0 fun _ _ _ _ _ => .int _
theorem ok_imul : R2Ok cf (rI CMul fun i j => .int (i * j)) (gI cMul fun i j => .int (i * j)) := ok_I cMul_ok fun _ _ _ _ _ => .int _
/-! ### d[k] op= e -/
def fDAug (g : F2) (fd fk fv : FE) : FS := fun ρ A => (fd ρ A).s ρ fun x A => (fk ρ A).s ρ fun y A => match dGet A x y with
  | some (some v) => (fv ρ A).s ρ fun z A => (g v z A).s ρ fun u A => match dPut A x y u with
    | some A' => .nx ρ A'
    | none => .er
  | _ => .er
theorem cs_daug {o i e : Expr} {op : Operator} {r : R2} {g : F2} {fd fk fv : FE} {pos tpos : Pos} (hu : X.A.units + 1 < cLine) (hop : InOp X op r) (hr : R2Ok cf r g) (ho : CE cf X W o fd) (hi : CE cf X W i fk) (he : CE cf X W e fv)
    (ha : ∀ ov iv new, augStore i ov iv new = (do holding [new, ov, iv] (setItem ov iv new); release [new, ov, iv] []; pure .next) := by intros; rfl) : CS cf X W (.AugAssign (.Subscript o i tpos) op e pos) (fDAug g fd fk fv) := by
  obtain ⟨to, po, oo⟩ := ho.ex
  obtain ⟨ti, pi, oi⟩ := hi.ex
  obtain ⟨te, pe, oe⟩ := he.ex
  refine ⟨_, ps_daug hu po pi pe hop ha, fun ρ σ m H A D S L P => ?_⟩
  refine oo.thenS S L P fun x v m1 H1 A1 _ g1 L1 rx P1 => ?_
  refine oi.thenS g1.sim L1 P1 fun y w m2 H2 A2 _ g2 L2 ry P2 => ?_
  split at P2
  · rename_i x0 e0
    obtain ⟨a, o', rfl, hg, _, h0, h1⟩ := dGet_ok g2.sim (rx.mono g2.pre g2.fz) ry e0
    obtain ⟨u0, rfl, ru0⟩ := h1 x0 rfl
    refine ⟨a, u0, rfl, hg, ?_⟩
    refine oe.thenS g2.sim L2 P2 fun z u m3 H3 A3 _ g3 L3 rz P3 => ?_
    refine r2_thenS hr g3.sim L3 (ru0.mono g3.pre g3.fz) rz P3 fun q uq m4 H4 A4 g4 rq P4 => ?_
    split at P4
    · rename_i A' e4
      obtain ⟨a', H', e5, hp, g5⟩ := dPut_ok g4.sim (rx.mono ((g2.trans g3).trans g4).pre ((g2.trans g3).trans g4).fz) (ry.mono (g3.trans g4).pre (g3.trans g4).fz) rq e4
      cases e5
      exact ⟨H', hp, P4 m4 H' σ g5 (L3.mono (g4.trans g5).pre (g4.trans g5).fz)⟩
    · exact P4.elim
  · exact P2.elim
theorem ok_inAdd : R2Ok cf rAdd (gI0 fun i j => .int (i + j)) := ok_I0 (cf := cf) (g' := fun i j => .int (i + j)) fun _ _ _ _ _ => .int _
theorem ok_inSub : R2Ok cf rSub (gI0 fun i j => .int (i - j)) := ok_I0 (cf := cf) (g' := fun i j => .int (i - j)) fun _ _ _ _ _ => .int _
/-! ### del d[k] -/
def fDel (fd fk : FE) : FS := fun ρ A => (fd ρ A).s ρ fun x A => (fk ρ A).s ρ fun y A => match x with
  | .obj n => match A[n]?, keyOf y with
    | some (.dK kvs), some k => if (valA kvs k).isSome = true then .nx ρ (A.set n (.dK (kvs.filter fun p => !decide (p.1 = k)))) else .er
    | _, _ => .er
  | _ => .er
theorem dropA_ok {m : List Addr} {H : Hp} {k : Key} : ∀ {kvs : List (Key × AV)} {vs : List (Key × V)}, RelKV cf.K m H kvs vs → RelKV cf.K m H (kvs.filter fun p => !decide (p.1 = k)) (dropK vs k)
  | _, _, .nil => .nil
  | (k1, x) :: kvs, (k2, v) :: vs, .cons r rs => by
    have ih := dropA_ok (k := k) rs
    obtain ⟨e, r⟩ := r
    cases (show k1 = k2 from e)
    by_cases h : k1 = k
    · have z1 : dropK ((k1, v) :: vs) k = dropK vs k := List.filter_cons_of_neg (by simp [h])
      rw [z1, List.filter_cons_of_neg (by simp [h])]
      exact ih
    · have z1 : dropK ((k1, v) :: vs) k = (k1, v) :: dropK vs k := List.filter_cons_of_pos (by simp [h])
      rw [z1, List.filter_cons_of_pos (by simp [h])]
      exact .cons ⟨rfl, r⟩ ih
theorem cs_del {o i : Expr} {fd fk : FE} {pos tpos : Pos} (ho : CE cf X W o fd) (hi : CE cf X W i fk) : CS cf X W (.Delete [.Subscript o i tpos] pos) (fDel fd fk) := by
  obtain ⟨to, po, oo⟩ := ho.ex
  obtain ⟨ti, pi, oi⟩ := hi.ex
  refine ⟨_, ps_ddel po pi, fun ρ σ m H A D S L P => ?_⟩
  refine oo.thenS S L P fun x v m1 H1 A1 _ g1 L1 rx P1 => ?_
  refine oi.thenS g1.sim L1 P1 fun y w m2 H2 A2 _ g2 L2 ry P2 => ?_
  split at P2
  · rename_i n
    split at P2
    · rename_i kvs k e ek
      obtain ⟨hk, P2⟩ := sif P2
      obtain ⟨a, rfl, hm, vs, h1, r⟩ := g2.sim.obj (rx.mono g2.pre g2.fz) e
      have hv : (valV vs k).isSome = true := by rw [isSome_of (valA_ok k r).1 (valA_ok k r).2]; exact hk
      have g3 := go_put g2.sim hm h1 trivial (o := .dK (kvs.filter fun p => !decide (p.1 = k))) (ho := .dK (dropK vs k)) ⟨_, upd_same, (dropA_ok r).mono (Pre.refl m2) (fz_main h1 trivial)⟩
      exact ⟨a, vs, k, rfl, h1, keyOf_ok ry ek, hv, P2 m2 _ σ g3 (L2.mono g3.pre g3.fz)⟩
    · exact P2.elim
  · exact P2.elim
/-! ### d.get(k, z) -/
def fGet2 (fd fk fz : FE) : FE := fun ρ A => (fd ρ A).bind fun x A => if isDk A x = true then (fk ρ A).bind fun y A => (fz ρ A).bind fun z A => match dGet A x y with
  | some o => .ok (o.getD z) A
  | none => .er
  else .er
theorem isD_ok {m : List Addr} {H : Hp} {A : AH} {x : AV} {v : V} (S : Sim cf m H A) (r : RelA cf.K m H x v) (h : isDk A x = true) : ∃ a, v = .ref a ∧ IsD H a := by
  unfold isDk at h
  split at h
  · split at h
    · rename_i e
      obtain ⟨a, rfl, _, vs, h1, _⟩ := S.obj r e
      exact ⟨a, rfl, .inl ⟨vs, .inl h1⟩⟩
    · rename_i e
      obtain ⟨a, rfl, _, vs, h1, _⟩ := S.obj r e
      exact ⟨a, rfl, .inr ⟨vs, .inl h1⟩⟩
    · cases h
  · cases h
theorem c_get2 {o e f : Expr} {apos cpos : Pos} {fd fk fz : FE} (hu : X.A.units + 1 < cLine) (ho : CE cf X W o fd) (he : CE cf X W e fk) (hf : CE cf X W f fz) (m : M2 X o "get" apos e f cpos := by exact ⟨rfl, rfl, rfl, rfl⟩) : CE cf X W (.Call (.Attribute o "get" apos) [e, f] [] cpos) (fGet2 fd fk fz) := by
  obtain ⟨to, po, oo⟩ := ho.ex
  obtain ⟨te, pe, oe⟩ := he.ex
  obtain ⟨tf, pf, of⟩ := hf.ex
  refine ⟨_, pe_dget2 hu po pe pf m, fun ρ σ m H A Q S L P => ?_⟩
  refine oo.then S L P fun x v m1 H1 A1 _ g1 L1 rx P1 => ?_
  obtain ⟨hd, P1⟩ := post_if P1
  obtain ⟨a, rfl, hD⟩ := isD_ok g1.sim rx hd
  refine ⟨a, rfl, hD, ?_⟩
  refine oe.then g1.sim L1 P1 fun y w m2 H2 A2 _ g2 L2 ry P2 => ?_
  refine of.then g2.sim L2 P2 fun z u m3 H3 A3 _ g3 L3 rz P3 => ?_
  split at P3
  · rename_i ov e0
    obtain ⟨a', o', e5, hg, _, h0, h1⟩ := dGet_ok g3.sim (rx.mono (g2.trans g3).pre (g2.trans g3).fz) (ry.mono g3.pre g3.fz) e0
    cases e5
    refine ⟨o', hg, ?_⟩
    cases ov with
    | none =>
      rw [h0 rfl]
      exact P3 m3 H3 _ (Go.refl g3.sim) rz
    | some q =>
      obtain ⟨uq, rfl, rq⟩ := h1 q rfl
      exact P3 m3 H3 _ (Go.refl g3.sim) rq
  · exact P3.elim
/-! ### d.update(e) -/
def rUpdK : V → List V → Hp → VK → Prop := fun x xs H Q => ∃ (a b : Addr) (kvs more : List (Key × V)), x = .ref a ∧ xs = [.ref b] ∧ a ≠ b ∧ H a = some (.dK kvs) ∧ H b = some (.dK more) ∧ kvs.length + more.length ≤ sizeLine ∧ Q .non (upd H a (.dK (mergeK kvs more)))
theorem mt_updK : MtR X "dict.update" rUpdK := by
  intro pins s σ H x xs v us Q I rx rxs h
  obtain ⟨a, b, kvs, more, rfl, rfl, hne, ha, hb, hl, q⟩ := h
  cases rx
  rw [Vals.ref1 rxs]
  obtain ⟨z, hd, vs, rel, dd⟩ := dk_of I.hok ha
  obtain ⟨z2, hd2, vs2, rel2, dd2⟩ := dk_of I.hok hb
  have l1 : kvs.length = vs.length := Paired.length rel
  have l2 : more.length = vs2.length := Paired.length rel2
  refine call_meetsIn PySem.F.slot_dict_update dd.typeIs PySem.F.entry_dict_update (PySem.F.args_dict_update_2 _ _) (meets_dict_update (mixKind X.prog X.w) a b hne hd2) ⟨vs, vs2, dd, dd2, by omega, fun h' dd' _ hs => ?_⟩
  have he : ∃ q, h'.get? a = some q := let ⟨q, _, _, hq, _⟩ := dd'; ⟨q, hq⟩
  refine ⟨.non, upd H a (.dK (mergeK kvs more)), d_write (t' := s.toks) I (by rw [ha]; exact True.intro) hs he (dk_new (Nat.le_trans (length_mergeK more kvs) hl) hd (KV.merge rel2 rel) dd'), rfl, q⟩
def gUpd : FM := fun x ys A => match x, ys with
  | .obj n, [.obj k] => match A[n]?, A[k]? with
    | some (.dK kvs), some (.dK more) => if n ≠ k ∧ kvs.length + more.length < big then .ok .non (A.set n (.dK (mergeA kvs more))) else .er
    | _, _ => .er
  | _, _ => .er
theorem ok_upd : MtOk cf rUpdK gUpd := fun W m H A σ Q x v ys vs S rx ry P => by
  unfold gUpd at P
  split at P
  · rename_i n k
    split at P
    · rename_i kvs more e e2
      obtain ⟨⟨hne, hl⟩, P⟩ := post_if P
      obtain ⟨a, rfl, hm, ws, h1, r⟩ := S.obj rx e
      obtain ⟨u, rfl, ru⟩ := ry.one
      obtain ⟨b, rfl, hm2, ws2, h2, r2⟩ := S.obj ru e2
      have hab : a ≠ b := fun z => by
        subst z
        exact hne (nd_ix S.nd hm hm2)
      have l1 := paired_len r
      have l2 := paired_len r2
      refine ⟨a, b, ws, ws2, rfl, rfl, hab, h1, h2, by have := big_le hl; omega, P m _ _ (go_put S hm h1 trivial ⟨_, upd_same, ?_⟩) .non⟩
      exact (mergeA_ok r2 r).mono (Pre.refl m) (fz_main h1 trivial)
    · exact P.elim
  · exact P.elim
/-! ### is True, is None -/
def gIsA : F2 := fun x y A => match x, y with
  | _, .non => .ok (.bl x.isN) A
  | .bl a, .bl b => .ok (.bl (a == b)) A
  | _, _ => .er
def gNotA : F2 := fun x y A => match x, y with
  | _, .non => .ok (.bl (!x.isN)) A
  | .bl a, .bl b => .ok (.bl (!(a == b))) A
  | _, _ => .er
theorem op_isA : OpR X (compareOp .Is) (fun x y H Q => (y = .non ∧ Q (.bl (decide (x = .non))) H) ∨ rIsB x y H Q) := op_isN.or op_isBl
theorem op_notA : OpR X (compareOp .IsNot) (fun x y H Q => (y = .non ∧ Q (.bl (!decide (x = .non))) H) ∨ rNotB x y H Q) := op_notN.or op_notBl
theorem ok_isA : R2Ok cf (fun x y H Q => (y = .non ∧ Q (.bl (decide (x = .non))) H) ∨ rIsB x y H Q) gIsA := fun W m H A σ Q x y v w S rx ry P => by
  unfold gIsA at P
  split at P
  · left
    refine ⟨ry.to_non, ?_⟩
    rw [isN_dec rx]
    exact P m H _ (Go.refl S) (.bl _)
  · rename_i a b
    right
    refine ⟨a, b, rx.to_bl, ry.to_bl, P m H _ (Go.refl S) ?_⟩
    rw [show decide (a = b) = (a == b) from rfl]
    exact .bl _
  · exact P.elim
theorem ok_notA : R2Ok cf (fun x y H Q => (y = .non ∧ Q (.bl (!decide (x = .non))) H) ∨ rNotB x y H Q) gNotA := fun W m H A σ Q x y v w S rx ry P => by
  unfold gNotA at P
  split at P
  · left
    refine ⟨ry.to_non, ?_⟩
    rw [isN_dec rx]
    exact P m H _ (Go.refl S) (.bl _)
  · rename_i a b
    right
    refine ⟨a, b, rx.to_bl, ry.to_bl, P m H _ (Go.refl S) ?_⟩
    rw [show decide (a = b) = (a == b) from rfl]
    exact .bl _
  · exact P.elim
end
end Dn

set_option maxRecDepth 100000
set_option maxHeartbeats 2000000
/-! Dn, part M: dict comprehensions, sums of a dict's values. -/
namespace Dn
open PySem PySem.Spec L2 PyProof.Rows

section
variable {cf : Cfg} {X : Cx} {W : WX}
/-- k: v goes to the dict at the place k -/
def pushD (fk fv : FE) (k : Nat) (cont : AH → Res AV) (ρ : Rho) (A : AH) : Res AV :=
  match fk ρ A with
  | .ok x A2 => match fv ρ A2 with
    | .ok y A3 => match keyOf x with
      | some kx => match A3[k]? with
        | some (.dK kvs) => if kvs.length < big then cont (A3.set k (.dK (putA kvs kx y))) else .er
        | _ => .er
      | none => .er
    | _ => .er
  | _ => .er
def dcF (g : FG) (ft : FT) (fk fv : FE) (k : Nat) (ρ : Rho) : List AV → AH → Res AV
  | [], A => .ok (.obj k) A
  | x :: xs, A => turnC g ft x ρ A (pushD fk fv k fun A => dcF g ft fk fv k ρ xs A) fun A => dcF g ft fk fv k ρ xs A
def dcL (g : FG) (ft : FT) (fk fv : FE) (k : Nat) (ρ : Rho) (n : Nat) (f : Nat → AV → AV) : Nat → Nat → AH → Res AV
  | 0, _, _ => .er
  | c + 1, i, A => match A[n]? with
    | some (.lst xs) => match xs[i]? with
      | some x => turnC g ft (f i x) ρ A (pushD fk fv k fun A => dcL g ft fk fv k ρ n f c (i + 1) A) fun A => dcL g ft fk fv k ρ n f c (i + 1) A
      | none => .ok (.obj k) A
    | _ => .er
def fDComp (fi : FI) (g : FG) (ft : FT) (fk fv : FE) (own : List Nat) : FE := fun ρ A => (fi ρ A).bind fun s A => match s with
  | .fix xs => dcF g ft fk fv A.length (wipeR ρ own) xs (A ++ [.dK []])
  | .live n f => dcL g ft fk fv A.length (wipeR ρ own) n f fuel 0 (A ++ [.dK []])
theorem turnD_ok {t : TG} {tt : TT} {te tv : TE} {g : FG} {ft : FT} {fe fv : FE} {ts own : List Nat} (hg : GOk cf W0 t g ts) (ht : TOk cf W0 tt ft) (he : EOk cf W0 te fe) (hv : EOk cf W0 tv fv) (hown : ∀ i ∈ ts, i ∈ own) {x : AV} {v : V} {ρ : Rho} {σ σ0 : L2.St} {m : List Addr} {H : Hp} {A : AH} {Q : VK} {N : Hp → Prop} {k : Nat} {D : Addr}
    {cont : AH → Res AV} (S : Sim cf m H A) (L : Loc cf.K m H ρ (wipe σ own)) (hk : m[k]? = some D) (r : RelA cf.K m H x v) (P : Post cf W (rA cf) m H σ0 Q (turnC g ft x ρ A (pushD fe fv k cont) cont))
    (hN : ∀ m' H' A', Go cf m H m' H' A' → Post cf W (rA cf) m' H' σ0 Q (cont A') → N H') :
    t v (wipe σ own) H fun σ2 H2 => wipe σ2 own = wipe σ own ∧ tt σ2 H2 fun b H3 => if b = true then te σ2 H3 fun y H4 => tv σ2 H4 fun z H5 => ∃ kvs kx, y = kV kx ∧ H5 D = some (.dK kvs) ∧ kvs.length < sizeLine ∧ N (upd H5 D (.dK (putK kvs kx z))) else N H3 := by
  refine hg ρ _ m H A x v _ S L r ?_
  unfold turnC at P
  cases e : g x ρ A with
  | nx ρ1 A1 =>
    rw [e] at P
    simp only at P
    intro m1 H1 σ1 g1 l1 hw
    have idem : wipe (wipe σ own) own = wipe σ own := by
      apply List.ext_getElem?
      intro j
      rw [wipe_get, wipe_get]
      by_cases hj : j ∈ own
      · rw [if_pos hj, if_pos hj]
        cases σ[j]? <;> rfl
      · rw [if_neg hj, if_neg hj]
    refine ⟨(hw own hown).trans idem, ?_⟩
    have P1 := Post.mono g1 P
    refine ht ρ1 σ1 m1 H1 A1 _ g1.sim l1 ?_
    cases e2 : ft ρ1 A1 with
    | ok b A2 =>
      rw [e2] at P1
      intro m2 H2 b' g2 rb
      cases (show b = b' from rb)
      have P2 := Post.mono g2 P1
      cases b with
      | false => exact hN m2 H2 A2 (g1.trans g2) P2
      | true =>
        simp only [if_true] at P2 ⊢
        unfold pushD at P2
        have l2 := l1.mono g2.pre g2.fz
        refine he ρ1 σ1 m2 H2 A2 _ g2.sim l2 ?_
        cases e3 : fe ρ1 A2 with
        | ok y A3 =>
          rw [e3] at P2
          intro m3 H3 u g3 ru
          simp only at P2
          refine hv ρ1 σ1 m3 H3 A3 _ g3.sim (l2.mono g3.pre g3.fz) ?_
          cases e4 : fv ρ1 A3 with
          | ok z A4 =>
            rw [e4] at P2
            intro m4 H4 uz g4 rz
            simp only at P2
            split at P2
            · rename_i kx ek
              split at P2
              · rename_i kvs ea
                obtain ⟨hl, P2⟩ := post_if P2
                have hk4 : m4[k]? = some D := (((g1.trans g2).trans g3).trans g4).pre _ _ hk
                obtain ⟨vs, h1, r1⟩ := g4.sim.at_ k D _ hk4 ea
                have g5 : Go cf m4 H4 m4 (upd H4 D (.dK (putK vs kx uz))) (A4.set k (.dK (putA kvs kx z))) := go_put g4.sim hk4 h1 trivial ⟨_, upd_same, (putA_ok r1 rz).mono (Pre.refl m4) (fz_main h1 trivial)⟩
                exact ⟨vs, kx, keyOf_ok ru ek, h1, by rw [← paired_len r1]; exact big_lt hl, hN m4 _ _ ((((g1.trans g2).trans g3).trans g4).trans g5) (Post.mono ((g3.trans g4).trans g5) P2)⟩
              · exact P2.elim
            · exact P2.elim
          | exc x2 A4 => rw [e4] at P2; exact P2.elim
          | er => rw [e4] at P2; exact P2.elim
        | exc x2 A3 => rw [e3] at P2; exact P2.elim
        | er => rw [e3] at P2; exact P2.elim
    | exc x2 A2 => rw [e2] at P1; exact P1.elim
    | er => rw [e2] at P1; exact P1.elim
  | rt _ _ => rw [e] at P; exact P.elim
  | bk _ _ => rw [e] at P; exact P.elim
  | ct _ _ => rw [e] at P; exact P.elim
  | exc _ _ _ => rw [e] at P; exact P.elim
  | er => rw [e] at P; exact P.elim
theorem ok_dcomp {wi : TI} {t : TG} {tt : TT} {te tv : TE} {fi : FI} {g : FG} {ft : FT} {fe fv : FE} {ts own : List Nat} (hi : IOk cf W wi fi) (hg : GOk cf W0 t g ts) (ht : TOk cf W0 tt ft) (he : EOk cf W0 te fe) (hv : EOk cf W0 tv fv) (hown : ∀ i ∈ ts, i ∈ own) : EOk cf W (tDc wi t tt te tv own) (fDComp fi g ft fe fv own) := fun ρ σ m H A Q S L P => by
  refine hi ρ σ m H A _ S L ?_
  unfold fDComp at P
  cases e : fi ρ A with
  | er => rw [e] at P; exact P.elim
  | exc x A1 => rw [e] at P; exact P
  | ok s A1 =>
    rw [e] at P
    intro m1 H1 J g1 sr
    have P1 := Post.mono g1 P
    have L1 := (L.mono g1.pre g1.fz).wipe own
    intro D hD
    have gN : Go cf m1 H1 (m1 ++ [D]) (upd H1 D (.dK [])) (A1 ++ [.dK []]) := go_new g1.sim hD ⟨[], upd_same, .nil⟩
    have hk : (m1 ++ [D])[A1.length]? = some D := by
      rw [← g1.sim.len, List.getElem?_append_right (Nat.le_refl _)]
      simp
    have sr1 := SrcR.mono gN sr
    have L2' := L1.mono gN.pre gN.fz
    have P2 := Post.mono gN P1
    cases s with
    | fix xs =>
      refine ⟨fun i n H' => n = xs.length - i ∧ i ≤ xs.length ∧ ∃ m' A', Go cf (m1 ++ [D]) (upd H1 D (.dK [])) m' H' A' ∧ Post cf W (rA cf) m' H' σ Q (dcF g ft fe fv A1.length (wipeR ρ own) (xs.drop i) A'), ⟨_, rfl, Nat.zero_le _, _, _, Go.refl gN.sim, P2⟩, ?_⟩
      rintro i n H2 ⟨rfl, hi, m2, A2, g2, P3⟩
      obtain ⟨go, stop, yld⟩ := sr1 m2 H2 A2 g2
      by_cases hlt : i < xs.length
      · refine .inr ⟨go i hlt, fun H' => i + 1 ≤ xs.length ∧ ∃ m' A', Go cf (m1 ++ [D]) (upd H1 D (.dK [])) m' H' A' ∧ Post cf W (rA cf) m' H' σ Q (dcF g ft fe fv A1.length (wipeR ρ own) (xs.drop (i + 1)) A'), fun H' h => ⟨xs.length - (i + 1), by omega, rfl, h⟩, fun x H3 y => ?_⟩
        obtain ⟨y, hy, g3, r3⟩ := yld i x H3 y hlt
        obtain ⟨_, hyy⟩ := List.getElem?_eq_some_iff.mp hy
        rw [List.drop_eq_getElem_cons hlt, hyy] at P3
        exact turnD_ok hg ht he hv hown g3.sim (L2'.mono (g2.trans g3).pre (g2.trans g3).fz) ((g2.trans g3).pre _ _ hk) r3 (Post.mono g3 P3) fun m' H' A' g4 P4 => ⟨hlt, m', A', (g2.trans g3).trans g4, P4⟩
      · have e : i = xs.length := by omega
        subst e
        rw [List.drop_length] at P3
        exact .inl ⟨stop, P3 m2 H2 _ (Go.refl g2.sim) (.obj (g2.pre _ _ hk))⟩
    | live n f =>
      refine ⟨fun i c H' => ∃ m' A', Go cf (m1 ++ [D]) (upd H1 D (.dK [])) m' H' A' ∧ Post cf W (rA cf) m' H' σ Q (dcL g ft fe fv A1.length (wipeR ρ own) n f c i A'), ⟨fuel, _, _, Go.refl gN.sim, P2⟩, ?_⟩
      rintro i c H2 ⟨m2, A2, g2, P3⟩
      cases c with
      | zero => exact P3.elim
      | succ c =>
        unfold dcL at P3
        split at P3
        · rename_i xs ex
          obtain ⟨go, stop, yld⟩ := sr1 m2 H2 A2 xs g2 ex
          split at P3
          · rename_i x0 hx0
            obtain ⟨hlt, _⟩ := List.getElem?_eq_some_iff.mp hx0
            refine .inr ⟨go i hlt, fun H' => ∃ m' A', Go cf (m1 ++ [D]) (upd H1 D (.dK [])) m' H' A' ∧ Post cf W (rA cf) m' H' σ Q (dcL g ft fe fv A1.length (wipeR ρ own) n f c (i + 1) A'), fun H' h => ⟨c, Nat.lt_succ_self c, h⟩, fun x H3 y => ?_⟩
            obtain ⟨y, hy, g3, r3⟩ := yld i x H3 y
            rw [hx0] at hy
            cases hy
            exact turnD_ok hg ht he hv hown g3.sim (L2'.mono (g2.trans g3).pre (g2.trans g3).fz) ((g2.trans g3).pre _ _ hk) r3 (Post.mono g3 P3) fun m' H' A' g4 P4 => ⟨m', A', (g2.trans g3).trans g4, P4⟩
          · rename_i hx0
            exact .inl ⟨stop i (List.getElem?_eq_none_iff.mp hx0), P3 m2 H2 _ (Go.refl g2.sim) (.obj (g2.pre _ _ hk))⟩
        · exact P3.elim
theorem c_dcomp {kx vx tg iter : Expr} {ifs : List Expr} {scope : Scope} {pos : Pos} {fi : FI} {g : FG} {ft : FT} {fk fv : FE} {ts : List Nat} (own : List (Str × Nat)) (hc : X.calm = true) (hN : X.N.Nodup) (hi : CI cf X W tg iter fi) (ok : BlkOk X.N X.env.scope scope own)
    (hg : ∀ (s : Shared) (H : Hp) (C : Addr) (cl : List (Str × Addr)) (fp : List Addr), CG cf (X.blk s H scope (compEnvC scope cl C X.env) fp) W0 tg g ts) (ht : ∀ (s : Shared) (H : Hp) (C : Addr) (cl : List (Str × Addr)) (fp : List Addr), CTs cf (X.blk s H scope (compEnvC scope cl C X.env) fp) W0 ifs ft)
    (hk : ∀ (s : Shared) (H : Hp) (C : Addr) (cl : List (Str × Addr)) (fp : List Addr), CE cf (X.blk s H scope (compEnvC scope cl C X.env) fp) W0 kx fk) (hv : ∀ (s : Shared) (H : Hp) (C : Addr) (cl : List (Str × Addr)) (fp : List Addr), CE cf (X.blk s H scope (compEnvC scope cl C X.env) fp) W0 vx fv)
    (hown : ∀ i ∈ ts, i ∈ own.map (·.2) := by decide) (hs : ∀ x, foldedSetIterable iter X.env x = pure x := by intro _; rfl) :
    CE cf X W (.DictComp kx vx [⟨tg, iter, ifs, 0⟩] scope pos) (fDComp fi g ft fk fv (own.map (·.2))) := by
  obtain ⟨t, p, o⟩ := hi.ex
  exact ⟨_, pe_dc hc hN p ok (fun s H C cl fp => (hg s H C cl fp).pg) (fun s H C cl fp => (ht s H C cl fp).pe) (fun s H C cl fp => (hk s H C cl fp).pe) (fun s H C cl fp => (hv s H C cl fp).pe) hs, ok_dcomp o ok_G ok_F ok_F ok_F hown⟩

/-! ### d.values(), what is summed -/
/-- the entries of a dict, whatever its keys -/
def Ent (H : Hp) (a : Addr) (vs : List V) : Prop := (∃ kvs : List (Key × V), H a = some (.dK kvs) ∧ vs = kvs.map (·.2)) ∨ ∃ kvs : List (List Key × V), H a = some (.dT kvs) ∧ vs = kvs.map (·.2)
theorem ent_raw {pins : List (Addr × Obj)} {σ : L2.St} {H : Hp} {s : Shared} {a : Addr} {vs : List V} (I : Inv X pins σ H s) (h : Ent H a vs) :
    (a == sysModules) = false ∧ ∃ o es ep, s.heap.get? a = some o ∧ o.ExactDict ∧ o.data = .dict es ep ∧ es.size = vs.length ∧ ∀ (i : Nat) (e : DictEntry), es[i]? = some e → ∃ v, vs[i]? = some v ∧ L2.RelV v e.val := by
  rcases h with ⟨kvs, h, rfl⟩ | ⟨kvs, h, rfl⟩
  · obtain ⟨z, hd, ws, rel, o, es, ep, ho, hx, hdt, _, hp, _⟩ := dk_of I.hok h
    have l1 : kvs.length = ws.length := Paired.length rel
    have l2 : es.toList.length = ws.length := hp.length
    refine ⟨hd, o, es, ep, ho, hx, hdt, by rw [List.length_map, ← Array.length_toList, l2, l1], fun i e he => ?_⟩
    have key : ∀ {es : List DictEntry} {ws : List (Key × Value)} {kvs : List (Key × V)}, Pairs (mixKind X.prog X.w) es ws → KV kvs ws → ∀ (i : Nat) (e : DictEntry), es[i]? = some e → ∃ v, (kvs.map (·.2))[i]? = some v ∧ L2.RelV v e.val := by
      intro es ws kvs hp
      induction hp generalizing kvs with
      | nil => exact fun _ i e he => by simp at he
      | @cons e0 kv es ws h1 h2 _ ih =>
        intro hr i e he
        cases hr with
        | cons r rs =>
          rename_i p ps
          cases i with
          | zero =>
            simp at he
            subst he
            exact ⟨p.2, rfl, by rw [h2]; exact r.2⟩
          | succ i =>
            obtain ⟨v, e1, e2⟩ := ih rs i e (by simpa using he)
            exact ⟨v, by simpa using e1, e2⟩
    exact key hp rel i e (by rw [← he, Array.getElem?_toList])
  · obtain ⟨z, hd, xs, rel, o, es, ep, ho, hx, hdt, he, _⟩ := dt_of I.hok h
    have l2 : kvs.length = xs.length := Paired.length rel
    have l1 : es.size = xs.length := size_of_entries he
    refine ⟨hd, o, es, ep, ho, hx, hdt, by rw [List.length_map]; omega, fun i e hi => ?_⟩
    have q := entry_at he i
    rw [hi] at q
    cases hx2 : xs[i]? with
    | none => rw [hx2] at q; cases q
    | some b =>
      rw [hx2] at q
      cases q
      have hik : i < kvs.length := by
        rw [l2]
        exact (List.getElem?_eq_some_iff.mp hx2).1
      obtain ⟨b', hb', e1, e2, e3⟩ := paired_get rel (List.getElem?_eq_getElem hik)
      rw [hx2] at hb'
      cases hb'
      exact ⟨kvs[i].2, by rw [List.getElem?_map, List.getElem?_eq_getElem hik]; rfl, e3⟩
def rValsA : V → List V → Hp → VK → Prop := fun x xs H Q => ∃ a vs, x = .ref a ∧ xs = [] ∧ Ent H a vs ∧ ∀ p, H p = none → Q (.ref p) (upd H p (viewO "dict_values" p a))
theorem mt_vals : MtR X "dict.values" rValsA := by
  intro pins s σ H x xs v us Q I rx rxs h
  obtain ⟨a, vs, rfl, rfl, ha, q⟩ := h
  cases rx
  cases rxs
  obtain ⟨hd, o, es, ep, ho, hx, hdt, hsz, ent⟩ := ent_raw I ha
  have raw : DT.Raw s.heap a es ep := ⟨o, ho, hx, hdt⟩
  have fin : EP X pins σ Q (.ref s.heap.objs.size) { s with heap := s.heap.push { cls := .type "dict_values", data := .fields #[.ref a] } } :=
    ⟨.ref s.heap.objs.size, upd H s.heap.objs.size (viewO "dict_values" s.heap.objs.size a), I.laid (t' := s.toks) (fun b u e => Heap.get?_push_of_some _ e) (Nat.le_refl _) (viewO_ok (Heap.get?_push_size _ rfl)), rfl, q _ (I.hok.fresh (Nat.le_refl _))⟩
  have meets : MeetsIn X.prog X.w (Builtin.«dict.values» ⟨[.ref a], []⟩) (fun _ R s => DT.Raw s.heap a es ep ∧
      R (.ok (.ret (.ref s.heap.objs.size))) { s with heap := s.heap.push { cls := .type "dict_values", data := .fields #[.ref a] } }) :=
    .of_wp fun A R s ⟨hm, h⟩ => by
      show wpAny _ _ (Builtin.Dict.noArgs "values" ⟨[.ref a], []⟩ >>= _) _ _ s
      unfold Builtin.Dict.noArgs
      refine wpAny_bind (wpAny_bind (wpAny_notOrdered_dict hm.typeIs ?_))
      show wpAny _ _ (pure a) _ _ s
      refine wpAny_pure ?_
      show wpAny _ _ (Builtin.Dict.showsAll a >>= _) _ _ s
      unfold Builtin.Dict.showsAll
      rw [if_neg (by rw [hd]; exact Bool.false_ne_true)]
      refine wpAny_bind (wpAny_pure ?_)
      exact wpAny_bind (wpAny_newObj_type (wpAny_pure ⟨_, rfl, h⟩))
  exact call_meetsIn PySem.F.slot_dict_values raw.typeIs PySem.F.entry_dict_values (PySem.F.args_dict_values_1 _) meets ⟨raw, fin⟩
def rSumV : List V → Hp → VK → Prop := fun xs H Q => ∃ (p a : Addr) (ns : List Int), xs = [V.ref p] ∧ H p = some (viewO "dict_values" p a) ∧ Ent H a (ns.map V.int) ∧ Q (.int ns.sum) H
theorem cr_sumV (hc : X.calm = true) : CallR X (.builtin "sum") rSumV := by
  intro pins s σ H xs us Q I rx h
  obtain ⟨p, a, ns, rfl, hp, ha, q⟩ := h
  rw [Vals.ref1 rx]
  obtain ⟨hd, o, es, ep, ho, hx, hdt, hsz, ent⟩ := ent_raw I ha
  have hv : s.heap.get? p = some (DSub.viewOb "dict_values" a) := (show ObjOk X.prog X.w H s.heap p (viewO "dict_values" p a) from I.hok p _ hp).1
  rw [List.length_map] at hsz
  have hP : ∀ (i : Nat) (e : DictEntry), es[i]? = some e → ∃ t, e.val = .int (ns.getD i 0) t := fun i e he => by
    obtain ⟨v, hv, rv⟩ := ent i e he
    rw [List.getElem?_map, Option.map_eq_some_iff] at hv
    obtain ⟨n, hn, rfl⟩ := hv
    have e3 : ns.getD i 0 = n := by rw [List.getD_eq_getElem?_getD, hn]; rfl
    rw [e3]
    exact rv
  refine call_sum_walkG ?_
  refine DSub.iter_vals hv ho hdt ?_
  have hal : a < s.heap.objs.size := Heap.lt_size ho
  refine ⟨s.heap.objs.size, [s.heap.objs.size, a], [s.heap.objs.size], es.size, fun i v => ∃ t, v = .int (ns.getD i 0) t, _, fun i => ns.getD i 0, rfl, DSub.walksVal (a := a) (show X.A.in1.handled = none from I.ok.hd hc) (Nat.ne_of_lt hal) hdt hP, ⟨Heap.get?_push_size _ rfl, Heap.get?_push_of_some _ ho⟩, fun b hb => ?_, fun i v z => z, fun h' tk t' hk => ?_⟩
  · show b < (s.heap.push _).objs.size
    rw [size_push']
    rcases List.mem_cons.mp hb with z | z
    · rw [z]
      exact Nat.lt_succ_self _
    · rw [List.mem_singleton.mp z]
      exact Nat.lt_succ_of_lt hal
  · have hk2 : ∀ b o, s.heap.get? b = some o → h'.get? b = some o := fun b o e => hk b o (fun z => by rw [List.mem_singleton.mp z] at e; exact absurd (Heap.lt_size e) (Nat.lt_irrefl _)) (Heap.get?_push_of_some _ e)
    have e : preSum (fun i => ns.getD i 0) es.size = ns.sum := by
      rw [hsz]
      have key : ∀ (l : List Int), preSum (fun i => l.getD i 0) l.length = l.sum := fun l => by
        induction l with
        | nil => rfl
        | cons x l ih =>
          rw [List.length_cons, PySem.W.kdu_shift]
          show x + preSum (fun i => l.getD i 0) l.length = _
          rw [ih, List.sum_cons]
      exact key ns
    rw [e]
    exact ⟨.int _, H, I.kept (t' := tk) hk2, ⟨t', rfl⟩, q⟩
/-- the values of a dict -/
def valsAt (A : AH) : AV → Option (List AV)
  | .obj n => match A[n]? with
    | some (.dK kvs) => some (kvs.map (·.2))
    | some (.dT kvs) => some (kvs.map (·.2))
    | _ => none
  | _ => none
theorem valsAt_ok {m : List Addr} {H : Hp} {A : AH} {x : AV} {v : V} {xs : List AV} (S : Sim cf m H A) (r : RelA cf.K m H x v) (h : valsAt A x = some xs) : ∃ a vs, v = .ref a ∧ Ent H a vs ∧ RelAs cf.K m H xs vs := by
  unfold valsAt at h
  split at h
  · split at h
    · rename_i e
      cases h
      obtain ⟨a, rfl, _, vs, h1, r⟩ := S.obj r e
      exact ⟨a, _, rfl, .inl ⟨vs, h1, rfl⟩, vals_rel r⟩
    · rename_i e
      cases h
      obtain ⟨a, rfl, _, vs, h1, r⟩ := S.obj r e
      exact ⟨a, _, rfl, .inr ⟨vs, h1, rfl⟩, vals_rel r⟩
    · cases h
  · cases h
/-- sum(d.values()) -/
def fSumV (fd : FE) : FE := fun ρ A => (fd ρ A).bind fun x A => match valsAt A x with
  | some xs => match mapO asI xs with
    | some ns => .ok (.int ns.sum) A
    | none => .er
  | none => .er
theorem c_sumV {o : Expr} {apos cpos p pos : Pos} {fd : FE} (hc : X.calm = true) (hm : X.mg "sum" = none) (ho : CE cf X W o fd) (hbase : attributeBase o "values" X.env (eval o X.env) = eval o X.env := by rfl) (hline : (apos.endLine == cpos.line) = true := by rfl)
    (hg : Gl X "sum" := by rfl) (he : starEach [.Call (.Attribute o "values" apos) [] [] cpos] X.env = (false, eval (.Call (.Attribute o "values" apos) [] [] cpos) X.env) :: starEach [] X.env := by rfl) (hpl : (backTo pos (starEach [] X.env)).any (·.1) = false := by rfl) :
    CE cf X W (.Call (.Name "sum" p) [.Call (.Attribute o "values" apos) [] [] cpos] [] pos) (fSumV fd) := by
  obtain ⟨t, pp, q⟩ := ho.ex
  refine ⟨_, pe_callB (cr_sumV hc) hg hm PyProof.Rows.boot_sum (pa_cons (pe_bm0 PySem.F.plainAttrs_dict PySem.F.slot_dict_values PySem.F.type_dict_values mt_vals pp hbase hline) pa_nil he) (by decide) (by decide) he hpl, fun ρ σ m H A Q S L P => ?_⟩
  refine q.then S L P fun x v m1 H1 A1 _ g1 L1 r1 P1 => ?_
  split at P1
  · rename_i xs e
    split at P1
    · rename_i ns e2
      obtain ⟨a, vs, rfl, hE, r⟩ := valsAt_ok g1.sim r1 e
      have ev := asI_all r e2
      subst ev
      have hT : tyV X.K "dict" (.ref a) H1 := by
        rcases hE with ⟨kvs, h, _⟩ | ⟨kvs, h, _⟩
        · exact .inr (.inr (.inl ⟨rfl, .inl ⟨kvs, h⟩⟩))
        · exact .inr (.inr (.inl ⟨rfl, .inr ⟨kvs, h⟩⟩))
      refine ⟨hT, a, _, rfl, rfl, hE, fun p hp => ?_⟩
      have g2 : Go cf m1 H1 m1 (upd H1 p (viewO "dict_values" p a)) A1 := go_side g1.sim hp
      have hpa : a ≠ p := fun z => by
        subst z
        rcases hE with ⟨kvs, h, _⟩ | ⟨kvs, h, _⟩ <;> (rw [hp] at h; cases h)
      refine ⟨p, a, ns, rfl, upd_same, ?_, P1 m1 _ _ g2 (.int _)⟩
      rcases hE with ⟨kvs, h, e3⟩ | ⟨kvs, h, e3⟩
      · exact .inl ⟨kvs, by rw [upd_ne hpa]; exact h, e3⟩
      · exact .inr ⟨kvs, by rw [upd_ne hpa]; exact h, e3⟩
    · exact P1.elim
  · exact P1.elim
end
end Dn

set_option maxRecDepth 100000
set_option maxHeartbeats 2000000
/-! Dn, part N: == and != by an own __eq__; isinstance against own classes. -/
namespace Dn
open PySem PySem.Spec L2 PyProof.Rows

section
open PySem.W
variable {prog : Program} {w : World} {A : Around} {E : Value → Shared → Prop} {s : Shared} {K : Frag} {x C L f : Addr} {h₀ : Heap} {m : Str → Option Value} {ox : Obj} {od : Option Obj} {b tb : Value}
theorem objNe_K {Q : Fin → Shared → Prop} (hu : A.units < cLine) (X : K.In s.heap) (I : InstAt s.heap x ox C od) (hs : findIn K (.ref C) "__eq__" = some (some (.ref f))) (hf : isFn K (.ref f) = true)
    (hcall : wpAny (model prog w) A (call (.ref f) [.ref x, b]) (fun v s' => ∃ k, v = .bool k ∧ Q (.done (.ret (.bool (!k)))) s') E s) :
    wpAny (model prog w) A (Builtin.«object.__ne__» ⟨[.ref x, b], []⟩) Q E s := by
  obtain ⟨hp, g, d, t, os⟩ := s
  unfold Builtin.«object.__ne__»
  repeat (first
    | with_reducible refine wpAny_cRoomFor hu ?_
    | (refine wpAny_bind (m := callSpecialIfBound? (.ref x) (Str.ofString "__eq__") [b])
        (PySem.W.ifBound_K X I hs hf (wpAny_mono hcall (fun r s' hr => by
          obtain ⟨k, rfl, hq⟩ := hr
          repeat (first | exact hq | exact wpAny_pure hq | exact wpAny_truthy_bool hq | (refine wpAny_bind (m := truthy (.bool _)) (wpAny_truthy_bool ?_)) | wp_step)) fun _ _ e => e)))
    | wp_step)
theorem ne_K {Q : Value → Shared → Prop} (hu : A.units + 1 < cLine) (F : Fr h₀ L s.heap m) (X₀ : K.In h₀) (I : InstAt s.heap x ox C od) (hb : Looks (model prog w) s.heap (typeOf b) tb) (hn : notFirst K C tb = true)
    (hne : findIn K (.ref C) "__ne__" = some (some (.builtin "object.__ne__"))) (hs : findIn K (.ref C) "__eq__" = some (some (.ref f))) (hf : isFn K (.ref f) = true) (ho : subIn K (.ref C) (.type "object") = some true)
    (h : wpAny (model prog w) A.in1 (call (.ref f) [.ref x, b]) (fun v s' => ∃ k, v = .bool k ∧ Q (.bool (!k)) s') E s) : wpAny (model prog w) A (richCompare .NotEq (.ref x) b) Q E s := by
  have X := X₀.keeps F.keep
  have S := PySem.F.slot_enumerate_ne
  have one : wpAny (model prog w) A (tryCompare (.ref x) (cmpInfo .NotEq).2.1 b) (fun r s' => ∃ v, r = some v ∧ Q v s') E s := by
    unfold tryCompare
    refine wpAny_bind ?_
    simp only [callSpecialIfBound?, bindSpecialIfBound?]
    refine wpAny_holding (wpAny_bind (wpAny_bind (wpAny_bind (I.type.here ((looks_findIn X hne).here ?_)))))
    refine wpAny_bind (wpAny_askSetting (wpAny_ite ?_))
    have fin : wpAny (model prog w) A (call (.builtin "object.__ne__") ([.ref x] ++ [b]) >>= fun v => pure (some v)) (fun r s' => wpAny (model prog w) A (match r with
      | some .notImplemented | none => pure none
      | some v => pure (some v)) (fun r s' => ∃ v, r = some v ∧ Q v s') E s') E s := by
      refine wpAny_bind (wpAny_call (codeAny_call_builtin S.plain PySem.F.cmpEntry_ne (check_slot PySem.F.cmpKind_ne PySem.F.cmpSplit_ne (I.type.andThen (looks_subIn X ho)) (PySem.F.cmpArgs_ne _ _)
        (objNe_K (A := A.in1) (by show A.units + 1 < cLine; exact hu) X I hs hf (wpAny_mono h (fun v s' hv => ?_) fun _ _ e => e)))))
      obtain ⟨k, rfl, hq⟩ := hv
      first
        | exact ⟨k, rfl, wpAny_pure (wpAny_pure ⟨_, rfl, hq⟩)⟩
        | exact ⟨k, rfl, wpAny_pure ⟨_, rfl, hq⟩⟩
        | exact ⟨k, rfl, ⟨_, rfl, hq⟩⟩
    split
    · refine wpAny_bind ?_
      rw [S.bind]
      exact wpAny_pure (wpAny_pure fin)
    · refine wpAny_tryCatch (wpAny_bind ?_)
      rw [S.bind]
      exact wpAny_pure (wpAny_pure fin)
  unfold richCompare
  simp only [oneThing_ref]
  refine wpAny_holding (wpAny_bind (wpAny_cRoomFor (Nat.lt_of_succ_lt hu) ?_))
  refine wpAny_bind (I.type.here (wpAny_bind (hb.here ?_)))
  split
  · rename_i q
    have e : subIn K tb (.ref C) = some false := by
      rcases Bool.or_eq_true_iff.mp hn with e | e
      · rw [beq_iff_eq.mp e] at q; simp at q
      · exact beq_iff_eq.mp e
    refine wpAny_bind ((looks_subIn X e).here ?_)
    simp only [Bool.false_eq_true, if_false]
    refine wpAny_bind (wpAny_mono one (fun r s' z => ?_) fun _ _ e => e)
    obtain ⟨v, rfl, hq⟩ := z
    exact wpAny_pure hq
  · refine wpAny_bind (wpAny_pure ?_)
    simp only [Bool.false_eq_true, if_false]
    refine wpAny_bind (wpAny_mono one (fun r s' z => ?_) fun _ _ e => e)
    obtain ⟨v, rfl, hq⟩ := z
    exact wpAny_pure hq
end

section
variable {cf : Cfg} {X : Cx} {W : WX}
/-- an instance of the class at C, with a dict or with slots -/
def InsAt (H : Hp) (a C : Addr) : Prop := (∃ dx vs, SlX.Slt H a C dx vs) ∨ ∃ dx fs, H a = some (.ins C dx fs)
theorem insAt_look {pins : List (Addr × Obj)} {σ : L2.St} {H : Hp} {s : Shared} {a C : Addr} (I : Inv X pins σ H s) (h : InsAt H a C) : ∃ ox od, PySem.W.InstAt s.heap a ox C od := by
  rcases h with ⟨dx, vs, h⟩ | ⟨dx, fs, h⟩
  · obtain ⟨sl, od, _, J, _⟩ := SlX.slt_inst I h
    exact ⟨_, _, J⟩
  · obtain ⟨mA, J, _⟩ := ins_get I.hok h
    obtain ⟨od, J, _⟩ := J.look
    exact ⟨_, _, J⟩
/-- x == y, x != y by the own def of the class at C, y an instance of it too -/
def rOwnE (C : Addr) (sp : Sp) (E : XK) : R2 := fun x y H Q => ∃ a b, x = .ref a ∧ y = .ref b ∧ InsAt H a C ∧ InsAt H b C ∧ sp [x, y] H Q E
def rOwnN (C : Addr) (sp : Sp) (E : XK) : R2 := fun x y H Q => ∃ a b, x = .ref a ∧ y = .ref b ∧ InsAt H a C ∧ InsAt H b C ∧ sp [x, y] H (fun z H' => ∃ k, z = .bl k ∧ Q (.bl (!k)) H') E
theorem op_ownE {CX : CXT} {C g : Addr} {n : Nat} {sp : Sp} {E : XK} (hs : PySem.W.findIn X.K (.ref C) "__eq__" = some (some (.ref g))) (hf : PySem.W.isFn X.K (.ref g) = true) (F : FnR X.prog X.w X.K X.mg X.base CX n g sp)
    (hr : Room n X.A) (hx : Passes CX X E) : OpR X (compareOp .Eq) (rOwnE C sp E) := by
  intro pins s σ H x y v u Q I rx ry h
  obtain ⟨a, b, rfl, rfl, ha, hb, q⟩ := h
  cases (show v = Value.ref a from rx)
  cases (show u = Value.ref b from ry)
  obtain ⟨ox, od, J⟩ := insAt_look I ha
  obtain ⟨ox', od', J'⟩ := insAt_look I hb
  obtain ⟨m, hF⟩ := I.fr
  refine PySem.W.cmp_K (op := .Eq) (tb := .ref C) hr.units0 hF I.ok.mod.kin J J'.type (by simp [PySem.W.notFirst]) hs hf ?_
  refine wpAny_mono (wpAny_call (run_fnR (us := [.ref a, .ref b]) (vs := [.ref a, .ref b]) F hr hx I (.cons rfl (.cons rfl .nil)) q)) (fun w s' z => ?_) fun _ _ x => x
  obtain ⟨z', H', I', rz, qz⟩ := z
  exact SlX.cmpback rz ⟨z', H', I', rz, qz⟩
theorem op_ownN {CX : CXT} {C g : Addr} {n : Nat} {sp : Sp} {E : XK} (hne : PySem.W.findIn X.K (.ref C) "__ne__" = some (some (.builtin "object.__ne__"))) (hs : PySem.W.findIn X.K (.ref C) "__eq__" = some (some (.ref g))) (hf : PySem.W.isFn X.K (.ref g) = true) (ho : PySem.W.subIn X.K (.ref C) (.type "object") = some true) (F : FnR X.prog X.w X.K X.mg X.base CX n g sp)
    (hr : Room (n + 1) X.A) (hx : Passes CX X E) : OpR X (compareOp .NotEq) (rOwnN C sp E) := by
  intro pins s σ H x y v u Q I rx ry h
  obtain ⟨a, b, rfl, rfl, ha, hb, q⟩ := h
  cases (show v = Value.ref a from rx)
  cases (show u = Value.ref b from ry)
  obtain ⟨ox, od, J⟩ := insAt_look I ha
  obtain ⟨ox', od', J'⟩ := insAt_look I hb
  obtain ⟨m, hF⟩ := I.fr
  refine ne_K (tb := .ref C) (hu_of hr) hF I.ok.mod.kin J J'.type (by simp [PySem.W.notFirst]) hne hs hf ho ?_
  refine wpAny_mono (wpAny_call (SlX.run_at (us := [.ref a, .ref b]) (ws := [.ref a, .ref b]) F (show Room n X.A.in1 from Room.in1 hr) I.env0.in1 hx I (.cons rfl (.cons rfl .nil)) q)) (fun w s' z => ?_) fun _ _ x => x
  obtain ⟨z', H', I', rz, k, ez, qz⟩ := z
  subst ez
  exact ⟨k, rz, .bl (!k), H', I', rfl, qz⟩
/-- the class of an object -/
theorem insAt_ok {m : List Addr} {H : Hp} {A : AH} {x : AV} {v : V} {c : Nat} (S : Sim cf m H A) (r : RelA cf.K m H x v) (h : clsA A x = some c) : ∃ a, v = .ref a ∧ InsAt H a (cf.cls c) := by
  unfold clsA at h
  split at h
  · split at h
    · rename_i e
      cases h
      obtain ⟨a, rfl, _, dx, vs, h1, _⟩ := S.obj r e
      exact ⟨a, rfl, .inr ⟨dx, _, h1⟩⟩
    · rename_i e
      cases h
      obtain ⟨a, rfl, _, dx, vs, ne, h1, _⟩ := S.obj r e
      exact ⟨a, rfl, .inl ⟨dx, vs, slt_of (m := m) h1⟩⟩
    · cases h
  · cases h
/-- R2Ok, for readings that may call -/
def R2OkE (cf : Cfg) (E : XK) (r : R2) (g : F2) : Prop := ∀ (m : List Addr) (H : Hp) (A : AH) (σ : L2.St) (Q : VK) (x y : AV) (v w : V), Sim cf m H A → RelA cf.K m H x v → RelA cf.K m H y w → Post cf (WD E) (rA cf) m H σ Q (g x y A) → r v w H Q
theorem c_cmpE {E : XK} {a b : Expr} {op : CmpOp} {pos : Pos} {r : R2} {g : F2} {fa fb : FE} (ho : OpR X (compareOp op) r) (hr : R2OkE cf E r g) (ha : CE cf X (WD E) a fa) (hb : CE cf X (WD E) b fb) (hm : behindInMarks op b = false := by first | exact nomark _ | rfl) : CE cf X (WD E) (.Compare a [op] [b] pos) (f2 g fa fb) := by
  obtain ⟨ta, pa, oa⟩ := ha.ex
  obtain ⟨tb, pb, ob⟩ := hb.ex
  refine ⟨_, pe_cmpR ho pa pb hm, fun ρ σ m H A Q S L P => ?_⟩
  refine oa.then S L P fun x v m1 H1 A1 _ g1 L1 r1 P1 => ?_
  refine ob.then g1.sim L1 P1 fun y w m2 H2 A2 _ g2 L2 r2 P2 => ?_
  exact hr m2 H2 A2 σ Q x y v w g2.sim (RelA.mono g2.pre g2.fz r1) r2 P2
theorem ct_cmpE {E : XK} {a b : Expr} {op : CmpOp} {pos : Pos} {r : R2} {g : F2} {fa fb : FE} (ho : OpR X (compareOp op) r) (hr : R2OkE cf E r g) (ha : CE cf X (WD E) a fa) (hb : CE cf X (WD E) b fb) (hm : behindInMarks op b = false := by first | exact nomark _ | rfl) : CT cf X (WD E) (.Compare a [op] [b] pos) (fB (f2 g fa fb)) := by
  obtain ⟨ta, pa, oa⟩ := ha.ex
  obtain ⟨tb, pb, ob⟩ := hb.ex
  refine ⟨_, pt_cmpR ho pa pb hm, ok_test fun ρ σ m H A Q S L P => ?_⟩
  refine oa.then S L P fun x v m1 H1 A1 _ g1 L1 r1 P1 => ?_
  refine ob.then g1.sim L1 P1 fun y w m2 H2 A2 _ g2 L2 r2 P2 => ?_
  exact hr m2 H2 A2 σ Q x y v w g2.sim (RelA.mono g2.pre g2.fz r1) r2 P2
/-- == of two of the class c, else of data -/
def gEqO (c : Nat) (G : FD) : F2 := fun x y A => match clsA A x, clsA A y with
  | some c1, some c2 => if c1 = c ∧ c2 = c then G [x, y] A else .er
  | _, _ => gEq x y A
def gNeO (c : Nat) (G : FD) : F2 := fun x y A => match clsA A x, clsA A y with
  | some c1, some c2 => if c1 = c ∧ c2 = c then (G [x, y] A).bind fun z A => match z with
      | .bl k => .ok (.bl (!k)) A
      | _ => .er
    else .er
  | _, _ => gNe x y A
abbrev rEqO (K : PySem.W.Frag) (C : Addr) (sp : Sp) (E : XK) : R2 := fun x y H Q => rEqD K x y H Q ∨ rOwnE C sp E x y H Q
abbrev rNeO (K : PySem.W.Frag) (C : Addr) (sp : Sp) (E : XK) : R2 := fun x y H Q => rNeD K x y H Q ∨ rOwnN C sp E x y H Q
theorem ok_eqO {E : XK} (c : Nat) (G : FD) : R2OkE cf E (rEqO cf.K (cf.cls c) (spOf cf 2 G) E) (gEqO c G) := fun m H A σ Q x y v w S rx ry P => by
  unfold gEqO at P
  split at P
  · rename_i c1 c2 e1 e2
    obtain ⟨⟨h1, h2⟩, P2⟩ := post_if P
    clear P
    subst h1 h2
    obtain ⟨a, rfl, ia⟩ := insAt_ok S rx e1
    obtain ⟨b, rfl, ib⟩ := insAt_ok S ry e2
    exact .inr ⟨a, b, rfl, rfl, ia, ib, m, A, [x, y], S, .cons rx (.cons ry .nil), rfl, post_wd P2⟩
  · exact .inl (ok_eq (WD E) m H A σ Q x y v w S rx ry P)
theorem ok_neO {E : XK} (c : Nat) (G : FD) : R2OkE cf E (rNeO cf.K (cf.cls c) (spOf cf 2 G) E) (gNeO c G) := fun m H A σ Q x y v w S rx ry P => by
  unfold gNeO at P
  split at P
  · rename_i c1 c2 e1 e2
    obtain ⟨⟨h1, h2⟩, P2⟩ := post_if P
    clear P
    subst h1 h2
    obtain ⟨a, rfl, ia⟩ := insAt_ok S rx e1
    obtain ⟨b, rfl, ib⟩ := insAt_ok S ry e2
    refine .inr ⟨a, b, rfl, rfl, ia, ib, m, A, [x, y], S, .cons rx (.cons ry .nil), rfl, ?_⟩
    cases eg : G [x, y] A with
    | ok z B =>
      rw [eg] at P2
      intro m1 H1 u g1 ru
      have P3 := Post.mono g1 P2
      simp only [Res.bind_ok] at P3
      cases z with
      | bl k => exact ⟨k, ru.to_bl, P3 m1 H1 _ (Go.refl g1.sim) (.bl _)⟩
      | _ => exact P3.elim
    | exc ex B =>
      rw [eg] at P2
      exact P2
    | er =>
      rw [eg] at P2
      exact P2.elim
  · exact .inl (ok_ne (WD E) m H A σ Q x y v w S rx ry P)
/-- what == and != ask of a class -/
structure OwnEq (cf : Cfg) (c : Nat) : Prop where
  ne : PySem.W.findIn cf.K (.ref (cf.cls c)) "__ne__" = some (some (.builtin "object.__ne__"))
  ob : PySem.W.subIn cf.K (.ref (cf.cls c)) (.type "object") = some true
theorem op_eqO {E : XK} {qual : Str} {st : Stmt} {k j c : Nat} {p q : Str} {G : FD} (D : Mf X.prog X.w cf X.mg X.base c "__eq__" qual st [p, q] k G) (hb : BindsT "__eq__" qual st [p, q]) (hK : X.K = cf.K) (hr : Room j X.A) (hj : k ≤ j) (tk : Takes X (WD E)) :
    OpR X (compareOp .Eq) (rEqO cf.K (cf.cls c) (spOf cf 2 G) E) := by
  obtain ⟨g, fd, F, hm, O⟩ := D.ex
  have hbn := F.binds hb
  rw [← hK] at O hbn hm
  have h := (op_eqD (X := X) hr.units).or (op_ownE hm.at_ hm.fn (fnR_of O hbn) (hr.mono hj) (passW (W := WD E) tk))
  rw [hK] at h
  exact h
theorem op_neO {E : XK} {qual : Str} {st : Stmt} {k j c : Nat} {p q : Str} {G : FD} (D : Mf X.prog X.w cf X.mg X.base c "__eq__" qual st [p, q] k G) (B : OwnEq cf c) (hb : BindsT "__eq__" qual st [p, q]) (hK : X.K = cf.K) (hr : Room j X.A) (hj : k + 1 ≤ j) (tk : Takes X (WD E)) :
    OpR X (compareOp .NotEq) (rNeO cf.K (cf.cls c) (spOf cf 2 G) E) := by
  obtain ⟨g, fd, F, hm, O⟩ := D.ex
  have hbn := F.binds hb
  have hn := B.ne
  have ho := B.ob
  rw [← hK] at O hbn hm hn ho
  have h := (op_neD (X := X) hr.units).or (op_ownN hn hm.at_ hm.fn ho (fnR_of O hbn) (hr.mono hj) (passW (W := WD E) tk))
  rw [hK] at h
  exact h

/-! ### isinstance(x, C) of own classes -/
/-- by the class of x: the answer -/
abbrev RelC := List (Nat × Bool)
def relAt (t : RelC) (c : Nat) : Option Bool := (t.find? fun p => p.1 == c).map (·.2)
theorem relAt_mem {t : RelC} {c : Nat} {b : Bool} (h : relAt t c = some b) : (c, b) ∈ t := by
  unfold relAt at h
  rw [Option.map_eq_some_iff] at h
  obtain ⟨p, h1, rfl⟩ := h
  have h2 := List.find?_some h1
  have h3 := List.mem_of_find?_eq_some h1
  obtain ⟨a, b⟩ := p
  have e : a = c := by simpa using h2
  subst e
  exact h3
/-- what isinstance asks of x's class c, the answer b -/
structure IsiS (cf : Cfg) (u : Value) (c : Nat) (b : Bool) : Prop where
  ic : SlX.SIsi cf.K (cf.cls c)
  cl : SlX.SCls cf.K (cf.cls c)
  kt : PySem.W.kitOne cf.K (.ref (cf.cls c)) u = some b
structure IsiI (cf : Cfg) (u : Value) (c : Nat) (b : Bool) : Prop where
  ic : SlX.SIsi cf.K (cf.cls c)
  cl : Cls cf.K (cf.cls c)
  kt : PySem.W.kitOne cf.K (.ref (cf.cls c)) u = some b
/-- isinstance(x, C), by x's class; false for a value of a built-in type -/
def fIsiC (ri rs : RelC) (fe : FE) : FE := fun ρ A => (fe ρ A).bind fun x A => match x with
  | .obj n => match A[n]? with
    | some (.ins c _) => match relAt ri c with
      | some b => .ok (.bl b) A
      | none => .er
    | some (.slt c _) => match relAt rs c with
      | some b => .ok (.bl b) A
      | none => .er
    | _ => if tyS A x ≠ "?" then .ok (.bl false) A else .er
  | _ => if tyS A x ≠ "?" then .ok (.bl false) A else .er
theorem c_isiC {e : Expr} {xC : Str} {C : Addr} {p p2 pos : Pos} {fe : FE} (ri rs : RelC) (hK : X.K = cf.K) (hI : X.mg "isinstance" = none) (hm : X.mg xC = some (.ref C)) (hb : ∀ t ∈ tyNames, PySem.W.kitOne cf.K (.type t) (.ref C) = some false)
    (hi : ∀ q ∈ ri, IsiI cf (.ref C) q.1 q.2) (hs : ∀ q ∈ rs, IsiS cf (.ref C) q.1 q.2) (he : CE cf X W e fe) (hgI : Gl X "isinstance" := by rfl) (hg : Gl X xC := by rfl) (hd : (xC == ("__debug__" : Str)) = false := by decide)
    (hst : starEach [e, .Name xC p2] X.env = (false, eval e X.env) :: starEach [.Name xC p2] X.env := by rfl) (hs2 : starEach [.Name xC p2] X.env = (false, eval (.Name xC p2) X.env) :: starEach [] X.env := by rfl) (hpl : (backTo pos (starEach [.Name xC p2] X.env)).any (·.1) = false := by rfl) :
    CE cf X W (.Call (.Name "isinstance" p) [e, .Name xC p2] [] pos) (fIsiC ri rs fe) := by
  obtain ⟨t, q, o⟩ := he.ex
  have pC : PE X (.Name xC p2) (tC (.ref C)) := pe_glob (v := .ref C) hg hm rfl hd
  refine ⟨_, pe_callB ((SlX.call_isiSl (.ref C)).or call_isi) hgI hI boot_isinstance (pa_cons q (pa_cons pC pa_nil hs2) hst) (by decide) (by decide) hst hpl, fun ρ σ m H A Q S L P => ?_⟩
  refine o.then S L P fun x v m1 H1 A1 _ g1 L1 r P1 => ?_
  rw [hK]
  have base : tyS A1 x ≠ "?" → Q (.bl false) H1 → rIsi cf.K [v, .ref C] H1 Q := fun h1 hq => ⟨v, .ref C, _, _, _, rfl, .own C, tyX_ok g1.sim r h1, hb _ (tyS_in h1), hq⟩
  split at P1
  · rename_i n
    split at P1
    · rename_i c fs e1
      split at P1
      · rename_i b eb
        obtain ⟨F1, F2, F3⟩ := hi _ (relAt_mem eb)
        obtain ⟨a, rfl, _, dx, vs, h1, _⟩ := g1.sim.obj r e1
        exact .inr ⟨.ref a, .ref C, _, _, b, rfl, .own C, .base (.ins h1 F2 F1.ca F1.cn F1.ct F1.cm), F3, P1 m1 H1 _ (Go.refl g1.sim) (.bl _)⟩
      · exact P1.elim
    · rename_i c fs e1
      split at P1
      · rename_i b eb
        obtain ⟨F1, F2, F3⟩ := hs _ (relAt_mem eb)
        obtain ⟨a, rfl, _, dx, vs, ne, h1, _⟩ := g1.sim.obj r e1
        exact .inl ⟨a, _, dx, vs, .ref C, b, rfl, rfl, fun w hw => hw, slt_of (m := m1) h1, F2, F1, F3, P1 m1 H1 _ (Go.refl g1.sim) (.bl _)⟩
      · exact P1.elim
    · obtain ⟨h1, P1⟩ := post_if P1
      exact .inr (base h1 (P1 m1 H1 _ (Go.refl g1.sim) (.bl _)))
  · obtain ⟨h1, P1⟩ := post_if P1
    exact .inr (base h1 (P1 m1 H1 _ (Go.refl g1.sim) (.bl _)))
end
end Dn

set_option maxRecDepth 100000
set_option maxHeartbeats 2000000
/-! Dn, part O: chains as tests, stores to items as targets, list(range(..)), module constants; the law's end. -/
namespace Dn
open PySem PySem.Spec L2 PyProof.Rows

section
variable {cf : Cfg} {X : Cx} {W : WX}
theorem ct_chain {a b c : Expr} {op op' : CmpOp} {pos : Pos} {r r' : R2} {g g' : F2} {fa fb fc : FE} (ho : OpR X (compareOp op) r) (hr : R2Ok cf r g) (ho' : OpR X (compareOp op') r') (hr' : R2Ok cf r' g') (ha : CE cf X W a fa) (hb : CE cf X W b fb) (hc : CE cf X W c fc)
    (hm : lastMarks [op, op'] [b, c] = false := by rfl) : CT cf X W (.Compare a [op, op'] [b, c] pos) (fB (fChain g g' fa fb fc)) := by
  obtain ⟨ta, pa, oa⟩ := ha.ex
  obtain ⟨tb, pb, ob⟩ := hb.ex
  obtain ⟨tc, pc, oc⟩ := hc.ex
  exact ⟨_, pt_chain ho ho' pa pb pc hm, ok_test (ok_chain hr hr' oa ob oc)⟩
/-- o[i] as a target: a dict's, else a list's -/
def gSb (fo fi : FE) : FG := fun z ρ A => (fo ρ A).s ρ fun x A => (fi ρ A).s ρ fun y A => match dPut A x y z with
  | some A' => .nx ρ A'
  | none => match setL A x y z with
    | some A' => .nx ρ A'
    | none => .er
theorem set_both (hu : X.A.units + 1 < cLine) : PSet X (fun o i v H Q => rSetD o i v H Q ∨ rSetL o i v H Q) := by
  intro pins s σ H o i v ov iv u Q I ro ri rv h
  exact h.elim (set_dict hu pins s σ H o i v ov iv u Q I ro ri rv) (set_list pins s σ H o i v ov iv u Q I ro ri rv)
theorem setL_ok {m : List Addr} {H : Hp} {A A' : AH} {x y z : AV} {v w u : V} (S : Sim cf m H A) (rx : RelA cf.K m H x v) (ry : RelA cf.K m H y w) (rz : RelA cf.K m H z u) (h : setL A x y z = some A') :
    ∃ a vs k j, v = .ref a ∧ w = .int k ∧ H a = some (.lst vs) ∧ ixN vs.length k = some j ∧ Go cf m H m (upd H a (.lst (vs.set j u))) A' := by
  unfold setL at h
  split at h
  · rename_i n i
    split at h
    · rename_i xs e6
      rw [Option.map_eq_some_iff] at h
      obtain ⟨j, hj, rfl⟩ := h
      obtain ⟨a, rfl, hm, vs, h1, r⟩ := S.obj rx e6
      exact ⟨a, vs, i, j, rfl, ry.to_int, h1, by rw [← r.length]; exact hj, go_put S hm h1 trivial ⟨_, upd_same, (RelAs.set rz j r).mono (Pre.refl m) (fz_main h1 trivial)⟩⟩
    · cases h
  · cases h
theorem cg_sub {o i : Expr} {pos : Pos} {fo fi : FE} (hu : X.A.units + 1 < cLine) (ho : CE cf X W o fo) (hi : CE cf X W i fi)
    (ha : ∀ v, assign (.Subscript o i pos) X.env v = (do
      let ov ← holding [v] (eval o X.env)
      let iv ← holding [v, ov] (eval i X.env)
      standAt pos
      holding [v, ov, iv] (setItem ov iv v)
      release [v, ov, iv] []) := by intro _; rfl) : CG cf X W (.Subscript o i pos) (gSb fo fi) [] := by
  obtain ⟨to, po, oo⟩ := ho.ex
  obtain ⟨ti, pi, oi⟩ := hi.ex
  refine ⟨_, pg_sub po pi (set_both hu) ha, fun ρ σ m H A z u Q S L rz P => ?_⟩
  refine oo.thenS S L P fun x v m1 H1 A1 _ g1 L1 rx P1 => ?_
  refine oi.thenS g1.sim L1 P1 fun y w m2 H2 A2 _ g2 L2 ry P2 => ?_
  have rx2 := rx.mono g2.pre g2.fz
  have rz2 := rz.mono (g1.trans g2).pre (g1.trans g2).fz
  split at P2
  · rename_i A' e
    obtain ⟨a, H', rfl, hp, g3⟩ := dPut_ok g2.sim rx2 ry rz2 e
    exact .inl ⟨a, H', rfl, hp, P2 m2 H' σ g3 (L2.mono g3.pre g3.fz) fun _ _ => rfl⟩
  · split at P2
    · rename_i A' e
      obtain ⟨a, vs, k, j, rfl, rfl, h1, hj, g3⟩ := setL_ok g2.sim rx2 ry rz2 e
      exact .inr ⟨a, vs, k, j, rfl, rfl, h1, hj, P2 m2 _ σ g3 (L2.mono g3.pre g3.fz) fun _ _ => rfl⟩
    · exact P2.elim
/-- list(range(n)) -/
def fLRg (f : FE) : FE := fun ρ A => (f ρ A).bind fun x A => match x with
  | .int j => if 0 ≤ j ∧ j < 1000000 then .ok (.obj A.length) (A ++ [.lst (rngL 0 j.toNat)]) else .er
  | _ => .er
theorem rngL_rel {K : PySem.W.Frag} {m : List Addr} {H : Hp} : ∀ (ns : List Nat), RelAs K m H (ns.map fun (i : Nat) => AV.int ((0 : Int) + (i : Nat))) (ns.map fun (i : Nat) => V.int (0 + (i : Nat)))
  | [] => .nil
  | n :: ns => .cons (.int _) (rngL_rel ns)
theorem c_listRg {a : Expr} {p p2 pos pos2 : Pos} {f : FE} (hc : X.calm = true) (hm : X.mg "list" = none) (hm2 : X.mg "range" = none) (ha : CE cf X W a f) (hg : Gl X "list" := by rfl) (hg2 : Gl X "range" := by rfl)
    (na : starEach [a] X.env = (false, eval a X.env) :: starEach [] X.env := by rfl) (na2 : starEach [.Call (.Name "range" p) [a] [] pos] X.env = (false, eval (.Call (.Name "range" p) [a] [] pos) X.env) :: starEach [] X.env := by rfl) :
    CE cf X W (.Call (.Name "list" p2) [.Call (.Name "range" p) [a] [] pos] [] pos2) (fLRg f) := by
  obtain ⟨t, q, o⟩ := ha.ex
  refine ⟨_, pe_listRg hc hg hm (prg_1 hg2 hm2 q na) na2, fun ρ σ m H A Q S L P => ?_⟩
  refine o.then S L P fun x v m1 H1 A1 e g1 L1 r P1 => ?_
  clear e
  split at P1
  · rename_i j
    obtain ⟨⟨h0, h1⟩, P1⟩ := post_if P1
    refine ⟨j, r.to_int, RgOk.of_le (Int.le_refl 0) (by omega) (by omega) h0, fun q hq => ?_⟩
    have e : rgV 0 j = (List.range j.toNat).map fun (i : Nat) => V.int (0 + (i : Nat)) := by unfold rgV; simp
    rw [e]
    exact new_list g1.sim (rngL_rel _) P1 hq
  · exact P1.elim
/-- a module's constant -/
theorem c_gi {x : Str} {i : Int} {pos : Pos} (hm : ∃ t, X.mg x = some (.int i t)) (hg : Gl X x := by rfl) (hd : (x == ("__debug__" : Str)) = false := by decide) : CE cf X W (.Name x pos) (fC (.int i)) := by
  obtain ⟨t, hm⟩ := hm
  exact c_gint hg hm hd
theorem c_gs {x : Str} {i : Str} {pos : Pos} (hm : ∃ t, X.mg x = some (.str i t)) (hg : Gl X x := by rfl) (hd : (x == ("__debug__" : Str)) = false := by decide) : CE cf X W (.Name x pos) (fC (.str i)) := by
  obtain ⟨t, hm⟩ := hm
  exact c_gstr hg hm hd
end

/-! ### a comprehension's scope, reckoned -/
def kindB : NameKind → NameKind → Bool := fun a b => decide (a = b)
def blkB (N : List Str) (sc : List (Str × NameKind)) (scope : Scope) (own : List (Str × Nat)) : Bool :=
  decide (scope.kind = .function) && scope.names.all (fun y => decide (scope.names.lookup y.1 = some y.2)) && own.all (fun p => decide (N[p.2]? = some p.1)) &&
  scope.names.all (fun y => !decide (y.2 = .free) || decide (sc.lookup y.1 = some .cell) || decide (sc.lookup y.1 = some .free)) &&
  scope.names.all (fun y => !(decide (y.2 = .local) || decide (y.2 = .cell)) || decide (y.1 ∈ own.map (·.1)) || decide (y.1 ∉ N))
theorem blk_of {N : List Str} {sc scope : Scope} {own : List (Str × Nat)} (h : blkB N sc.names scope own = true) : BlkOk N sc scope own := by
  unfold blkB at h
  simp only [Bool.and_eq_true, List.all_eq_true, decide_eq_true_eq, Bool.or_eq_true, Bool.not_eq_true', decide_eq_false_iff_not, Bool.or_eq_false_iff] at h
  obtain ⟨⟨⟨⟨h1, h2⟩, h3⟩, h4⟩, h5⟩ := h
  refine ⟨h1, h2, h3, fun y hy e => ?_, fun y hy e => ?_⟩
  · rcases h4 y hy with (q | q) | q
    · exact (q e).elim
    · exact .inl q
    · exact .inr q
  · rcases h5 y hy with (q | q) | q
    · rcases e with e | e
      · exact (q.1 e).elim
      · exact (q.2 e).elim
    · exact .inl q
    · exact .inr q

/-! ### the law's end -/
/-- what is asked of the law: at a script of at most 63 ints it is True -/
def spLaw (K : PySem.W.Frag) : Sp := fun vs H Q _ => ∃ (a : Addr) (ns : List Int), vs = [.ref a] ∧ FrzL K H a (ns.map V.int) ∧ ns.length ≤ 63 ∧ ∀ H', Q (.bl true) H'
def isTrueR : Res AV → Bool
  | .ok (.bl true) _ => true
  | _ => false
theorem isTrueR_ok {r : Res AV} (h : isTrueR r = true) : ∃ A, r = .ok (.bl true) A := by
  unfold isTrueR at h
  split at h
  · exact ⟨_, rfl⟩
  · cases h
/-- the promise of the law from what it computes -/
theorem law_of {P : Program} {w : World} {cf : Cfg} {mg : Str → Option Value} {base : Heap} {st : Stmt} {p : Str} {k : Nat} {G : FD} (D : Df P w cf mg base "law" st [p] k G) (hG : ∀ ns : List Int, ns.length ≤ 63 → isTrueR (G [.scr ns] []) = true) :
    ∃ fa fd, mg "law" = some (.ref fa) ∧ Fun cf.K "law" "law" st fa fd ∧ FnOk P w cf.K mg base (L2.CX P w) k fa fd [p] (spLaw cf.K) := by
  obtain ⟨fa, fd, F, hm, O⟩ := D.ex
  refine ⟨fa, fd, hm, F, O.imp fun vs H Q E h => ?_⟩
  obtain ⟨a, ns, rfl, hs, hl, q⟩ := h
  obtain ⟨A, e⟩ := isTrueR_ok (hG ns hl)
  refine ⟨[], [], [.scr ns], ⟨rfl, .nil, fun n a o h => by simp at h⟩, .cons (.scr hs) .nil, rfl, ?_⟩
  rw [e]
  intro m' H' v g r
  rw [RelA.to_bl r]
  exact q H'
end Dn
namespace Dn
open PySem PySem.Spec L2 PyProof.Rows
theorem raw_of {K : PySem.W.Frag} {cf : Cfg} {h : Heap} {mg : Str → Option Value} {x : Str} {st : Stmt} {f : Addr} {oc : Value} {od an : Option Addr} {osl : Array (Option Value)} {kV doc pm cdv ct : Value} (hK : cf.K = K) (X : K.In h) (G : h.Ns mainGlobals mg) (a : PySem.W.nsIn K mainGlobals x = some (some (.ref f)))
    (l : K.lookup f = some ⟨oc, od, .func (PySem.W.fnOf x x (defArgs st) (defBody st) (defScope st) .none kV doc pm an cdv ct), osl⟩) (c : PySem.W.codeIn K cdv x = true) (k : PySem.W.keepIn K (.ref f) = true) : Raw cf mg x st := by
  subst hK
  exact ⟨f, _, fun_mk l c k, PySem.W.mg_of X G a⟩
theorem rawm_of {K : PySem.W.Frag} {cf : Cfg} {C : Addr} {c : Nat} {m qual : Str} {st : Stmt} {f : Addr} {oc : Value} {od an : Option Addr} {osl : Array (Option Value)} {kV doc pm cdv ct : Value} (hK : cf.K = K) (hC : cf.cls c = C) (a : PySem.W.findIn K (.ref C) m = some (some (.ref f))) (i : PySem.W.isFn K (.ref f) = true)
    (l : K.lookup f = some ⟨oc, od, .func (PySem.W.fnOf m qual (defArgs st) (defBody st) (defScope st) .none kV doc pm an cdv ct), osl⟩) (cc : PySem.W.codeIn K cdv qual = true) (k : PySem.W.keepIn K (.ref f) = true) : RawM cf c m qual st := by
  subst hK hC
  exact ⟨f, _, fun_mk l cc k, a, i, k⟩
theorem mak_of {K : PySem.W.Frag} {cf : Cfg} {h : Heap} {mg : Str → Option Value} {x : Str} {C : Addr} {c : Nat} (hK : cf.K = K) (hC : cf.cls c = C) (X : K.In h) (G : h.Ns mainGlobals mg) (a : PySem.W.nsIn K mainGlobals x = some (some (.ref C))) (mk : PySem.W.makesIn K C = true) (kp : PySem.W.keepIn K (.ref C) = true) : Mak cf mg x c := by
  subst hK hC
  exact ⟨mk, kp, PySem.W.mg_of X G a⟩
theorem cls_of {K : PySem.W.Frag} {cf : Cfg} {C : Addr} {c : Nat} (hK : cf.K = K) (hC : cf.cls c = C) (pg : PySem.W.plainGet K C Str.empty = true) (hd : PySem.W.hasDictIn K C = true) (po : PySem.W.plainOver K C = true) (sa : PySem.W.findIn K (.ref C) "__setattr__" = some (some (.builtin "object.__setattr__"))) : Cls cf.K (cf.cls c) := by
  subst hK hC
  exact ⟨pg, hd, po, sa⟩
theorem scls_of {K : PySem.W.Frag} {cf : Cfg} {C : Addr} {c : Nat} (hK : cf.K = K) (hC : cf.cls c = C) (pg : PySem.W.plainGet K C Str.empty = true) (ic : PySem.W.isClsIn K C = true) (po : PySem.W.plainOver K C = true) (sa : PySem.W.findIn K (.ref C) "__setattr__" = some (some (.builtin "object.__setattr__"))) : SlX.SCls cf.K (cf.cls c) := by
  subst hK hC
  exact ⟨pg, ic, po, sa⟩
theorem sisi_of {K : PySem.W.Frag} {cf : Cfg} {C : Addr} {c : Nat} (hK : cf.K = K) (hC : cf.cls c = C) (ca : PySem.W.findIn K (.ref C) "__class__" = some (some (.builtin "object.__class__"))) (cn : PySem.W.specialIn K (.builtin "object.__class__") "__get__" = some (some (.builtin "getset_descriptor.__get__")))
    (ct : PySem.W.takesIn K (.builtin "object.__class__") = some true) (cm : PySem.W.mroIn K C (.type "object") = some true) : SlX.SIsi cf.K (cf.cls c) := by
  subst hK hC
  exact ⟨ca, cn, ct, cm⟩
theorem noat_of {K : PySem.W.Frag} {cf : Cfg} {C : Addr} {c : Nat} {f : Str} (hK : cf.K = K) (hC : cf.cls c = C) (h : PySem.W.findIn K (.ref C) f = some none) : NoAttr cf.K (cf.cls c) f := by
  subst hK hC
  exact h
theorem sltf_of {K : PySem.W.Frag} {cf : Cfg} {C p : Addr} {c i : Nat} {f : Str} (hK : cf.K = K) (hC : cf.cls c = C) (cl : SlX.SCls cf.K (cf.cls c)) (at_ : PySem.W.findIn K (.ref C) f = some (some (.ref p))) (get : PySem.W.specialIn K (.ref p) "__get__" = some (some (.builtin "member_descriptor.__get__")))
    (tk : PySem.W.takesIn K (.ref p) = some true) (ty : PySem.W.typeIn K (.ref p) = some (.type "member_descriptor")) (ix : PySem.W.slotIn K p C = some i) (lt : i < 1000) : SltF cf f c i := by
  subst hK hC
  exact ⟨cl, p, at_, get, tk, ty, ix, lt⟩
theorem owneq_of {K : PySem.W.Frag} {cf : Cfg} {C : Addr} {c : Nat} (hK : cf.K = K) (hC : cf.cls c = C) (ne : PySem.W.findIn K (.ref C) "__ne__" = some (some (.builtin "object.__ne__"))) (ob : PySem.W.subIn K (.ref C) (.type "object") = some true) : OwnEq cf c := by
  subst hK hC
  exact ⟨ne, ob⟩
theorem hsp_law {K : PySem.W.Frag} {H : Hp} {a : Addr} {ns : List Int} (hl : ns.length ≤ 63) (hO : Only H) (hS : SqL K H a (ns.map V.int)) : spLaw K [.ref a] H (fun v _ => v = .bl true) fun _ _ _ => False := by
  refine ⟨a, ns, rfl, ?_, hl, fun _ => rfl⟩
  rcases hS with (h | h) | h
  · rcases hO a with e | ⟨o, xs, e⟩
    · rw [h] at e
      cases e
    · rw [h] at e
      cases e
  · exact .inl h
  · exact .inr h
theorem hcx_law {P : Program} {w : World} {H : Hp} {s : Shared} {e : Value} {s' : Shared} (h : L2.CX P w [] H s (fun _ _ _ => False) e s') : False := by
  obtain ⟨_, _, _, _, _, _, _, _, _, _, _, _, z⟩ := h
  exact z.elim
end Dn

set_option maxRecDepth 100000
set_option maxHeartbeats 2000000
/-! Dn, part P: the draws that every law begins with: plain Lean. -/
namespace Dn
open PySem PySem.Spec L2 PyProof.Rows
/-! ### small steps -/
theorem gcH_self (A : AH) (v : AV) : gcH A v A = A := by
  unfold gcH
  rw [List.take_length]
  exact ite_self _

theorem gI_ok {C : Int → Int → Bool} {g : Int → Int → AV} {i j : Int} {A : AH} (h : C i j = true) : gI C g (.int i) (.int j) A = .ok (g i j) A := by simp only [gI, h, if_true]
theorem gMul_ok {i j : Int} {A : AH} (h : i.natAbs < 18446744073709551616 ∨ j.natAbs < 18446744073709551616) : gMul (.int i) (.int j) A = .ok (.int (i * j)) A := by
  unfold gMul
  refine gI_ok ?_
  unfold cMul
  rw [Bool.or_eq_true, decide_eq_true_eq, decide_eq_true_eq]
  exact h
theorem gMod_ok {i j : Int} {A : AH} (h : 0 < j) : gMod (.int i) (.int j) A = .ok (.int (i % j)) A := gI_ok (by simp [cPos, h])
theorem gDiv_ok {i j : Int} {A : AH} (h : 0 < j) (h2 : j < 1073741824) : gDiv (.int i) (.int j) A = .ok (.int (i / j)) A := gI_ok (by simp [cDiv, h, h2])
theorem gAdd_int {i j : Int} {A : AH} : gAdd (.int i) (.int j) A = .ok (.int (i + j)) A := rfl
theorem gSub_int {i j : Int} {A : AH} : gSub (.int i) (.int j) A = .ok (.int (i - j)) A := rfl
theorem gInt_int {i : Int} {A : AH} : gInt [.int i] A = .ok (.int i) A := rfl
abbrev F0_mixed : FS := (fSeq (fSet 2 (f2 gAdd (f2 gAdd (f2 gMod (fCb gInt (fCons (f2 gMul (f2 gMul (fVar 0) (f2 gAdd (fC (.int 1)) (f2 gMul (fC (.int 2)) (fVar 1)))) (fC (.int 48271))) fNil)) (fC (.int 2147483647))) (f2 gMul (f2 gMul (fC (.int 7919)) (fVar 1)) (fVar 1))) (f2 gMul (fC (.int 104729)) (fVar 1)))) (fRet (f2 gDiv (f2 gMod (fCb gInt (fCons (f2 gMul (fVar 2) (fC (.int 69621))) fNil)) (fC (.int 2147483629))) (fC (.int 7)))))
theorem mixed_ok (c n : Int) (hn : n.natAbs < 4611686018427387904) (A : AH) : ∃ v : Int, 0 ≤ v ∧ v < 2147483629 ∧ runDef 3 F0_mixed [.int c, .int n] A = .ok (.int v) A := by
  let x : Int := (c * (1 + 2 * n) * 48271 % 2147483647 + 7919 * n * n + 104729 * n) * 69621 % 2147483629
  refine ⟨x / 7, ?_, ?_, ?_⟩
  · have : 0 ≤ x := Int.emod_nonneg _ (by decide)
    omega
  · have : x < 2147483629 := Int.emod_lt_of_pos _ (by decide)
    have : 0 ≤ x := Int.emod_nonneg _ (by decide)
    omega
  · have e1 : ∀ B : AH, gMul (.int 2) (.int n) B = .ok (.int (2 * n)) B := fun B => gMul_ok (.inl (by decide))
    have e2 : ∀ B : AH, gMul (.int c) (.int (1 + 2 * n)) B = .ok (.int (c * (1 + 2 * n))) B := fun B => gMul_ok (.inr (by omega))
    have e3 : ∀ B : AH, gMul (.int (c * (1 + 2 * n))) (.int 48271) B = .ok (.int (c * (1 + 2 * n) * 48271)) B := fun B => gMul_ok (.inr (by decide))
    have e4 : ∀ B : AH, gMul (.int 7919) (.int n) B = .ok (.int (7919 * n)) B := fun B => gMul_ok (.inl (by decide))
    have e5 : ∀ B : AH, gMul (.int (7919 * n)) (.int n) B = .ok (.int (7919 * n * n)) B := fun B => gMul_ok (.inr (by omega))
    have e6 : ∀ B : AH, gMul (.int 104729) (.int n) B = .ok (.int (104729 * n)) B := fun B => gMul_ok (.inl (by decide))
    have e7 : ∀ (z : Int) (B : AH), gMul (.int z) (.int 69621) B = .ok (.int (z * 69621)) B := fun z B => gMul_ok (.inr (by decide))
    have e8 : ∀ (z : Int) (B : AH), gMod (.int z) (.int 2147483647) B = .ok (.int (z % 2147483647)) B := fun z B => gMod_ok (by decide)
    have e9 : ∀ (z : Int) (B : AH), gMod (.int z) (.int 2147483629) B = .ok (.int (z % 2147483629)) B := fun z B => gMod_ok (by decide)
    have e10 : ∀ (z : Int) (B : AH), gDiv (.int z) (.int 7) B = .ok (.int (z / 7)) B := fun z B => gDiv_ok (by decide) (by decide)
    simp only [runDef, F0_mixed, fSeq, fSet, fRet, f2, fCb, fCons, fNil, fVar, fC, List.map_cons, List.map_nil, List.length_cons, List.length_nil, List.replicate, List.cons_append, List.nil_append, List.getElem?_cons_zero, List.getElem?_cons_succ, List.set_cons_zero, List.set_cons_succ, Res.bind_ok, Res.s_ok, gAdd_int, gInt_int, e1, e2, e3, e4, e5, e6, e7, e8, e9, e10, x, gcH_self]

/-! ### the draw -/
abbrev F0_draw (Gm : FD) : FS := (fSeq (fSet 2 (f2 gIx (fVar 0) (fC (.str "spot")))) (fSeq (fSub (f2 gAdd (fVar 2) (fC (.int 1))) (fVar 0) (fC (.str "spot"))) (fSeq (fIfS (fB (f2 gNe (f2 gIx (fVar 0) (fC (.str "great"))) (fLst fNil))) (fSeq (fSet 3 (f2 gIx (fVar 0) (fC (.str "great")))) (fSeq (fSet 4 (f2 gMod (fCb gInt (fCons (fVar 2) fNil)) (fCb gLen (fCons (fVar 3) fNil)))) (fSeq (fSet 5 (f2 gIx (fVar 3) (fVar 4))) (fIfS (fB (f2 gGtA (fVar 5) (fC (.int 0)))) (fSeq (fSub (f2 gDiv (fVar 5) (fVar 1)) (fVar 3) (fVar 4)) (fRet (f2 gMod (fCb gInt (fCons (fVar 5) fNil)) (fVar 1)))) fNx)))) fNx) (fSeq (fSet 3 (f2 gIx (fVar 0) (fC (.str "cells")))) (fRet (f2 gMod (fCb gInt (fCons (fCall 2 Gm (fCons (fCall 2 Gm (fCons (f2 gAdd (f2 gIx (fVar 3) (f2 gMod (fCb gInt (fCons (fVar 2) fNil)) (fC (.int 64)))) (f2 gMul (fC (.int 31)) (f2 gDiv (fVar 2) (fC (.int 64))))) (fCons (fVar 2) fNil))) (fCons (f2 gAdd (fVar 2) (fC (.int 7))) fNil))) fNil)) (fVar 1)))))))
abbrev F0_folded : FS := (fSeq (fSet 1 (fComp (fRange1 (fCons (fC (.int 64)) fNil)) (gNm 2) fYes (f2 gAdd (fC (.int 17)) (fVar 2)) [2])) (fSeq (fFor (fEnum (fVar 0)) (gTp 2 (gsCons (gNm 2) (gsCons (gNm 3) gsNil))) (fSub (f2 gMod (fCb gInt (fCons (f2 gAdd (f2 gMul (f2 gIx (fVar 1) (f2 gMod (fCb gInt (fCons (fVar 2) fNil)) (fC (.int 64)))) (fC (.int 48271))) (fVar 3)) fNil)) (fC (.int 2147483647))) (fVar 1) (f2 gMod (fCb gInt (fCons (fVar 2) fNil)) (fC (.int 64))))) (fSeq (fFor (fRange2 (fCons (fC (.int 1)) (fCons (fC (.int 64)) fNil))) (gNm 2) (fSub (f2 gMod (fCb gInt (fCons (f2 gAdd (f2 gIx (fVar 1) (fVar 2)) (f2 gMul (f2 gIx (fVar 1) (f2 gSub (fVar 2) (fC (.int 1)))) (fC (.int 16807)))) fNil)) (fC (.int 2147483647))) (fVar 1) (fVar 2))) (fRet (fVar 1)))))
abbrev F0_begun (Gf : FD) : FS := (fSeq (fSet 1 (fDisp (fpCons (fC (.str "cells")) (fCall 1 Gf (fCons (fVar 0) fNil)) (fpCons (fC (.str "great")) (fLst fNil) (fpCons (fC (.str "spot")) (fC (.int 0)) fpNil))))) (fSeq (fSub (fComp (fList (fVar 0)) (gNm 2) fYes (fIf (fB (f2 gGeA (fVar 2) (f2 gPow (fC (.int 10)) (fC (.int 18))))) (fVar 2) (fC (.int 0))) [2]) (fVar 1) (fC (.str "great"))) (fRet (fVar 1))))
def kC : Key := .inr "cells"
def kG : Key := .inr "great"
def kS : Key := .inr "spot"
def mD (c g : Nat) (s : Int) : List (Key × AV) := [(kC, .obj c), (kG, .obj g), (kS, .int s)]
/-- the material of the draws: the dict at i, its cells at c, its great ones at g, s drawn so far -/
structure Dr (A : AH) (i c g : Nat) (s : Int) (cs gs : List Int) : Prop where
  hi : A[i]? = some (.dK (mD c g s))
  hc : A[c]? = some (.lst (cs.map AV.int))
  hg : A[g]? = some (.lst (gs.map AV.int))
  lc : cs.length = 64
  lg : gs.length < 64
  ic : i ≠ c
  ig : i ≠ g
  cg : c ≠ g
  cl : cloA A.length A = true
theorem val_spot (c g : Nat) (s : Int) : valA (mD c g s) kS = some (.int s) := by kernel_rfl
theorem val_great (c g : Nat) (s : Int) : valA (mD c g s) kG = some (.obj g) := by kernel_rfl
theorem val_cells (c g : Nat) (s : Int) : valA (mD c g s) kC = some (.obj c) := by kernel_rfl
theorem put_spot (c g : Nat) (s t : Int) : putA (mD c g s) kS (.int t) = mD c g t := by kernel_rfl
theorem put_great (c g g2 : Nat) (s : Int) : putA (mD c g s) kG (.obj g2) = mD c g2 s := by kernel_rfl
theorem ix_spot {A : AH} {i c g : Nat} {s : Int} (h : A[i]? = some (.dK (mD c g s))) : gIx (.obj i) (.str "spot") A = .ok (.int s) A := by
  have e : dGet A (.obj i) (.str "spot") = some (some (.int s)) := by
    simp only [dGet, h, keyOf, Option.map_some]
    exact congrArg some (val_spot c g s)
  simp only [gIx, e]
theorem ix_great {A : AH} {i c g : Nat} {s : Int} (h : A[i]? = some (.dK (mD c g s))) : gIx (.obj i) (.str "great") A = .ok (.obj g) A := by
  have e : dGet A (.obj i) (.str "great") = some (some (.obj g)) := by
    simp only [dGet, h, keyOf, Option.map_some]
    exact congrArg some (val_great c g s)
  simp only [gIx, e]
theorem ix_cells {A : AH} {i c g : Nat} {s : Int} (h : A[i]? = some (.dK (mD c g s))) : gIx (.obj i) (.str "cells") A = .ok (.obj c) A := by
  have e : dGet A (.obj i) (.str "cells") = some (some (.obj c)) := by
    simp only [dGet, h, keyOf, Option.map_some]
    exact congrArg some (val_cells c g s)
  simp only [gIx, e]
theorem dput_spot {A : AH} {i c g : Nat} {s t : Int} (h : A[i]? = some (.dK (mD c g s))) : dPut A (.obj i) (.str "spot") (.int t) = some (A.set i (.dK (mD c g t))) := by
  have hl : (mD c g s).length < big := by show 3 < big; decide
  simp only [dPut, h, hl, if_true, keyOf, Option.map_some]
  exact congrArg (fun z => some (A.set i (.dK z))) (put_spot c g s t)
/-- an item of a list of ints -/
theorem atI_nn {α : Type} {xs : List α} {k : Int} (h0 : 0 ≤ k) (h1 : k < xs.length) : L2.atI xs k = xs[k.toNat]? := by
  unfold L2.atI ixN
  rw [if_pos h0, if_pos (by omega)]
  rfl
theorem ix_list {A : AH} {n : Nat} {ns : List Int} {k : Int} {v : Int} (h : A[n]? = some (.lst (ns.map AV.int))) (h0 : 0 ≤ k) (h1 : k < ns.length) (hv : ns[k.toNat]? = some v) : gIx (.obj n) (.int k) A = .ok (.int v) A := by
  have e : dGet A (.obj n) (.int k) = none := by simp only [dGet, h]
  have e2 : seqAt A (.obj n) = some (ns.map AV.int) := by simp only [seqAt, h]
  have e3 : L2.atI (ns.map AV.int) k = some (.int v) := by
    rw [atI_nn h0 (by rw [List.length_map]; exact h1), List.getElem?_map, hv]
    rfl
  simp only [gIx, e, gIxS, e2, e3]
theorem toP_ints {A : AH} {k : Nat} : ∀ (ns : List Int), mapO (AV.toP A (k + 1)) (ns.map AV.int) = some (ns.map PyData.int)
  | [] => rfl
  | n :: ns => by
    rw [List.map_cons, mapO, toP_ints ns]
    rfl
theorem toP_lst {A : AH} {n k : Nat} {ns : List Int} (h : A[n]? = some (.lst (ns.map AV.int))) : AV.toP A (k + 2) (.obj n) = some (.list (ns.map PyData.int)) := by
  show (match A[n]? with
    | some (.lst xs) => (mapO (AV.toP A (k + 1)) xs).map PyData.list
    | _ => none) = _
  rw [h]
  show (mapO (AV.toP A (k + 1)) (ns.map AV.int)).map PyData.list = _
  rw [toP_ints]
  rfl
theorem eqv_nil (ns : List Int) : PyData.eqv (.list (ns.map PyData.int)) (.list []) = ns.isEmpty := by
  cases ns with
  | nil => rfl
  | cons n ns => simp [PyData.eqv, PyData.eqvAll]
theorem ne_nil {A : AH} {n m : Nat} {ns : List Int} (h : A[n]? = some (.lst (ns.map AV.int))) (h2 : A[m]? = some (.lst [])) : gNe (.obj n) (.obj m) A = .ok (.bl (!ns.isEmpty)) A := by
  have e : AV.toP A 16 (.obj m) = some (.list []) := toP_lst (k := 14) (ns := []) h2
  simp only [gNe, toP_lst (k := 14) h, e, eqv_nil]
/-- behind a draw -/
def aft (A : AH) (i c g : Nat) (s : Int) (gs : List Int) : AH := (A.set i (.dK (mD c g (s + 1)))).set g (.lst (gs.map AV.int))
theorem clo_ints (n : Nat) : ∀ ns : List Int, cloVs n (ns.map AV.int) = true
  | [] => rfl
  | k :: ns => by rw [List.map_cons, cloVs, clo_ints n ns]; rfl
theorem cloA_set {n : Nat} {o : AO} (ho : cloO n o = true) : ∀ {A : AH} (i : Nat), cloA n A = true → cloA n (A.set i o) = true
  | [], _, h => h
  | a :: A, 0, h => by
    rw [cloA, Bool.and_eq_true] at h
    rw [List.set_cons_zero, cloA, ho, h.2]; rfl
  | a :: A, i + 1, h => by
    rw [cloA, Bool.and_eq_true] at h
    rw [List.set_cons_succ, cloA, h.1, cloA_set ho i h.2]; rfl
theorem aft_len (A : AH) (i c g : Nat) (s : Int) (gs : List Int) : (aft A i c g s gs).length = A.length := by unfold aft; rw [List.length_set, List.length_set]
theorem set_same {A : AH} {n : Nat} {o : AO} (h : A[n]? = some o) : A.set n o = A := by
  apply List.ext_getElem?
  intro j
  by_cases e : n = j
  · subst e
    obtain ⟨hl, _⟩ := List.getElem?_eq_some_iff.mp h
    rw [List.getElem?_set_self hl, h]
  · rw [List.getElem?_set_ne e]
theorem gGt0 {n : Int} {A : AH} : gGtA (.int n) (.int 0) A = .ok (.bl (decide (0 < n))) A := rfl
theorem len_list {A : AH} {n : Nat} {ns : List Int} (h : A[n]? = some (.lst (ns.map AV.int))) : gLen [.obj n] A = .ok (.int (ns.length : Nat)) A := by
  have e2 : seqAt A (.obj n) = some (ns.map AV.int) := by simp only [seqAt, h]
  simp only [gLen, e2, List.length_map]
theorem setL_list {A : AH} {n : Nat} {ns : List Int} {k v : Int} (h : A[n]? = some (.lst (ns.map AV.int))) (h0 : 0 ≤ k) (h1 : k < ns.length) : setL A (.obj n) (.int k) (.int v) = some (A.set n (.lst ((ns.set k.toNat v).map AV.int))) := by
  have e : ixN (ns.map AV.int).length k = some k.toNat := by
    unfold ixN
    rw [if_pos h0, if_pos (by rw [List.length_map]; omega)]
  simp only [setL, h, e, Option.map_some, List.map_set]
theorem dput_list {A : AH} {n : Nat} {xs : List AV} {k v : AV} (h : A[n]? = some (.lst xs)) : dPut A (.obj n) k v = none := by simp only [dPut, h]
section
variable {A : AH} {i c g : Nat} {s : Int} {cs gs : List Int}
theorem Dr.lt (D : Dr A i c g s cs gs) : i < A.length ∧ c < A.length ∧ g < A.length := ⟨(List.getElem?_eq_some_iff.mp D.hi).1, (List.getElem?_eq_some_iff.mp D.hc).1, (List.getElem?_eq_some_iff.mp D.hg).1⟩
/-- the state behind a draw -/
theorem Dr.aft (D : Dr A i c g s cs gs) {gs' : List Int} (hl : gs'.length = gs.length) : Dr (Dn.aft A i c g s gs') i c g (s + 1) cs gs' := by
  obtain ⟨h1, h2, h3⟩ := D.lt
  refine ⟨?_, ?_, ?_, D.lc, by rw [hl]; exact D.lg, D.ic, D.ig, D.cg, ?_⟩
  · unfold Dn.aft
    rw [List.getElem?_set_ne (Ne.symm D.ig), List.getElem?_set_self h1]
  · unfold Dn.aft
    rw [List.getElem?_set_ne (Ne.symm D.cg), List.getElem?_set_ne D.ic, D.hc]
  · unfold Dn.aft
    rw [List.getElem?_set_self (by rw [List.length_set]; exact h3)]
  · rw [aft_len]
    unfold Dn.aft
    refine cloA_set (by rw [cloO]; exact clo_ints _ _) g (cloA_set ?_ i D.cl)
    rw [cloO, mD, cloK, cloK, cloK, cloK]
    show (cloV A.length (.obj c) && (cloV A.length (.obj g) && true)) = true
    rw [cloV, cloV, decide_eq_true h2, decide_eq_true h3]; rfl
theorem draw_ok {Gm : FD} (hm : ∀ (x n : Int), n.natAbs < 4611686018427387904 → ∀ B : AH, ∃ v : Int, 0 ≤ v ∧ v < 2147483629 ∧ Gm [.int x, .int n] B = .ok (.int v) B) (D : Dr A i c g s cs gs) {k : Int} (k0 : 0 < k) (k1 : k < 1073741824) (s0 : 0 ≤ s) (s1 : s < 1000000000000000000) :
    ∃ (v : Int) (gs' : List Int), 0 ≤ v ∧ v < k ∧ gs'.length = gs.length ∧ runDef 6 (F0_draw Gm) [.obj i, .int k] A = .ok (.int v) (Dn.aft A i c g s gs') := by
  obtain ⟨h1, h2, h3⟩ := D.lt
  -- the heap when the question is put
  let A1 : AH := A.set i (.dK (mD c g (s + 1)))
  let A2 : AH := A1 ++ [AO.lst []]
  have i1 : A1[i]? = some (.dK (mD c g (s + 1))) := List.getElem?_set_self h1
  have l1 : A1.length = A.length := List.length_set
  have i2 : A2[i]? = some (.dK (mD c g (s + 1))) := by rw [List.getElem?_append_left (by rw [l1]; exact h1)]; exact i1
  have c2 : A2[c]? = some (.lst (cs.map AV.int)) := by rw [List.getElem?_append_left (by rw [l1]; exact h2), List.getElem?_set_ne D.ic, D.hc]
  have g2 : A2[g]? = some (.lst (gs.map AV.int)) := by rw [List.getElem?_append_left (by rw [l1]; exact h3), List.getElem?_set_ne D.ig, D.hg]
  have n2 : A2[A1.length]? = some (AO.lst []) := by rw [List.getElem?_append_right (Nat.le_refl _)]; simp
  have eA : ∀ (gs' : List Int) (v : Int), gs'.length = gs.length → gcH A (.int v) (A2.set g (.lst (gs'.map AV.int))) = Dn.aft A i c g s gs' := by
    intro gs' v hl
    have e : (A2.set g (.lst (gs'.map AV.int))).take A.length = Dn.aft A i c g s gs' := by
      show ((A1 ++ [AO.lst []]).set g (.lst (gs'.map AV.int))).take A.length = _
      rw [List.set_append_left _ _ (by rw [l1]; exact h3), List.take_append_of_le_length (by rw [List.length_set, l1]; exact Nat.le_refl _), List.take_of_length_le (by rw [List.length_set, l1]; exact Nat.le_refl _)]
      rfl
    have cl := (D.aft hl).cl
    rw [aft_len] at cl
    unfold gcH
    rw [e, cl]
    rfl
  -- the last arm
  have last : ∀ (z3 z4 z5 : Option AV), ∃ v : Int, 0 ≤ v ∧ v < k ∧ (fSeq (fSet 3 (f2 gIx (fVar 0) (fC (.str "cells")))) (fRet (f2 gMod (fCb gInt (fCons (fCall 2 Gm (fCons (fCall 2 Gm (fCons (f2 gAdd (f2 gIx (fVar 3) (f2 gMod (fCb gInt (fCons (fVar 2) fNil)) (fC (.int 64)))) (f2 gMul (fC (.int 31)) (f2 gDiv (fVar 2) (fC (.int 64))))) (fCons (fVar 2) fNil))) (fCons (f2 gAdd (fVar 2) (fC (.int 7))) fNil))) fNil)) (fVar 1)))) [some (.obj i), some (.int k), some (.int s), z3, z4, z5] A2 = .rt (.int v) A2 := by
    intro z3 z4 z5
    have b0 : 0 ≤ s % 64 := Int.emod_nonneg _ (by decide)
    have b1 : s % 64 < 64 := Int.emod_lt_of_pos _ (by decide)
    have hb : (s % 64).toNat < cs.length := by rw [D.lc]; omega
    have e1 : gIx (.obj c) (.int (s % 64)) A2 = .ok (.int cs[(s % 64).toNat]) A2 := ix_list c2 b0 (by rw [D.lc]; exact b1) (List.getElem?_eq_getElem hb)
    have e2 : gMul (.int 31) (.int (s / 64)) A2 = .ok (.int (31 * (s / 64))) A2 := gMul_ok (.inl (by decide))
    have e3 : gDiv (.int s) (.int 64) A2 = .ok (.int (s / 64)) A2 := gDiv_ok (by decide) (by decide)
    have e4 : gMod (.int s) (.int 64) A2 = .ok (.int (s % 64)) A2 := gMod_ok (by decide)
    obtain ⟨v1, _, _, m1⟩ := hm (cs[(s % 64).toNat] + 31 * (s / 64)) s (by omega) A2
    obtain ⟨v2, _, _, m2⟩ := hm v1 (s + 7) (by omega) A2
    have e5 : gMod (.int v2) (.int k) A2 = .ok (.int (v2 % k)) A2 := gMod_ok k0
    refine ⟨v2 % k, Int.emod_nonneg _ (by omega), Int.emod_lt_of_pos _ k0, ?_⟩
    simp only [fSeq, fSet, fRet, f2, fCb, fCons, fNil, fVar, fC, fCall, List.length_cons, List.length_nil, List.getElem?_cons_zero, List.getElem?_cons_succ, List.set_cons_zero, List.set_cons_succ, Res.bind_ok, Res.s_ok, gAdd_int, gInt_int, ix_cells i2, e1, e2, e3, e4, e5, m1, m2, if_true]
  have same : ∀ v : Int, gcH A (.int v) A2 = Dn.aft A i c g s gs := fun v => by rw [← eA gs v rfl, set_same g2]
  have x0 : ∀ z3 z4 z5 : Option AV, gIx (.obj i) (.str "spot") A = .ok (.int s) A := fun _ _ _ => ix_spot D.hi
  have x1 : dPut A (.obj i) (.str "spot") (.int (s + 1)) = some A1 := dput_spot D.hi
  have x2 : gIx (.obj i) (.str "great") A1 = .ok (.obj g) A1 := ix_great i1
  have x3 : gIx (.obj i) (.str "great") A2 = .ok (.obj g) A2 := ix_great i2
  have x4 : gNe (.obj g) (.obj A1.length) A2 = .ok (.bl (!gs.isEmpty)) A2 := ne_nil g2 n2
  have head : ∀ (f h : FS), (fSeq (fSet 2 (f2 gIx (fVar 0) (fC (.str "spot")))) (fSeq (fSub (f2 gAdd (fVar 2) (fC (.int 1))) (fVar 0) (fC (.str "spot"))) (fSeq (fIfS (fB (f2 gNe (f2 gIx (fVar 0) (fC (.str "great"))) (fLst fNil))) f fNx) h))) [some (.obj i), some (.int k), none, none, none, none] A =
      if gs.isEmpty = true then h [some (.obj i), some (.int k), some (.int s), none, none, none] A2 else fSeq f h [some (.obj i), some (.int k), some (.int s), none, none, none] A2 := by
    intro f h
    have hb : ([] : List AV).length < big := by decide
    have x5 : gNe (.obj g) (.obj A1.length) (A1 ++ [AO.lst []]) = .ok (.bl (!gs.isEmpty)) (A1 ++ [AO.lst []]) := x4
    simp only [fSeq, fSet, fSub, fIfS, fB, f2, fCons, fNil, fVar, fC, fLst, List.getElem?_cons_zero, List.getElem?_cons_succ, List.set_cons_zero, List.set_cons_succ, Res.bind_ok, Res.s_ok, gAdd_int, ix_spot D.hi, x1, x2, hb, if_true, x5, asB]
    cases hg : gs.isEmpty with
    | true => rfl
    | false => rfl
  have run : runDef 6 (F0_draw Gm) [.obj i, .int k] A = (match F0_draw Gm [some (.obj i), some (.int k), none, none, none, none] A with
    | .rt v A' => .ok v (gcH A v A')
    | .nx _ A' => .ok .non (gcH A .non A')
    | .exc e _ A' => .exc e A'
    | _ => .er) := rfl
  rw [run]
  unfold F0_draw
  rw [head]
  cases hg : gs.isEmpty with
  | true =>
    obtain ⟨v, v0, v1, hv⟩ := last none none none
    refine ⟨v, gs, v0, v1, rfl, ?_⟩
    rw [if_pos rfl, hv]
    exact congrArg (Res.ok _) (same v)
  | false =>
    rw [if_neg (by decide)]
    have hne : 0 < gs.length := by
      cases gs with
      | nil => cases hg
      | cons _ _ => exact Nat.succ_pos _
    have hl : (0 : Int) < (gs.length : Nat) := by omega
    let q : Int := s % (gs.length : Nat)
    have q0 : 0 ≤ q := Int.emod_nonneg _ (by omega)
    have q1 : q < (gs.length : Nat) := Int.emod_lt_of_pos _ hl
    have hq : q.toNat < gs.length := by omega
    have y1 : gLen [.obj g] A2 = .ok (.int (gs.length : Nat)) A2 := len_list g2
    have y2 : gMod (.int s) (.int (gs.length : Nat)) A2 = .ok (.int q) A2 := gMod_ok hl
    have y3 : gIx (.obj g) (.int q) A2 = .ok (.int gs[q.toNat]) A2 := ix_list g2 q0 q1 (List.getElem?_eq_getElem hq)
    have y4 : dPut A2 (.obj g) (.int q) (.int (gs[q.toNat] / k)) = none := dput_list g2
    have y5 : setL A2 (.obj g) (.int q) (.int (gs[q.toNat] / k)) = some (A2.set g (.lst ((gs.set q.toNat (gs[q.toNat] / k)).map AV.int))) := setL_list g2 q0 q1
    have y6 : gDiv (.int gs[q.toNat]) (.int k) A2 = .ok (.int (gs[q.toNat] / k)) A2 := gDiv_ok k0 k1
    by_cases hp : 0 < gs[q.toNat]
    · refine ⟨gs[q.toNat] % k, gs.set q.toNat (gs[q.toNat] / k), Int.emod_nonneg _ (by omega), Int.emod_lt_of_pos _ k0, by rw [List.length_set], ?_⟩
      have y7 : ∀ B : AH, gMod (.int gs[q.toNat]) (.int k) B = .ok (.int (gs[q.toNat] % k)) B := fun B => gMod_ok k0
      simp only [fSeq, fSet, fSub, fIfS, fB, fRet, f2, fCb, fCons, fNil, fVar, fC, List.getElem?_cons_zero, List.getElem?_cons_succ, List.set_cons_zero, List.set_cons_succ, Res.bind_ok, Res.s_ok, gInt_int, x3, y1, y2, y3, y4, y5, y6, y7, gGt0, asB, hp, decide_true, if_true]
      exact congrArg (Res.ok _) (eA _ _ (by rw [List.length_set]))
    · obtain ⟨v, v0, v1, hv⟩ := last (some (.obj g)) (some (.int q)) (some (.int gs[q.toNat]))
      refine ⟨v, gs, v0, v1, rfl, ?_⟩
      have hstep : ∀ h : FS, fSeq (fSeq (fSet 3 (f2 gIx (fVar 0) (fC (.str "great")))) (fSeq (fSet 4 (f2 gMod (fCb gInt (fCons (fVar 2) fNil)) (fCb gLen (fCons (fVar 3) fNil)))) (fSeq (fSet 5 (f2 gIx (fVar 3) (fVar 4))) (fIfS (fB (f2 gGtA (fVar 5) (fC (.int 0)))) (fSeq (fSub (f2 gDiv (fVar 5) (fVar 1)) (fVar 3) (fVar 4)) (fRet (f2 gMod (fCb gInt (fCons (fVar 5) fNil)) (fVar 1)))) fNx)))) h [some (.obj i), some (.int k), some (.int s), none, none, none] A2 =
          h [some (.obj i), some (.int k), some (.int s), some (.obj g), some (.int q), some (.int gs[q.toNat])] A2 := by
        intro h
        simp only [fSeq, fSet, fIfS, fB, f2, fCb, fCons, fNil, fVar, fC, fNx, List.getElem?_cons_zero, List.getElem?_cons_succ, List.set_cons_zero, List.set_cons_succ, Res.bind_ok, Res.s_ok, gInt_int, x3, y1, y2, y3, gGt0, asB, hp, decide_false, Bool.false_eq_true, if_false]
      rw [hstep, hv]
      exact congrArg (Res.ok _) (same v)
end
end Dn

set_option maxRecDepth 100000
set_option maxHeartbeats 2000000
/-! Dn, part Q: the beginning of every law: the material of its draws. -/
namespace Dn
open PySem PySem.Spec L2 PyProof.Rows
abbrev fB1 : FS := (fSub (f2 gMod (fCb gInt (fCons (f2 gAdd (f2 gMul (f2 gIx (fVar 1) (f2 gMod (fCb gInt (fCons (fVar 2) fNil)) (fC (.int 64)))) (fC (.int 48271))) (fVar 3)) fNil)) (fC (.int 2147483647))) (fVar 1) (f2 gMod (fCb gInt (fCons (fVar 2) fNil)) (fC (.int 64))))
abbrev fB2 : FS := (fSub (f2 gMod (fCb gInt (fCons (f2 gAdd (f2 gIx (fVar 1) (fVar 2)) (f2 gMul (f2 gIx (fVar 1) (f2 gSub (fVar 2) (fC (.int 1)))) (fC (.int 16807)))) fNil)) (fC (.int 2147483647))) (fVar 1) (fVar 2))
theorem b1_ok {o : AO} {cs : List Int} (hl : cs.length = 64) (x : AV) (k : Nat) (z : Int) : ∃ cs' : List Int, cs'.length = 64 ∧ fB1 [some x, some (.obj 1), some (.int (k : Nat)), some (.int z)] [o, .lst (cs.map AV.int)] = .nx [some x, some (.obj 1), some (.int (k : Nat)), some (.int z)] [o, .lst (cs'.map AV.int)] := by
  have h : ([o, .lst (cs.map AV.int)] : AH)[1]? = some (.lst (cs.map AV.int)) := rfl
  have b0 : (0 : Int) ≤ (k : Int) % 64 := Int.emod_nonneg _ (by decide)
  have b1 : (k : Int) % 64 < 64 := Int.emod_lt_of_pos _ (by decide)
  have hb : ((k : Int) % 64).toNat < cs.length := by omega
  have e0 : ∀ A : AH, gMod (.int (k : Nat)) (.int 64) A = .ok (.int ((k : Int) % 64)) A := fun A => gMod_ok (by decide)
  have e1 : gIx (.obj 1) (.int ((k : Int) % 64)) [o, .lst (cs.map AV.int)] = .ok (.int cs[((k : Int) % 64).toNat]) [o, .lst (cs.map AV.int)] := ix_list h b0 (by rw [hl]; exact b1) (List.getElem?_eq_getElem hb)
  have e2 : ∀ (q : Int) (A : AH), gMul (.int q) (.int 48271) A = .ok (.int (q * 48271)) A := fun q A => gMul_ok (.inr (by decide))
  have e3 : ∀ (q : Int) (A : AH), gMod (.int q) (.int 2147483647) A = .ok (.int (q % 2147483647)) A := fun q A => gMod_ok (by decide)
  have e4 : ∀ v : Int, dPut [o, .lst (cs.map AV.int)] (.obj 1) (.int ((k : Int) % 64)) (.int v) = none := fun v => dput_list h
  have e5 : ∀ v : Int, setL [o, .lst (cs.map AV.int)] (.obj 1) (.int ((k : Int) % 64)) (.int v) = some [o, .lst ((cs.set ((k : Int) % 64).toNat v).map AV.int)] := fun v => setL_list h b0 (by rw [hl]; exact b1)
  refine ⟨cs.set ((k : Int) % 64).toNat ((cs[((k : Int) % 64).toNat] * 48271 + z) % 2147483647), by rw [List.length_set, hl], ?_⟩
  simp only [fB1, fSub, f2, fCb, fCons, fNil, fVar, fC, List.getElem?_cons_zero, List.getElem?_cons_succ, Res.bind_ok, Res.s_ok, gAdd_int, gInt_int, e0, e1, e2, e3, e4, e5]
theorem b2_ok {o : AO} {cs : List Int} (hl : cs.length = 64) (x : AV) (k : Nat) (hk : k < 63) (z : Option AV) : ∃ cs' : List Int, cs'.length = 64 ∧ fB2 [some x, some (.obj 1), some (.int (1 + (k : Nat))), z] [o, .lst (cs.map AV.int)] = .nx [some x, some (.obj 1), some (.int (1 + (k : Nat))), z] [o, .lst (cs'.map AV.int)] := by
  have h : ([o, .lst (cs.map AV.int)] : AH)[1]? = some (.lst (cs.map AV.int)) := rfl
  have hb : ((1 : Int) + (k : Nat)).toNat < cs.length := by omega
  have hb2 : ((1 : Int) + (k : Nat) - 1).toNat < cs.length := by omega
  have e1 : gIx (.obj 1) (.int (1 + (k : Nat))) [o, .lst (cs.map AV.int)] = .ok (.int cs[((1 : Int) + (k : Nat)).toNat]) [o, .lst (cs.map AV.int)] := ix_list h (by omega) (by omega) (List.getElem?_eq_getElem hb)
  have e1' : gIx (.obj 1) (.int (1 + (k : Nat) - 1)) [o, .lst (cs.map AV.int)] = .ok (.int cs[((1 : Int) + (k : Nat) - 1).toNat]) [o, .lst (cs.map AV.int)] := ix_list h (by omega) (by omega) (List.getElem?_eq_getElem hb2)
  have e2 : ∀ (q : Int) (A : AH), gMul (.int q) (.int 16807) A = .ok (.int (q * 16807)) A := fun q A => gMul_ok (.inr (by decide))
  have e3 : ∀ (q : Int) (A : AH), gMod (.int q) (.int 2147483647) A = .ok (.int (q % 2147483647)) A := fun q A => gMod_ok (by decide)
  have e4 : ∀ v : Int, dPut [o, .lst (cs.map AV.int)] (.obj 1) (.int (1 + (k : Nat))) (.int v) = none := fun v => dput_list h
  have e5 : ∀ v : Int, setL [o, .lst (cs.map AV.int)] (.obj 1) (.int (1 + (k : Nat))) (.int v) = some [o, .lst ((cs.set ((1 : Int) + (k : Nat)).toNat v).map AV.int)] := fun v => setL_list h (by omega) (by omega)
  refine ⟨cs.set ((1 : Int) + (k : Nat)).toNat ((cs[((1 : Int) + (k : Nat)).toNat] + cs[((1 : Int) + (k : Nat) - 1).toNat] * 16807) % 2147483647), by rw [List.length_set, hl], ?_⟩
  simp only [fB2, fSub, f2, fCb, fCons, fNil, fVar, fC, List.getElem?_cons_zero, List.getElem?_cons_succ, Res.bind_ok, Res.s_ok, gAdd_int, gSub_int, gInt_int, e1, e1', e2, e3, e4, e5]
abbrev g23 : FG := gTp 2 (gsCons (gNm 2) (gsCons (gNm 3) gsNil))
theorem l1_ok {o : AO} (x : AV) : ∀ (ns : List Int) (k : Nat) (cs : List Int) (z2 z3 : Option AV), cs.length = 64 → ∃ (cs' : List Int) (y2 y3 : Option AV), cs'.length = 64 ∧ runF g23 fB1 (enumF k (ns.map AV.int)) [some x, some (.obj 1), z2, z3] [o, .lst (cs.map AV.int)] = .nx [some x, some (.obj 1), y2, y3] [o, .lst (cs'.map AV.int)]
  | [], k, cs, z2, z3, hl => ⟨cs, z2, z3, hl, rfl⟩
  | n :: ns, k, cs, z2, z3, hl => by
    obtain ⟨cs1, h1, e1⟩ := b1_ok (o := o) hl x k n
    obtain ⟨cs2, y2, y3, h2, e2⟩ := l1_ok (o := o) x ns (k + 1) cs1 (some (.int (k : Nat))) (some (.int n)) h1
    refine ⟨cs2, y2, y3, h2, ?_⟩
    rw [List.map_cons, enumF, runF, turnF]
    show (match (SRes.nx [some x, some (.obj 1), some (.int (k : Nat)), some (.int n)] [o, .lst (cs.map AV.int)]) with
      | .nx ρ A => match fB1 ρ A with
        | .nx ρ A => runF g23 fB1 (enumF (k + 1) (ns.map AV.int)) ρ A
        | .ct ρ A => runF g23 fB1 (enumF (k + 1) (ns.map AV.int)) ρ A
        | .bk ρ A => .nx ρ A
        | r => r
      | r => r) = _
    simp only [e1, e2]
theorem l2_ok {o : AO} (x : AV) : ∀ (m k : Nat) (cs : List Int) (z2 z3 : Option AV), k + m ≤ 63 → cs.length = 64 → ∃ (cs' : List Int) (y2 : Option AV), cs'.length = 64 ∧ runF (gNm 2) fB2 ((List.range' k m).map fun (i : Nat) => AV.int (1 + (i : Nat))) [some x, some (.obj 1), z2, z3] [o, .lst (cs.map AV.int)] = .nx [some x, some (.obj 1), y2, z3] [o, .lst (cs'.map AV.int)]
  | 0, k, cs, z2, z3, _, hl => ⟨cs, z2, hl, rfl⟩
  | m + 1, k, cs, z2, z3, hk, hl => by
    obtain ⟨cs1, h1, e1⟩ := b2_ok (o := o) hl x k (by omega) z3
    obtain ⟨cs2, y2, h2, e2⟩ := l2_ok (o := o) x m (k + 1) cs1 (some (.int (1 + (k : Nat)))) z3 (by omega) h1
    refine ⟨cs2, y2, h2, ?_⟩
    rw [List.range'_succ, List.map_cons, runF, turnF]
    show (match fB2 [some x, some (.obj 1), some (.int (1 + (k : Nat))), z3] [o, .lst (cs.map AV.int)] with
      | .nx ρ A => runF (gNm 2) fB2 ((List.range' (k + 1) m).map fun (i : Nat) => AV.int (1 + (i : Nat))) ρ A
      | .ct ρ A => runF (gNm 2) fB2 ((List.range' (k + 1) m).map fun (i : Nat) => AV.int (1 + (i : Nat))) ρ A
      | .bk ρ A => .nx ρ A
      | r => r) = _
    simp only [e1, e2]
/-- the cells -/
theorem folded_ok (ns : List Int) : ∃ cs : List Int, cs.length = 64 ∧ runDef 4 F0_folded [.scr ns] [.dK []] = .ok (.obj 1) [.dK [], .lst (cs.map AV.int)] := by
  have e1 : (fSet 1 (fComp (fRange1 (fCons (fC (.int 64)) fNil)) (gNm 2) fYes (f2 gAdd (fC (.int 17)) (fVar 2)) [2])) [some (.scr ns), none, none, none] [.dK []] = .nx [some (.scr ns), some (.obj 1), none, none] [.dK [], .lst (((List.range 64).map fun (i : Nat) => (17 : Int) + (0 + (i : Nat))).map AV.int)] := by kernel_rfl
  obtain ⟨cs1, y2, y3, h1, e2⟩ := l1_ok (o := .dK []) (.scr ns) ns 0 ((List.range 64).map fun (i : Nat) => (17 : Int) + (0 + (i : Nat))) none none (by simp)
  obtain ⟨cs2, y4, h2, e3⟩ := l2_ok (o := .dK []) (.scr ns) 63 0 cs1 y2 y3 (by decide) h1
  refine ⟨cs2, h2, ?_⟩
  have f1 : (fFor (fEnum (fVar 0)) g23 fB1) [some (.scr ns), some (.obj 1), none, none] [.dK [], .lst (((List.range 64).map fun (i : Nat) => (17 : Int) + (0 + (i : Nat))).map AV.int)] = .nx [some (.scr ns), some (.obj 1), y2, y3] [.dK [], .lst (cs1.map AV.int)] := e2
  have f2 : (fFor (fRange2 (fCons (fC (.int 1)) (fCons (fC (.int 64)) fNil))) (gNm 2) fB2) [some (.scr ns), some (.obj 1), y2, y3] [.dK [], .lst (cs1.map AV.int)] = .nx [some (.scr ns), some (.obj 1), y4, y3] [.dK [], .lst (cs2.map AV.int)] := by
    have e : rngL 1 ((64 : Int) - 1).toNat = (List.range' 0 63).map fun (i : Nat) => AV.int (1 + (i : Nat)) := by
      unfold rngL
      rw [List.range_eq_range']
      rfl
    show runF (gNm 2) fB2 (rngL 1 ((64 : Int) - 1).toNat) _ _ = _
    rw [e]
    exact e3
  have hr : runDef 4 F0_folded [.scr ns] [.dK []] = (match F0_folded [some (.scr ns), none, none, none] [.dK []] with
    | .rt v A' => .ok v (gcH [.dK []] v A')
    | .nx _ A' => .ok .non (gcH [.dK []] .non A')
    | .exc e _ A' => .exc e A'
    | _ => .er) := rfl
  rw [hr]
  unfold F0_folded fSeq
  simp only [e1, f1, f2]
  rfl
abbrev fGr : FE := (fIf (fB (f2 gGeA (fVar 2) (f2 gPow (fC (.int 10)) (fC (.int 18))))) (fVar 2) (fC (.int 0)))
def grt (n : Int) : Int := if 1000000000000000000 ≤ n then n else 0
theorem gr_ok (x y z : Option AV) (n : Int) (A : AH) : fGr [x, y, some (.int n)] A = .ok (.int (grt n)) A := by
  have e1 : gPow (.int 10) (.int 18) A = .ok (.int 1000000000000000000) A := by kernel_rfl
  have e2 : ∀ m : Int, gGeA (.int n) (.int m) A = .ok (.bl (decide (m ≤ n))) A := fun m => rfl
  unfold grt
  by_cases h : 1000000000000000000 ≤ n
  · simp only [fGr, fIf, fB, f2, fVar, fC, List.getElem?_cons_zero, List.getElem?_cons_succ, Res.bind_ok, e1, e2, asB, h, decide_true, if_true]
  · simp only [fGr, fIf, fB, f2, fVar, fC, List.getElem?_cons_zero, List.getElem?_cons_succ, Res.bind_ok, e1, e2, asB, h, decide_false, Bool.false_eq_true, if_false]
theorem great_ok (a b c : AO) (x y z : Option AV) : ∀ (ns acc : List Int), acc.length + ns.length ≤ 1000 → compF (gNm 2) fYes fGr 3 [x, y, z] (ns.map AV.int) [a, b, c, .lst (acc.map AV.int)] = .ok (.obj 3) [a, b, c, .lst ((acc ++ ns.map grt).map AV.int)]
  | [], acc, _ => by simp [compF]
  | n :: ns, acc, h => by
    have ih := great_ok a b c x y z ns (acc ++ [grt n]) (by simp only [List.length_append, List.length_cons, List.length_nil] at h ⊢; omega)
    rw [List.map_cons, compF, turnC]
    have hl : (acc.map AV.int).length < big := by
      rw [List.length_map]
      simp only [List.length_cons] at h
      have : (1000 : Nat) < big := by decide
      omega
    show (if true = true then pushC fGr 3 (fun A => compF (gNm 2) fYes fGr 3 [x, y, z] (ns.map AV.int) A) [x, y, some (.int n)] [a, b, c, .lst (acc.map AV.int)] else _) = _
    rw [if_pos rfl, pushC, gr_ok x y z]
    show (if (acc.map AV.int).length < big then compF (gNm 2) fYes fGr 3 [x, y, z] (ns.map AV.int) [a, b, c, .lst (acc.map AV.int ++ [AV.int (grt n)])] else .er) = _
    rw [if_pos hl]
    have e : acc.map AV.int ++ [AV.int (grt n)] = (acc ++ [grt n]).map AV.int := by simp
    rw [e, ih, List.map_cons, List.append_assoc]
    rfl
/-- the material of the draws -/
theorem begun_ok {Gf : FD} (ns : List Int) (hl : ns.length ≤ 63) (hf : ∃ cs : List Int, cs.length = 64 ∧ Gf [.scr ns] [.dK []] = .ok (.obj 1) [.dK [], .lst (cs.map AV.int)]) :
    ∃ (cs gs : List Int), gs.length = ns.length ∧ runDef 3 (F0_begun Gf) [.scr ns] [] = .ok (.obj 0) [.dK (mD 1 3 0), .lst (cs.map AV.int), .lst [], .lst (gs.map AV.int)] ∧ Dr [.dK (mD 1 3 0), .lst (cs.map AV.int), .lst [], .lst (gs.map AV.int)] 0 1 3 0 cs gs := by
  obtain ⟨cs, hc, ef⟩ := hf
  refine ⟨cs, ns.map grt, by rw [List.length_map], ?A, ⟨rfl, rfl, rfl, hc, by rw [List.length_map]; omega, by decide, by decide, by decide, ?B⟩⟩
  case B =>
    show (cloO 4 (.dK (mD 1 3 0)) && (cloVs 4 (cs.map AV.int) && (cloO 4 (.lst []) && (cloVs 4 ((ns.map grt).map AV.int) && true)))) = true
    rw [clo_ints, clo_ints]
    decide
  have d1 : (fSet 1 (fDisp (fpCons (fC (.str "cells")) (fCall 1 Gf (fCons (fVar 0) fNil)) (fpCons (fC (.str "great")) (fLst fNil) (fpCons (fC (.str "spot")) (fC (.int 0)) fpNil))))) [some (.scr ns), none, none] [] = .nx [some (.scr ns), some (.obj 0), none] [.dK (mD 1 2 0), .lst (cs.map AV.int), .lst []] := by
    have q : fCall 1 Gf (fCons (fVar 0) fNil) [some (.scr ns), none, none] [.dK []] = .ok (.obj 1) [.dK [], .lst (cs.map AV.int)] := by
      simp only [fCall, fCons, fNil, fVar, List.getElem?_cons_zero, Res.bind_ok, List.length_cons, List.length_nil, if_true, ef]
    unfold fSet fDisp fpCons
    simp only [List.nil_append, fC, Res.bind_ok, q]
    kernel_rfl
  have d2 : (fComp (fList (fVar 0)) (gNm 2) fYes fGr [2]) [some (.scr ns), some (.obj 0), none] [.dK (mD 1 2 0), .lst (cs.map AV.int), .lst []] = .ok (.obj 3) [.dK (mD 1 2 0), .lst (cs.map AV.int), .lst [], .lst ((ns.map grt).map AV.int)] := by
    have := great_ok (.dK (mD 1 2 0)) (.lst (cs.map AV.int)) (.lst []) (some (.scr ns)) (some (.obj 0)) none ns [] (by simp; omega)
    rw [List.nil_append] at this
    exact this
  have hr : runDef 3 (F0_begun Gf) [.scr ns] [] = (match F0_begun Gf [some (.scr ns), none, none] [] with
    | .rt v A' => .ok v (gcH [] v A')
    | .nx _ A' => .ok .non (gcH [] .non A')
    | .exc e _ A' => .exc e A'
    | _ => .er) := rfl
  rw [hr]
  unfold F0_begun fSeq fSub
  simp only [d1, d2, Res.s_ok]
  kernel_rfl
end Dn

namespace Lk
open PySem PySem.Spec L2 PyProof.Rows Dn

def top (i : Nat) : Stmt := PySem.Challenge.pw_likepairs_k23_first_part_by_names.main.body.getD i (.Pass ⟨0, 0, 0, 0⟩)
/-! ### the classes, the fields -/
def nam : Nat → List Str
  | 0 => ["web", "steps", "spare", "wanted"]
  | _ => []
abbrev mkCf (K : PySem.W.Frag) (cls : Nat → Addr) : Cfg := ⟨K, cls, nam⟩
def ti_many : Tbl := []
def ts_many : Tbl := [(1, 0)]
def ti_near : Tbl := []
def ts_near : Tbl := [(1, 1)]
def ti_spare : Tbl := [(0, 2)]
def ts_spare : Tbl := []
def ti_steps : Tbl := [(0, 1)]
def ts_steps : Tbl := []
def ti_ties : Tbl := []
def ts_ties : Tbl := [(1, 2)]
def ti_wanted : Tbl := [(0, 3)]
def ts_wanted : Tbl := []
def ti_web : Tbl := [(0, 0)]
def ts_web : Tbl := []
def ri_Web : RelC := [(0, false)]
def rs_Web : RelC := [(1, true)]
/-! ### what the text must have -/
structure Txt (cf : Cfg) (mg : Str → Option Value) : Prop where
  hn : cf.nam = nam
  b_abs : mg "abs" = none
  b_all : mg "all" = none
  b_any : mg "any" = none
  b_bool : mg "bool" = none
  b_enumerate : mg "enumerate" = none
  b_int : mg "int" = none
  b_isinstance : mg "isinstance" = none
  b_len : mg "len" = none
  b_list : mg "list" = none
  b_max : mg "max" = none
  b_min : mg "min" = none
  b_range : mg "range" = none
  b_sorted : mg "sorted" = none
  b_str : mg "str" = none
  b_sum : mg "sum" = none
  b_tuple : mg "tuple" = none
  k_MOST_PLACES : ∃ t, mg "MOST_PLACES" = some (.int 24 t)
  k_MOST_TIES : ∃ t, mg "MOST_TIES" = some (.int 60 t)
  k_TURNS : ∃ t, mg "TURNS" = some (.str "turns" t)
  k_COUNT : ∃ t, mg "COUNT" = some (.str "count" t)
  k_FEWEST : ∃ t, mg "FEWEST" = some (.str "fewest" t)
  r_is_whole : Raw cf mg "is_whole" (top 14)
  r_is_among : Raw cf mg "is_among" (top 15)
  r_is_list : Raw cf mg "is_list" (top 16)
  r_is_tie : Raw cf mg "is_tie" (top 17)
  r_need_ties : Raw cf mg "need_ties" (top 18)
  r_Web___init__ : RawM cf 1 "__init__" "Web.__init__" (inClass (top 19) 1)
  r__law_folded : Raw cf mg "_law_folded" (top 67)
  r__law_begun : Raw cf mg "_law_begun" (top 69)
  r__law_mixed : Raw cf mg "_law_mixed" (top 66)
  r__law_draw : Raw cf mg "_law_draw" (top 68)
  r_Flow_total : RawM cf 0 "total" "Flow.total" (inClass (top 10) 5)
  r_Flow_cost : RawM cf 0 "cost" "Flow.cost" (inClass (top 10) 1)
  r_Flow_reached : RawM cf 0 "reached" "Flow.reached" (inClass (top 10) 2)
  r_Flow_send : RawM cf 0 "send" "Flow.send" (inClass (top 10) 4)
  r_Flow_go_on : RawM cf 0 "go_on" "Flow.go_on" (inClass (top 10) 3)
  r_Flow___init__ : RawM cf 0 "__init__" "Flow.__init__" (inClass (top 10) 0)
  r_dots_in : Raw cf mg "dots_in" (top 39)
  r_spread : Raw cf mg "spread" (top 20)
  r_pieces : Raw cf mg "pieces" (top 21)
  r_sides_in : Raw cf mg "sides_in" (top 22)
  r_all_dots : Raw cf mg "all_dots" (top 48)
  r_need_standing : Raw cf mg "need_standing" (top 27)
  r_count_in : Raw cf mg "count_in" (top 35)
  r_counts : Raw cf mg "counts" (top 36)
  r_unlike_count : Raw cf mg "unlike_count" (top 37)
  r_need_like : Raw cf mg "need_like" (top 45)
  r_need_two_sided : Raw cf mg "need_two_sided" (top 25)
  r_need_short : Raw cf mg "need_short" (top 47)
  r_flow_of : Raw cf mg "flow_of" (top 49)
  r_fewest : Raw cf mg "fewest" (top 50)
  r_Flow_prices : RawM cf 0 "prices" "Flow.prices" (inClass (top 10) 6)
  r_prices : Raw cf mg "prices" (top 52)
  r_dot_turns : Raw cf mg "dot_turns" (top 40)
  r_shortest_row : Raw cf mg "shortest_row" (top 51)
  r_fewest_paper : Raw cf mg "fewest_paper" (top 63)
  r_are_prices : Raw cf mg "are_prices" (top 61)
  r_is_turn : Raw cf mg "is_turn" (top 28)
  r_turned : Raw cf mg "turned" (top 29)
  r_leads : Raw cf mg "leads" (top 58)
  r_shown_by : Raw cf mg "shown_by" (top 62)
  r_is_fewest_paper : Raw cf mg "is_fewest_paper" (top 64)
  r_is_paper : Raw cf mg "is_paper" (top 60)
  r_odd_tie : Raw cf mg "odd_tie" (top 42)
  r_tree_of : Raw cf mg "tree_of" (top 41)
  r_odd_turns : Raw cf mg "odd_turns" (top 43)
  r_piece_turns : Raw cf mg "piece_turns" (top 44)
  r_lead : Raw cf mg "lead" (top 46)
  r_paper : Raw cf mg "paper" (top 59)
  r_reaches : Raw cf mg "reaches" (top 53)
  r__law_ways_right : Raw cf mg "_law_ways_right" (top 71)
  r_Web___eq__ : RawM cf 1 "__eq__" "Web.__eq__" (inClass (top 19) 3)
  r_Web_neighbours : RawM cf 1 "neighbours" "Web.neighbours" (inClass (top 19) 4)
  r_can : Raw cf mg "can" (top 30)
  r_done_at : Raw cf mg "done_at" (top 31)
  r_done : Raw cf mg "done" (top 32)
  r_sides : Raw cf mg "sides" (top 23)
  r_is_two_sided : Raw cf mg "is_two_sided" (top 24)
  r_turns_of : Raw cf mg "turns_of" (top 34)
  r_walked : Raw cf mg "walked" (top 33)
  r__law_webs_right : Raw cf mg "_law_webs_right" (top 70)
  r_law : Raw cf mg "law" (top 72)
  m_Flow : Mak cf mg "Flow" 0
  c_Flow : Cls cf.K (cf.cls 0)
  m_Web : Mak cf mg "Web" 1
  c_Web : SlX.SCls cf.K (cf.cls 1)
  n_Flow_web : NoAttr cf.K (cf.cls 0) "web"
  n_Flow_steps : NoAttr cf.K (cf.cls 0) "steps"
  n_Flow_spare : NoAttr cf.K (cf.cls 0) "spare"
  n_Flow_wanted : NoAttr cf.K (cf.cls 0) "wanted"
  n_Web_many : SltF cf "many" 1 0
  n_Web_near : SltF cf "near" 1 1
  n_Web_ties : SltF cf "ties" 1 2
  o_Web : OwnEq cf 1
  q_Web : ∀ t ∈ tyNames, PySem.W.kitOne cf.K (.type t) (.ref (cf.cls 1)) = some false
  s_Web_Flow : IsiI cf (.ref (cf.cls 1)) 0 false
  s_Web_Web : IsiS cf (.ref (cf.cls 1)) 1 true
section
variable {P : Program} {w : World} {cf : Cfg} {mg : Str → Option Value} {base : Heap}
theorem hi_many (T : Txt cf mg) : ∀ p ∈ ti_many, InsF cf "many" p.1 p.2 := fun p hp => nomatch hp
theorem hs_many (T : Txt cf mg) : ∀ p ∈ ts_many, SltF cf "many" p.1 p.2 := fun p hp => by
  simp only [ts_many, List.mem_cons, List.not_mem_nil, or_false] at hp
  rcases hp with rfl

  · exact T.n_Web_many
theorem hi_near (T : Txt cf mg) : ∀ p ∈ ti_near, InsF cf "near" p.1 p.2 := fun p hp => nomatch hp
theorem hs_near (T : Txt cf mg) : ∀ p ∈ ts_near, SltF cf "near" p.1 p.2 := fun p hp => by
  simp only [ts_near, List.mem_cons, List.not_mem_nil, or_false] at hp
  rcases hp with rfl

  · exact T.n_Web_near
theorem hi_spare (T : Txt cf mg) : ∀ p ∈ ti_spare, InsF cf "spare" p.1 p.2 := fun p hp => by
  simp only [ti_spare, List.mem_cons, List.not_mem_nil, or_false] at hp
  rcases hp with rfl

  · exact ⟨T.c_Flow, T.n_Flow_spare, by rw [T.hn]; decide +kernel, by rw [T.hn]; rfl, by rw [T.hn]; decide +kernel⟩
theorem hs_spare (T : Txt cf mg) : ∀ p ∈ ts_spare, SltF cf "spare" p.1 p.2 := fun p hp => nomatch hp
theorem hi_steps (T : Txt cf mg) : ∀ p ∈ ti_steps, InsF cf "steps" p.1 p.2 := fun p hp => by
  simp only [ti_steps, List.mem_cons, List.not_mem_nil, or_false] at hp
  rcases hp with rfl

  · exact ⟨T.c_Flow, T.n_Flow_steps, by rw [T.hn]; decide +kernel, by rw [T.hn]; rfl, by rw [T.hn]; decide +kernel⟩
theorem hs_steps (T : Txt cf mg) : ∀ p ∈ ts_steps, SltF cf "steps" p.1 p.2 := fun p hp => nomatch hp
theorem hi_ties (T : Txt cf mg) : ∀ p ∈ ti_ties, InsF cf "ties" p.1 p.2 := fun p hp => nomatch hp
theorem hs_ties (T : Txt cf mg) : ∀ p ∈ ts_ties, SltF cf "ties" p.1 p.2 := fun p hp => by
  simp only [ts_ties, List.mem_cons, List.not_mem_nil, or_false] at hp
  rcases hp with rfl

  · exact T.n_Web_ties
theorem hi_wanted (T : Txt cf mg) : ∀ p ∈ ti_wanted, InsF cf "wanted" p.1 p.2 := fun p hp => by
  simp only [ti_wanted, List.mem_cons, List.not_mem_nil, or_false] at hp
  rcases hp with rfl

  · exact ⟨T.c_Flow, T.n_Flow_wanted, by rw [T.hn]; decide +kernel, by rw [T.hn]; rfl, by rw [T.hn]; decide +kernel⟩
theorem hs_wanted (T : Txt cf mg) : ∀ p ∈ ts_wanted, SltF cf "wanted" p.1 p.2 := fun p hp => nomatch hp
theorem hi_web (T : Txt cf mg) : ∀ p ∈ ti_web, InsF cf "web" p.1 p.2 := fun p hp => by
  simp only [ti_web, List.mem_cons, List.not_mem_nil, or_false] at hp
  rcases hp with rfl

  · exact ⟨T.c_Flow, T.n_Flow_web, by rw [T.hn]; decide +kernel, by rw [T.hn]; rfl, by rw [T.hn]; decide +kernel⟩
theorem hs_web (T : Txt cf mg) : ∀ p ∈ ts_web, SltF cf "web" p.1 p.2 := fun p hp => nomatch hp
theorem xi_Web (T : Txt cf mg) : ∀ q ∈ ri_Web, IsiI cf (.ref (cf.cls 1)) q.1 q.2 := fun p hp => by
  simp only [ri_Web, List.mem_cons, List.not_mem_nil, or_false] at hp
  rcases hp with rfl
  · exact T.s_Web_Flow
theorem xs_Web (T : Txt cf mg) : ∀ q ∈ rs_Web, IsiS cf (.ref (cf.cls 1)) q.1 q.2 := fun p hp => by
  simp only [rs_Web, List.mem_cons, List.not_mem_nil, or_false] at hp
  rcases hp with rfl
  · exact T.s_Web_Web
/-! ### the defs -/
theorem sc_is_whole : FnScope ["value"] ["value"] (defScope (top 14)) := ⟨rfl, rfl, rfl, by decide +kernel, rfl, by decide +kernel, by decide +kernel⟩
theorem b_is_whole : BindsT "is_whole" "is_whole" (top 14) ["value"] := fun _ _ _ _ _ _ us hl => match us, hl with | [_], _ => rfl
def F_is_whole : FS := (fRet (fAndV (fIsi "int" (fVar 0)) (fNotV (fIsi "bool" (fVar 0)))))
def G_is_whole : FD := runDef0 1 F_is_whole
theorem D_is_whole (T : Txt cf mg) : Df P w cf mg base "is_whole" (top 14) ["value"] 1 G_is_whole :=
  df_of T.r_is_whole sc_is_whole (fs := F_is_whole) (.inr rfl) fun _ _ _ _ _ _ _ hr => by
    unfold F_is_whole
    exact (cb_one (cs_ret (c_and (c_isiT rfl T.b_isinstance T.b_int PyProof.Rows.boot_int (by decide) (c_var 0)) (c_one (c_not (c_isiT rfl T.b_isinstance T.b_bool PyProof.Rows.boot_bool (by decide) (c_var 0)))))))
theorem sc_is_among : FnScope ["value", "least", "most"] ["value", "least", "most"] (defScope (top 15)) := ⟨rfl, rfl, rfl, by decide +kernel, rfl, by decide +kernel, by decide +kernel⟩
theorem b_is_among : BindsT "is_among" "is_among" (top 15) ["value", "least", "most"] := fun _ _ _ _ _ _ us hl => match us, hl with | [_, _, _], _ => rfl
def F_is_among : FS := (fRet (fAndV (fCall 1 G_is_whole (fCons (fVar 0) fNil)) (fChain gLe gLe (fVar 1) (fVar 0) (fVar 2))))
def G_is_among : FD := runDef0 3 F_is_among
theorem D_is_among (T : Txt cf mg) (D_is_whole : Df P w cf mg base "is_whole" (top 14) ["value"] 1 G_is_whole) : Df P w cf mg base "is_among" (top 15) ["value", "least", "most"] 2 G_is_among :=
  df_of T.r_is_among sc_is_among (fs := F_is_among) (.inr rfl) fun _ _ _ _ _ _ _ hr => by
    unfold F_is_among
    exact (cb_one (cs_ret (c_and (c_df D_is_whole b_is_whole rfl hr (by decide) (takes_of rfl rfl rfl rfl) (ca_cons (c_var 0) ca_nil)) (c_one (c_chain op_le ok_le op_le ok_le (c_var 1) (c_var 0) (c_var 2))))))
theorem sc_is_list : FnScope ["value"] ["value"] (defScope (top 16)) := ⟨rfl, rfl, rfl, by decide +kernel, rfl, by decide +kernel, by decide +kernel⟩
theorem b_is_list : BindsT "is_list" "is_list" (top 16) ["value"] := fun _ _ _ _ _ _ us hl => match us, hl with | [_], _ => rfl
def F_is_list : FS := (fRet (fIsi2 "list" "tuple" (fVar 0)))
def G_is_list : FD := runDef0 1 F_is_list
theorem D_is_list (T : Txt cf mg) : Df P w cf mg base "is_list" (top 16) ["value"] 1 G_is_list :=
  df_of T.r_is_list sc_is_list (fs := F_is_list) (.inr rfl) fun _ _ _ _ _ _ _ hr => by
    unfold F_is_list
    exact (cb_one (cs_ret (c_isiT2 rfl T.b_isinstance T.b_list PyProof.Rows.boot_list (by decide) T.b_tuple PyProof.Rows.boot_tuple (by decide) (c_var 0))))
theorem sc_is_tie : FnScope ["value", "many"] ["value", "many"] (defScope (top 17)) := ⟨rfl, rfl, rfl, by decide +kernel, rfl, by decide +kernel, by decide +kernel⟩
theorem b_is_tie : BindsT "is_tie" "is_tie" (top 17) ["value", "many"] := fun _ _ _ _ _ _ us hl => match us, hl with | [_, _], _ => rfl
def F_is_tie : FS := (fSeq (fIfS (fOr (fNot (fB (fIsi "tuple" (fVar 0)))) (fOr (fB (f2 gNe (fCb gLen (fCons (fVar 0) fNil)) (fC (.int 2)))) (fNot (fB (fCall 3 G_is_among (fCons (f2 gIx (fVar 0) (fC (.int 0))) (fCons (fC (.int 0)) (fCons (f2 gSub (fVar 1) (fC (.int 1))) fNil)))))))) (fRet (fC (.bl false))) fNx) (fRet (fCall 3 G_is_among (fCons (f2 gIx (fVar 0) (fC (.int 1))) (fCons (f2 gAdd (f2 gIx (fVar 0) (fC (.int 0))) (fC (.int 1))) (fCons (f2 gSub (fVar 1) (fC (.int 1))) fNil))))))
def G_is_tie : FD := runDef0 2 F_is_tie
theorem D_is_tie (T : Txt cf mg) (D_is_among : Df P w cf mg base "is_among" (top 15) ["value", "least", "most"] 2 G_is_among) : Df P w cf mg base "is_tie" (top 17) ["value", "many"] 3 G_is_tie :=
  df_of T.r_is_tie sc_is_tie (fs := F_is_tie) (.inr rfl) fun _ _ _ _ _ _ _ hr => by
    unfold F_is_tie
    exact (cb_cons (cs_if (CW.ct (cw_or (ct_not (ct_val (c_isiT rfl T.b_isinstance T.b_tuple PyProof.Rows.boot_tuple (by decide) (c_var 0)))) (cw_or (ct_cmp (op_neD hr.units) ok_ne (c_callB call_lenAll ok_len T.b_len PySem.boot_len (ca_cons (c_var 0) ca_nil)) c_int) (cw_or1 (ct_not (ct_val (c_df D_is_among b_is_among rfl hr (by decide) (takes_of rfl rfl rfl rfl) (ca_cons (c_ix rfl (hu_of hr) (c_var 0) c_int) (ca_cons c_int (ca_cons (c_op op_sub ok_sub (c_var 1) c_int) ca_nil)))))))))) (cb_one (cs_ret c_bl)) cb_nil) (cb_one (cs_ret (c_df D_is_among b_is_among rfl hr (by decide) (takes_of rfl rfl rfl rfl) (ca_cons (c_ix rfl (hu_of hr) (c_var 0) c_int) (ca_cons (c_op op_addAll ok_addAll (c_ix rfl (hu_of hr) (c_var 0) c_int) c_int) (ca_cons (c_op op_sub ok_sub (c_var 1) c_int) ca_nil)))))))
theorem sc_need_ties : FnScope ["many", "ties", "number", "tie"] ["many", "ties"] (defScope (top 18)) := ⟨rfl, rfl, rfl, by decide +kernel, rfl, by decide +kernel, by decide +kernel⟩
theorem b_need_ties : BindsT "need_ties" "need_ties" (top 18) ["many", "ties"] := fun _ _ _ _ _ _ us hl => match us, hl with | [_, _], _ => rfl
def F_need_ties : FS := (fSeq (fIfS (fNot (fB (fCall 1 G_is_list (fCons (fVar 1) fNil)))) fEr fNx) (fSeq (fIfS (fB (f2 gGtA (fCb gLen (fCons (fVar 1) fNil)) (fC (.int 60)))) fEr fNx) (fFor (fEnum (fVar 1)) (gTp 2 (gsCons (gNm 2) (gsCons (gNm 3) gsNil))) (fIfS (fOr (fNot (fB (fCall 2 G_is_tie (fCons (fVar 3) (fCons (fVar 0) fNil))))) (fAnd (fB (f2 gGtA (fVar 2) (fC (.int 0)))) (fB (f2 gGeA (f2 gIx (fVar 1) (f2 gSub (fVar 2) (fC (.int 1)))) (fVar 3))))) fEr fNx))))
def G_need_ties : FD := runDef0 4 F_need_ties
theorem D_need_ties (T : Txt cf mg) (D_is_list : Df P w cf mg base "is_list" (top 16) ["value"] 1 G_is_list) (D_is_tie : Df P w cf mg base "is_tie" (top 17) ["value", "many"] 3 G_is_tie) : Df P w cf mg base "need_ties" (top 18) ["many", "ties"] 4 G_need_ties :=
  df_of T.r_need_ties sc_need_ties (fs := F_need_ties) (.inr rfl) fun _ _ _ _ _ _ _ hr => by
    unfold F_need_ties
    exact (cb_cons (cs_if (ct_not (ct_val (c_df D_is_list b_is_list rfl hr (by decide) (takes_of rfl rfl rfl rfl) (ca_cons (c_var 1) ca_nil)))) (cb_one cs_never) cb_nil) (cb_cons (cs_if (ct_cmp (op_gtA hr.units) ok_gtA (c_callB call_lenAll ok_len T.b_len PySem.boot_len (ca_cons (c_var 1) ca_nil)) (c_gi T.k_MOST_TIES)) (cb_one cs_never) cb_nil) (cb_one (cs_for (passes_of rfl) rfl (ci_enum rfl T.b_enumerate (c_var 1)) (cg_tup rfl (cgs_cons (cg_name 2 sc_need_ties.nd) (cgs_cons (cg_name 3 sc_need_ties.nd) cgs_nil))) (cb_one (cs_if (CW.ct (cw_or (ct_not (ct_val (c_df D_is_tie b_is_tie rfl hr (by decide) (takes_of rfl rfl rfl rfl) (ca_cons (c_var 3) (ca_cons (c_var 0) ca_nil))))) (cw_or1 (CW.ct (cw_and (ct_cmp (op_gtA hr.units) ok_gtA (c_var 2) c_int) (cw_and1 (ct_cmp (op_geA hr.units) ok_geA (c_ix rfl (hu_of hr) (c_var 1) (c_op op_sub ok_sub (c_var 2) c_int)) (c_var 3)))))))) (cb_one cs_never) cb_nil))))))
theorem sc_Web___init__ : FnScope ["self", "many", "ties", "near", "one", "other", "place", "some"] ["self", "many", "ties"] (defScope (inClass (top 19) 1)) := ⟨rfl, rfl, rfl, by decide +kernel, rfl, by decide +kernel, by decide +kernel⟩
theorem b_Web___init__ : BindsT "__init__" "Web.__init__" (inClass (top 19) 1) ["self", "many", "ties"] := fun _ _ _ _ _ _ us hl => match us, hl with | [_, _, _], _ => rfl
theorem bk_Web___init___ties_many : BindsKw "__init__" "Web.__init__" (inClass (top 19) 1) ["self", "many", "ties"] ["ties", "many"] 1 (perm [1, 0]) := fun _ _ _ _ _ _ us ws h1 h2 => match us, ws, h1, h2 with | [_], [_, _], _, _ => rfl
def F_Web___init__ : FS := (fSeq (fIfS (fNot (fB (fCall 3 G_is_among (fCons (fVar 1) (fCons (fC (.int 1)) (fCons (fC (.int 24)) fNil)))))) fEr fNx) (fSeq (fDrop (fCall 2 G_need_ties (fCons (fVar 1) (fCons (fVar 2) fNil)))) (fSeq (fSetF ti_many ts_many (fVar 1) (fVar 0)) (fSeq (fSetF ti_ties ts_ties (fCb gTuple (fCons (fVar 2) fNil)) (fVar 0)) (fSeq (fSet 3 (fComp (fRange1 (fCons (fVar 1) fNil)) (gNm 6) fYes (fLst fNil) [6])) (fSeq (fFor (fList (fVar 2)) (gTp 2 (gsCons (gNm 4) (gsCons (gNm 5) gsNil))) (fSeq (fDrop (fMeth isL gAppend (f2 gIx (fVar 3) (fVar 4)) (fCons (fVar 5) fNil))) (fDrop (fMeth isL gAppend (f2 gIx (fVar 3) (fVar 5)) (fCons (fVar 4) fNil))))) (fSetF ti_near ts_near (fCb gTuple (fCons (fComp (fList (fVar 3)) (gNm 7) fYes (fCb gTuple (fCons (fCb gSorted (fCons (fVar 7) fNil)) fNil)) [7]) fNil)) (fVar 0))))))))
def G_Web___init__ : FD := runDef0 8 F_Web___init__
theorem D_Web___init__ (T : Txt cf mg) (D_is_among : Df P w cf mg base "is_among" (top 15) ["value", "least", "most"] 2 G_is_among) (D_need_ties : Df P w cf mg base "need_ties" (top 18) ["many", "ties"] 4 G_need_ties) : Mf P w cf mg base 1 "__init__" "Web.__init__" (inClass (top 19) 1) ["self", "many", "ties"] 5 G_Web___init__ :=
  mf_of T.r_Web___init__ sc_Web___init__ (fs := F_Web___init__) (.inr rfl) fun _ _ _ _ _ _ _ hr => by
    unfold F_Web___init__
    exact (cb_cons (cs_if (ct_not (ct_val (c_df D_is_among b_is_among rfl hr (by decide) (takes_of rfl rfl rfl rfl) (ca_cons (c_var 1) (ca_cons c_int (ca_cons (c_gi T.k_MOST_PLACES) ca_nil)))))) (cb_one cs_never) cb_nil) (cb_cons (cs_expr (c_df D_need_ties b_need_ties rfl hr (by decide) (takes_of rfl rfl rfl rfl) (ca_cons (c_var 1) (ca_cons (c_var 2) ca_nil)))) (cb_cons (cs_fld ti_many ts_many rfl (hi_many T) (hs_many T) (c_var 1) (c_var 0)) (cb_cons (cs_fld ti_ties ts_ties rfl (hi_ties T) (hs_ties T) (c_callTy call_tuple_of ok_tuple T.b_tuple PyProof.Rows.boot_tuple (ca_cons (c_var 2) ca_nil)) (c_var 0)) (cb_cons (cs_setComp 3 [("place", 6)] rfl sc_Web___init__.nd (ci_range1 rfl T.b_range (ca_cons (c_var 1) ca_nil)) (blk_of (by kernel_rfl)) (fun _ _ _ _ _ => (cg_name 6 sc_Web___init__.nd)) (fun _ _ _ _ _ => cts_nil) (fun _ _ _ _ _ => (c_lst ca_nil)) (sw_true rfl rfl rfl (by decide +kernel))) (cb_cons (cs_for (passes_of rfl) rfl (ci_list (c_var 2) rfl) (cg_tup rfl (cgs_cons (cg_name 4 sc_Web___init__.nd) (cgs_cons (cg_name 5 sc_Web___init__.nd) cgs_nil))) (cb_cons (cs_expr (c_bm PySem.F.plainAttrs_list PySem.F.slot_list_append PySem.F.type_list_append mt_append rfl isL_ok ok_append (c_ix rfl (hu_of hr) (c_var 3) (c_var 4)) (ca_cons (c_var 5) ca_nil))) (cb_one (cs_expr (c_bm PySem.F.plainAttrs_list PySem.F.slot_list_append PySem.F.type_list_append mt_append rfl isL_ok ok_append (c_ix rfl (hu_of hr) (c_var 3) (c_var 5)) (ca_cons (c_var 4) ca_nil)))))) (cb_one (cs_fld ti_near ts_near rfl (hi_near T) (hs_near T) (c_callTy call_tuple_of ok_tuple T.b_tuple PyProof.Rows.boot_tuple (ca_cons (c_comp [("some", 7)] rfl sc_Web___init__.nd (ci_list (c_var 3) rfl) (blk_of (by kernel_rfl)) (fun _ _ _ _ _ => (cg_name 7 sc_Web___init__.nd)) (fun _ _ _ _ _ => cts_nil) (fun _ _ _ _ _ => (c_callTy call_tuple_of ok_tuple T.b_tuple PyProof.Rows.boot_tuple (ca_cons (c_callB call_sorted ok_sorted T.b_sorted PyProof.Rows.boot_sorted (ca_cons (c_var 7) ca_nil)) ca_nil)))) ca_nil)) (c_var 0)))))))))
theorem sc__law_folded : FnScope ["_law_script", "_law_found", "_law_n", "_law_cell"] ["_law_script"] (defScope (top 67)) := ⟨rfl, rfl, rfl, by decide +kernel, rfl, by decide +kernel, by decide +kernel⟩
theorem b__law_folded : BindsT "_law_folded" "_law_folded" (top 67) ["_law_script"] := fun _ _ _ _ _ _ us hl => match us, hl with | [_], _ => rfl
def F__law_folded : FS := (fSeq (fSet 1 (fComp (fRange1 (fCons (fC (.int 64)) fNil)) (gNm 2) fYes (f2 gAdd (fC (.int 17)) (fVar 2)) [2])) (fSeq (fFor (fEnum (fVar 0)) (gTp 2 (gsCons (gNm 2) (gsCons (gNm 3) gsNil))) (fSub (f2 gMod (fCb gInt (fCons (f2 gAdd (f2 gMul (f2 gIx (fVar 1) (f2 gMod (fCb gInt (fCons (fVar 2) fNil)) (fC (.int 64)))) (fC (.int 48271))) (fVar 3)) fNil)) (fC (.int 2147483647))) (fVar 1) (f2 gMod (fCb gInt (fCons (fVar 2) fNil)) (fC (.int 64))))) (fSeq (fFor (fRange2 (fCons (fC (.int 1)) (fCons (fC (.int 64)) fNil))) (gNm 2) (fSub (f2 gMod (fCb gInt (fCons (f2 gAdd (f2 gIx (fVar 1) (fVar 2)) (f2 gMul (f2 gIx (fVar 1) (f2 gSub (fVar 2) (fC (.int 1)))) (fC (.int 16807)))) fNil)) (fC (.int 2147483647))) (fVar 1) (fVar 2))) (fRet (fVar 1)))))
def G__law_folded : FD := runDef 4 F__law_folded
theorem D__law_folded (T : Txt cf mg) : Df P w cf mg base "_law_folded" (top 67) ["_law_script"] 1 G__law_folded :=
  df_of T.r__law_folded sc__law_folded (fs := F__law_folded) (.inl rfl) fun _ _ _ _ _ _ _ hr => by
    unfold F__law_folded
    exact (cb_cons (cs_setComp 1 [("_law_n", 2)] rfl sc__law_folded.nd (ci_range1 rfl T.b_range (ca_cons c_int ca_nil)) (blk_of (by kernel_rfl)) (fun _ _ _ _ _ => (cg_name 2 sc__law_folded.nd)) (fun _ _ _ _ _ => cts_nil) (fun _ _ _ _ _ => (c_op op_addAll ok_addAll c_int (c_var 2))) (sw_true rfl rfl rfl (by decide +kernel))) (cb_cons (cs_for (passes_of rfl) rfl (ci_enum rfl T.b_enumerate (c_var 0)) (cg_tup rfl (cgs_cons (cg_name 2 sc__law_folded.nd) (cgs_cons (cg_name 3 sc__law_folded.nd) cgs_nil))) (cb_one (cs_sub rfl (hu_of hr) (c_op op_mod ok_mod (c_callTy call_int1 ok_int T.b_int PyProof.Rows.boot_int (ca_cons (c_op op_addAll ok_addAll (c_op op_mulAll ok_mulAll (c_ix rfl (hu_of hr) (c_var 1) (c_op op_mod ok_mod (c_callTy call_int1 ok_int T.b_int PyProof.Rows.boot_int (ca_cons (c_var 2) ca_nil)) c_int)) c_int) (c_var 3)) ca_nil)) c_int) (c_var 1) (c_op op_mod ok_mod (c_callTy call_int1 ok_int T.b_int PyProof.Rows.boot_int (ca_cons (c_var 2) ca_nil)) c_int)))) (cb_cons (cs_for (passes_of rfl) rfl (ci_range2 rfl T.b_range (ca_cons c_int (ca_cons c_int ca_nil))) (cg_name 2 sc__law_folded.nd) (cb_one (cs_sub rfl (hu_of hr) (c_op op_mod ok_mod (c_callTy call_int1 ok_int T.b_int PyProof.Rows.boot_int (ca_cons (c_op op_addAll ok_addAll (c_ix rfl (hu_of hr) (c_var 1) (c_var 2)) (c_op op_mulAll ok_mulAll (c_ix rfl (hu_of hr) (c_var 1) (c_op op_sub ok_sub (c_var 2) c_int)) c_int)) ca_nil)) c_int) (c_var 1) (c_var 2)))) (cb_one (cs_ret (c_var 1))))))
theorem sc__law_begun : FnScope ["_law_script", "_law_m", "_law_cell"] ["_law_script"] (defScope (top 69)) := ⟨rfl, rfl, rfl, by decide +kernel, rfl, by decide +kernel, by decide +kernel⟩
theorem b__law_begun : BindsT "_law_begun" "_law_begun" (top 69) ["_law_script"] := fun _ _ _ _ _ _ us hl => match us, hl with | [_], _ => rfl
def F__law_begun : FS := (fSeq (fSet 1 (fDisp (fpCons (fC (.str "cells")) (fCall 1 G__law_folded (fCons (fVar 0) fNil)) (fpCons (fC (.str "great")) (fLst fNil) (fpCons (fC (.str "spot")) (fC (.int 0)) fpNil))))) (fSeq (fSub (fComp (fList (fVar 0)) (gNm 2) fYes (fIf (fB (f2 gGeA (fVar 2) (f2 gPow (fC (.int 10)) (fC (.int 18))))) (fVar 2) (fC (.int 0))) [2]) (fVar 1) (fC (.str "great"))) (fRet (fVar 1))))
def G__law_begun : FD := runDef 3 F__law_begun
theorem D__law_begun (T : Txt cf mg) (D__law_folded : Df P w cf mg base "_law_folded" (top 67) ["_law_script"] 1 G__law_folded) : Df P w cf mg base "_law_begun" (top 69) ["_law_script"] 2 G__law_begun :=
  df_of T.r__law_begun sc__law_begun (fs := F__law_begun) (.inl rfl) fun _ _ _ _ _ _ _ hr => by
    unfold F__law_begun
    exact (cb_cons (cs_set 1 sc__law_begun.nd (c_disp (cp_cons c_str (c_df D__law_folded b__law_folded rfl hr (by decide) (takes_of rfl rfl rfl rfl) (ca_cons (c_var 0) ca_nil)) (cp_cons c_str (c_lst ca_nil) (cp_cons c_str c_int cp_nil))))) (cb_cons (cs_sub rfl (hu_of hr) (c_comp [("_law_cell", 2)] rfl sc__law_begun.nd (ci_list (c_var 0) rfl) (blk_of (by kernel_rfl)) (fun _ _ _ _ _ => (cg_name 2 sc__law_begun.nd)) (fun _ _ _ _ _ => cts_nil) (fun _ _ _ _ _ => (c_if (ct_cmp (op_geA hr.units) ok_geA (c_var 2) (c_op op_pow ok_pow c_int c_int)) (c_var 2) c_int))) (c_var 1) c_str) (cb_one (cs_ret (c_var 1)))))
theorem sc__law_mixed : FnScope ["_law_cell", "_law_n", "_law_blend"] ["_law_cell", "_law_n"] (defScope (top 66)) := ⟨rfl, rfl, rfl, by decide +kernel, rfl, by decide +kernel, by decide +kernel⟩
theorem b__law_mixed : BindsT "_law_mixed" "_law_mixed" (top 66) ["_law_cell", "_law_n"] := fun _ _ _ _ _ _ us hl => match us, hl with | [_, _], _ => rfl
def F__law_mixed : FS := (fSeq (fSet 2 (f2 gAdd (f2 gAdd (f2 gMod (fCb gInt (fCons (f2 gMul (f2 gMul (fVar 0) (f2 gAdd (fC (.int 1)) (f2 gMul (fC (.int 2)) (fVar 1)))) (fC (.int 48271))) fNil)) (fC (.int 2147483647))) (f2 gMul (f2 gMul (fC (.int 7919)) (fVar 1)) (fVar 1))) (f2 gMul (fC (.int 104729)) (fVar 1)))) (fRet (f2 gDiv (f2 gMod (fCb gInt (fCons (f2 gMul (fVar 2) (fC (.int 69621))) fNil)) (fC (.int 2147483629))) (fC (.int 7)))))
def G__law_mixed : FD := runDef 3 F__law_mixed
theorem D__law_mixed (T : Txt cf mg) : Df P w cf mg base "_law_mixed" (top 66) ["_law_cell", "_law_n"] 1 G__law_mixed :=
  df_of T.r__law_mixed sc__law_mixed (fs := F__law_mixed) (.inl rfl) fun _ _ _ _ _ _ _ hr => by
    unfold F__law_mixed
    exact (cb_cons (cs_set 2 sc__law_mixed.nd (c_op op_addAll ok_addAll (c_op op_addAll ok_addAll (c_op op_mod ok_mod (c_callTy call_int1 ok_int T.b_int PyProof.Rows.boot_int (ca_cons (c_op op_mulAll ok_mulAll (c_op op_mulAll ok_mulAll (c_var 0) (c_op op_addAll ok_addAll c_int (c_op op_mulAll ok_mulAll c_int (c_var 1)))) c_int) ca_nil)) c_int) (c_op op_mulAll ok_mulAll (c_op op_mulAll ok_mulAll c_int (c_var 1)) (c_var 1))) (c_op op_mulAll ok_mulAll c_int (c_var 1)))) (cb_one (cs_ret (c_op op_fdiv ok_div (c_op op_mod ok_mod (c_callTy call_int1 ok_int T.b_int PyProof.Rows.boot_int (ca_cons (c_op op_mulAll ok_mulAll (c_var 2) c_int) ca_nil)) c_int) c_int))))
theorem sc__law_draw : FnScope ["_law_m", "_law_limit", "_law_n", "_law_lot", "_law_here", "_law_cell"] ["_law_m", "_law_limit"] (defScope (top 68)) := ⟨rfl, rfl, rfl, by decide +kernel, rfl, by decide +kernel, by decide +kernel⟩
theorem b__law_draw : BindsT "_law_draw" "_law_draw" (top 68) ["_law_m", "_law_limit"] := fun _ _ _ _ _ _ us hl => match us, hl with | [_, _], _ => rfl
def F__law_draw : FS := (fSeq (fSet 2 (f2 gIx (fVar 0) (fC (.str "spot")))) (fSeq (fSub (f2 gAdd (fVar 2) (fC (.int 1))) (fVar 0) (fC (.str "spot"))) (fSeq (fIfS (fB (f2 gNe (f2 gIx (fVar 0) (fC (.str "great"))) (fLst fNil))) (fSeq (fSet 3 (f2 gIx (fVar 0) (fC (.str "great")))) (fSeq (fSet 4 (f2 gMod (fCb gInt (fCons (fVar 2) fNil)) (fCb gLen (fCons (fVar 3) fNil)))) (fSeq (fSet 5 (f2 gIx (fVar 3) (fVar 4))) (fIfS (fB (f2 gGtA (fVar 5) (fC (.int 0)))) (fSeq (fSub (f2 gDiv (fVar 5) (fVar 1)) (fVar 3) (fVar 4)) (fRet (f2 gMod (fCb gInt (fCons (fVar 5) fNil)) (fVar 1)))) fNx)))) fNx) (fSeq (fSet 3 (f2 gIx (fVar 0) (fC (.str "cells")))) (fRet (f2 gMod (fCb gInt (fCons (fCall 2 G__law_mixed (fCons (fCall 2 G__law_mixed (fCons (f2 gAdd (f2 gIx (fVar 3) (f2 gMod (fCb gInt (fCons (fVar 2) fNil)) (fC (.int 64)))) (f2 gMul (fC (.int 31)) (f2 gDiv (fVar 2) (fC (.int 64))))) (fCons (fVar 2) fNil))) (fCons (f2 gAdd (fVar 2) (fC (.int 7))) fNil))) fNil)) (fVar 1)))))))
def G__law_draw : FD := runDef 6 F__law_draw
theorem D__law_draw (T : Txt cf mg) (D__law_mixed : Df P w cf mg base "_law_mixed" (top 66) ["_law_cell", "_law_n"] 1 G__law_mixed) : Df P w cf mg base "_law_draw" (top 68) ["_law_m", "_law_limit"] 2 G__law_draw :=
  df_of T.r__law_draw sc__law_draw (fs := F__law_draw) (.inl rfl) fun _ _ _ _ _ _ _ hr => by
    unfold F__law_draw
    exact (cb_cons (cs_set 2 sc__law_draw.nd (c_ix rfl (hu_of hr) (c_var 0) c_str)) (cb_cons (cs_sub rfl (hu_of hr) (c_op op_addAll ok_addAll (c_var 2) c_int) (c_var 0) c_str) (cb_cons (cs_if (ct_cmp (op_neD hr.units) ok_ne (c_ix rfl (hu_of hr) (c_var 0) c_str) (c_lst ca_nil)) (cb_cons (cs_set 3 sc__law_draw.nd (c_ix rfl (hu_of hr) (c_var 0) c_str)) (cb_cons (cs_set 4 sc__law_draw.nd (c_op op_mod ok_mod (c_callTy call_int1 ok_int T.b_int PyProof.Rows.boot_int (ca_cons (c_var 2) ca_nil)) (c_callB call_lenAll ok_len T.b_len PySem.boot_len (ca_cons (c_var 3) ca_nil)))) (cb_cons (cs_set 5 sc__law_draw.nd (c_ix rfl (hu_of hr) (c_var 3) (c_var 4))) (cb_one (cs_if (ct_cmp (op_gtA hr.units) ok_gtA (c_var 5) c_int) (cb_cons (cs_sub rfl (hu_of hr) (c_op op_fdiv ok_div (c_var 5) (c_var 1)) (c_var 3) (c_var 4)) (cb_one (cs_ret (c_op op_mod ok_mod (c_callTy call_int1 ok_int T.b_int PyProof.Rows.boot_int (ca_cons (c_var 5) ca_nil)) (c_var 1))))) cb_nil))))) cb_nil) (cb_cons (cs_set 3 sc__law_draw.nd (c_ix rfl (hu_of hr) (c_var 0) c_str)) (cb_one (cs_ret (c_op op_mod ok_mod (c_callTy call_int1 ok_int T.b_int PyProof.Rows.boot_int (ca_cons (c_df D__law_mixed b__law_mixed rfl hr (by decide) (takes_of rfl rfl rfl rfl) (ca_cons (c_df D__law_mixed b__law_mixed rfl hr (by decide) (takes_of rfl rfl rfl rfl) (ca_cons (c_op op_addAll ok_addAll (c_ix rfl (hu_of hr) (c_var 3) (c_op op_mod ok_mod (c_callTy call_int1 ok_int T.b_int PyProof.Rows.boot_int (ca_cons (c_var 2) ca_nil)) c_int)) (c_op op_mulAll ok_mulAll c_int (c_op op_fdiv ok_div (c_var 2) c_int))) (ca_cons (c_var 2) ca_nil))) (ca_cons (c_op op_addAll ok_addAll (c_var 2) c_int) ca_nil))) ca_nil)) (c_var 1))))))))
theorem sc_Flow_total : FnScope ["self"] ["self"] (defScope (inClass (top 10) 5)) := ⟨rfl, rfl, rfl, by decide +kernel, rfl, by decide +kernel, by decide +kernel⟩
theorem b_Flow_total : BindsT "total" "Flow.total" (inClass (top 10) 5) ["self"] := fun _ _ _ _ _ _ us hl => match us, hl with | [_], _ => rfl
def F_Flow_total : FS := (fRet (fSumV (fFld ti_steps ts_steps (fVar 0))))
def G_Flow_total : FD := runDef 1 F_Flow_total
theorem D_Flow_total (T : Txt cf mg) : Mf P w cf mg base 0 "total" "Flow.total" (inClass (top 10) 5) ["self"] 1 G_Flow_total :=
  mf_of T.r_Flow_total sc_Flow_total (fs := F_Flow_total) (.inl rfl) fun _ _ _ _ _ _ _ hr => by
    unfold F_Flow_total
    exact (cb_one (cs_ret (c_sumV rfl T.b_sum (c_fld ti_steps ts_steps rfl (hi_steps T) (hs_steps T) (c_var 0)))))
theorem sc_Flow_cost : FnScope ["self", "one", "other"] ["self", "one", "other"] (defScope (inClass (top 10) 1)) := ⟨rfl, rfl, rfl, by decide +kernel, rfl, by decide +kernel, by decide +kernel⟩
theorem b_Flow_cost : BindsT "cost" "Flow.cost" (inClass (top 10) 1) ["self", "one", "other"] := fun _ _ _ _ _ _ us hl => match us, hl with | [_, _, _], _ => rfl
def F_Flow_cost : FS := (fRet (fIf (fB (f2 gGtA (fGet2 (fFld ti_steps ts_steps (fVar 0)) (fTup (fCons (fVar 2) (fCons (fVar 1) fNil))) (fC (.int 0))) (fC (.int 0)))) (f1 gNeg (fC (.int 1))) (fC (.int 1))))
def G_Flow_cost : FD := runDef 3 F_Flow_cost
theorem D_Flow_cost (T : Txt cf mg) : Mf P w cf mg base 0 "cost" "Flow.cost" (inClass (top 10) 1) ["self", "one", "other"] 1 G_Flow_cost :=
  mf_of T.r_Flow_cost sc_Flow_cost (fs := F_Flow_cost) (.inl rfl) fun _ _ _ _ _ _ _ hr => by
    unfold F_Flow_cost
    exact (cb_one (cs_ret (c_if (ct_cmp (op_gtA hr.units) ok_gtA (c_get2 (hu_of hr) (c_fld ti_steps ts_steps rfl (hi_steps T) (hs_steps T) (c_var 0)) (c_tup (ca_cons (c_var 2) (ca_cons (c_var 1) ca_nil))) c_int) c_int) (c_neg c_int) c_int)))
theorem sc_Flow_reached : FnScope ["self", "starts", "costs", "ahead", "is_more", "place", "other"] ["self", "starts"] (defScope (inClass (top 10) 2)) := ⟨rfl, rfl, rfl, by decide +kernel, rfl, by decide +kernel, by decide +kernel⟩
theorem b_Flow_reached : BindsT "reached" "Flow.reached" (inClass (top 10) 2) ["self", "starts"] := fun _ _ _ _ _ _ us hl => match us, hl with | [_, _], _ => rfl
def F_Flow_reached : FS := (fSeq (fAsgG (fTup (fCons (fDComp (fList (fVar 1)) (gNm 5) fYes (fVar 5) (fC (.int 0)) [5]) (fCons fDK fNil))) (gTp 2 (gsCons (gNm 2) (gsCons (gNm 3) gsNil)))) (fSeq (fSet 4 (fC (.bl true))) (fSeq (fWhile (fB (fVar 4)) (fSeq (fSet 4 (fC (.bl false))) (fFor (fRange1 (fCons (fFld ti_many ts_many (fFld ti_web ts_web (fVar 0))) fNil)) (gNm 5) (fFor (fList (f2 gIx (fFld ti_near ts_near (fFld ti_web ts_web (fVar 0))) (fVar 5))) (gNm 6) (fIfS (fAnd (fB (f2 gIn (fVar 5) (fVar 2))) (fB (f2 gLtA (f2 gAdd (f2 gIx (fVar 2) (fVar 5)) (fMth 0 3 G_Flow_cost (fVar 0) (fCons (fVar 5) (fCons (fVar 6) fNil)))) (fGet2 (fVar 2) (fVar 6) (fFld ti_many ts_many (fFld ti_web ts_web (fVar 0))))))) (fSeq (fAsgG (fTup (fCons (f2 gAdd (f2 gIx (fVar 2) (fVar 5)) (fMth 0 3 G_Flow_cost (fVar 0) (fCons (fVar 5) (fCons (fVar 6) fNil)))) (fCons (fVar 5) fNil))) (gTp 2 (gsCons (gSb (fVar 2) (fVar 6)) (gsCons (gSb (fVar 3) (fVar 6)) gsNil)))) (fSet 4 (fC (.bl true)))) fNx))))) (fRet (fTup (fCons (fVar 2) (fCons (fVar 3) fNil)))))))
def G_Flow_reached : FD := runDef 7 F_Flow_reached
theorem D_Flow_reached (T : Txt cf mg) (D_Flow_cost : Mf P w cf mg base 0 "cost" "Flow.cost" (inClass (top 10) 1) ["self", "one", "other"] 1 G_Flow_cost) : Mf P w cf mg base 0 "reached" "Flow.reached" (inClass (top 10) 2) ["self", "starts"] 2 G_Flow_reached :=
  mf_of T.r_Flow_reached sc_Flow_reached (fs := F_Flow_reached) (.inl rfl) fun _ _ _ _ _ _ _ hr => by
    unfold F_Flow_reached
    exact (cb_cons (by first | exact cs_par2 rfl sc_Flow_reached.nd (ca_cons (c_dcomp [("place", 5)] rfl sc_Flow_reached.nd (ci_list (c_var 1) rfl) (blk_of (by kernel_rfl)) (fun _ _ _ _ _ => (cg_name 5 sc_Flow_reached.nd)) (fun _ _ _ _ _ => cts_nil) (fun _ _ _ _ _ => (c_var 5)) (fun _ _ _ _ _ => c_int)) (ca_cons c_dK ca_nil)) | exact cs_asg (c_tup (ca_cons (c_dcomp [("place", 5)] rfl sc_Flow_reached.nd (ci_list (c_var 1) rfl) (blk_of (by kernel_rfl)) (fun _ _ _ _ _ => (cg_name 5 sc_Flow_reached.nd)) (fun _ _ _ _ _ => cts_nil) (fun _ _ _ _ _ => (c_var 5)) (fun _ _ _ _ _ => c_int)) (ca_cons c_dK ca_nil))) (cg_tup rfl (cgs_cons (cg_name 2 sc_Flow_reached.nd) (cgs_cons (cg_name 3 sc_Flow_reached.nd) cgs_nil)))) (cb_cons (cs_set 4 sc_Flow_reached.nd c_bl) (cb_cons (cs_while (passes_of rfl) (ct_val (c_var 4)) (cb_cons (cs_set 4 sc_Flow_reached.nd c_bl) (cb_one (cs_for (passes_of rfl) rfl (ci_range1 rfl T.b_range (ca_cons (c_fld ti_many ts_many rfl (hi_many T) (hs_many T) (c_fld ti_web ts_web rfl (hi_web T) (hs_web T) (c_var 0))) ca_nil)) (cg_name 5 sc_Flow_reached.nd) (cb_one (cs_for (passes_of rfl) rfl (ci_list (c_ix rfl (hu_of hr) (c_fld ti_near ts_near rfl (hi_near T) (hs_near T) (c_fld ti_web ts_web rfl (hi_web T) (hs_web T) (c_var 0))) (c_var 5)) rfl) (cg_name 6 sc_Flow_reached.nd) (cb_one (cs_if (CW.ct (cw_and (ct_in rfl (hu_of hr) (c_var 5) (c_var 2)) (cw_and1 (ct_cmp (op_ltA hr.units) ok_ltA (c_op op_addAll ok_addAll (c_ix rfl (hu_of hr) (c_var 2) (c_var 5)) (c_mf D_Flow_cost b_Flow_cost T.c_Flow (by rw [T.hn]; decide +kernel) rfl hr (by decide) (takes_of rfl rfl rfl rfl) (c_var 0) (ca_cons (c_var 5) (ca_cons (c_var 6) ca_nil)))) (c_get2 (hu_of hr) (c_var 2) (c_var 6) (c_fld ti_many ts_many rfl (hi_many T) (hs_many T) (c_fld ti_web ts_web rfl (hi_web T) (hs_web T) (c_var 0)))))))) (cb_cons (cs_asg (c_tup (ca_cons (c_op op_addAll ok_addAll (c_ix rfl (hu_of hr) (c_var 2) (c_var 5)) (c_mf D_Flow_cost b_Flow_cost T.c_Flow (by rw [T.hn]; decide +kernel) rfl hr (by decide) (takes_of rfl rfl rfl rfl) (c_var 0) (ca_cons (c_var 5) (ca_cons (c_var 6) ca_nil)))) (ca_cons (c_var 5) ca_nil))) (cg_tup rfl (cgs_cons (cg_sub (hu_of hr) (c_var 2) (c_var 6)) (cgs_cons (cg_sub (hu_of hr) (c_var 3) (c_var 6)) cgs_nil)))) (cb_one (cs_set 4 sc_Flow_reached.nd c_bl))) cb_nil)))))))) (cb_one (cs_ret (c_tup (ca_cons (c_var 2) (ca_cons (c_var 3) ca_nil))))))))
theorem sc_Flow_send : FnScope ["self", "one", "other"] ["self", "one", "other"] (defScope (inClass (top 10) 4)) := ⟨rfl, rfl, rfl, by decide +kernel, rfl, by decide +kernel, by decide +kernel⟩
theorem b_Flow_send : BindsT "send" "Flow.send" (inClass (top 10) 4) ["self", "one", "other"] := fun _ _ _ _ _ _ us hl => match us, hl with | [_, _, _], _ => rfl
def F_Flow_send : FS := (fIfS (fB (f2 gGtA (fGet2 (fFld ti_steps ts_steps (fVar 0)) (fTup (fCons (fVar 2) (fCons (fVar 1) fNil))) (fC (.int 0))) (fC (.int 0)))) (fDAug (gI0 fun i j => .int (i - j)) (fFld ti_steps ts_steps (fVar 0)) (fTup (fCons (fVar 2) (fCons (fVar 1) fNil))) (fC (.int 1))) (fSub (f2 gAdd (fGet2 (fFld ti_steps ts_steps (fVar 0)) (fTup (fCons (fVar 1) (fCons (fVar 2) fNil))) (fC (.int 0))) (fC (.int 1))) (fFld ti_steps ts_steps (fVar 0)) (fTup (fCons (fVar 1) (fCons (fVar 2) fNil)))))
def G_Flow_send : FD := runDef 3 F_Flow_send
theorem D_Flow_send (T : Txt cf mg) : Mf P w cf mg base 0 "send" "Flow.send" (inClass (top 10) 4) ["self", "one", "other"] 1 G_Flow_send :=
  mf_of T.r_Flow_send sc_Flow_send (fs := F_Flow_send) (.inl rfl) fun _ _ _ _ _ _ _ hr => by
    unfold F_Flow_send
    exact (cb_one (cs_if (ct_cmp (op_gtA hr.units) ok_gtA (c_get2 (hu_of hr) (c_fld ti_steps ts_steps rfl (hi_steps T) (hs_steps T) (c_var 0)) (c_tup (ca_cons (c_var 2) (ca_cons (c_var 1) ca_nil))) c_int) c_int) (cb_one (cs_daug (hu_of hr) in_sub ok_inSub (c_fld ti_steps ts_steps rfl (hi_steps T) (hs_steps T) (c_var 0)) (c_tup (ca_cons (c_var 2) (ca_cons (c_var 1) ca_nil))) c_int)) (cb_one (cs_sub rfl (hu_of hr) (c_op op_addAll ok_addAll (c_get2 (hu_of hr) (c_fld ti_steps ts_steps rfl (hi_steps T) (hs_steps T) (c_var 0)) (c_tup (ca_cons (c_var 1) (ca_cons (c_var 2) ca_nil))) c_int) c_int) (c_fld ti_steps ts_steps rfl (hi_steps T) (hs_steps T) (c_var 0)) (c_tup (ca_cons (c_var 1) (ca_cons (c_var 2) ca_nil)))))))
theorem sc_Flow_go_on : FnScope ["self", "start", "costs", "ahead", "place", "goal"] ["self"] (defScope (inClass (top 10) 3)) := ⟨rfl, rfl, rfl, by decide +kernel, rfl, by decide +kernel, by decide +kernel⟩
theorem b_Flow_go_on : BindsT "go_on" "Flow.go_on" (inClass (top 10) 3) ["self"] := fun _ _ _ _ _ _ us hl => match us, hl with | [_], _ => rfl
def F_Flow_go_on : FS := (fSeq (fSet 1 (fMeth isL gPopAt (fFld ti_spare ts_spare (fVar 0)) (fCons (fC (.int 0)) fNil))) (fSeq (fAsgG (fMth 0 2 G_Flow_reached (fVar 0) (fCons (fLst (fCons (fVar 1) fNil)) fNil)) (gTp 2 (gsCons (gNm 2) (gsCons (gNm 3) gsNil)))) (fSeq (fSet 4 (f2 gIx (fCb gMinL (fCons (fComp (fList (fFld ti_wanted ts_wanted (fVar 0))) (gNm 5) (fB (f2 gIn (fVar 5) (fVar 2))) (fTup (fCons (f2 gIx (fVar 2) (fVar 5)) (fCons (fVar 5) fNil))) [5]) fNil)) (fC (.int 1)))) (fSeq (fDrop (fRemove (fFld ti_wanted ts_wanted (fVar 0)) (fVar 4))) (fWhile (fB (f2 gNe (fVar 4) (fVar 1))) (fSeq (fDrop (fMth 0 3 G_Flow_send (fVar 0) (fCons (f2 gIx (fVar 3) (fVar 4)) (fCons (fVar 4) fNil)))) (fSet 4 (f2 gIx (fVar 3) (fVar 4)))))))))
def G_Flow_go_on : FD := runDef 6 F_Flow_go_on
theorem D_Flow_go_on (T : Txt cf mg) (D_Flow_reached : Mf P w cf mg base 0 "reached" "Flow.reached" (inClass (top 10) 2) ["self", "starts"] 2 G_Flow_reached) (D_Flow_send : Mf P w cf mg base 0 "send" "Flow.send" (inClass (top 10) 4) ["self", "one", "other"] 1 G_Flow_send) : Mf P w cf mg base 0 "go_on" "Flow.go_on" (inClass (top 10) 3) ["self"] 3 G_Flow_go_on :=
  mf_of T.r_Flow_go_on sc_Flow_go_on (fs := F_Flow_go_on) (.inl rfl) fun _ _ _ _ _ _ _ hr => by
    unfold F_Flow_go_on
    exact (cb_cons (cs_set 1 sc_Flow_go_on.nd (c_bm PySem.F.plainAttrs_list PySem.F.slot_list_pop PySem.F.type_list_pop mt_popAt rfl isL_ok ok_popAt (c_fld ti_spare ts_spare rfl (hi_spare T) (hs_spare T) (c_var 0)) (ca_cons c_int ca_nil))) (cb_cons (cs_asg (c_mf D_Flow_reached b_Flow_reached T.c_Flow (by rw [T.hn]; decide +kernel) rfl hr (by decide) (takes_of rfl rfl rfl rfl) (c_var 0) (ca_cons (c_lst (ca_cons (c_var 1) ca_nil)) ca_nil)) (cg_tup rfl (cgs_cons (cg_name 2 sc_Flow_go_on.nd) (cgs_cons (cg_name 3 sc_Flow_go_on.nd) cgs_nil)))) (cb_cons (cs_set 4 sc_Flow_go_on.nd (c_ix rfl (hu_of hr) (c_callB (cr_minT rfl hr.units) ok_minT T.b_min PyProof.Rows.boot_min (ca_cons (c_comp [("goal", 5)] rfl sc_Flow_go_on.nd (ci_list (c_fld ti_wanted ts_wanted rfl (hi_wanted T) (hs_wanted T) (c_var 0)) rfl) (blk_of (by kernel_rfl)) (fun _ _ _ _ _ => (cg_name 5 sc_Flow_go_on.nd)) (fun _ _ _ _ _ => (cts_one (ct_in rfl (hu_of hr) (c_var 5) (c_var 2)))) (fun _ _ _ _ _ => (c_tup (ca_cons (c_ix rfl (hu_of hr) (c_var 2) (c_var 5)) (ca_cons (c_var 5) ca_nil))))) ca_nil)) c_int)) (cb_cons (cs_expr (c_remove rfl rfl (takes_of rfl rfl rfl rfl) (c_fld ti_wanted ts_wanted rfl (hi_wanted T) (hs_wanted T) (c_var 0)) (c_var 4))) (cb_one (cs_while (passes_of rfl) (ct_cmp (op_neD hr.units) ok_ne (c_var 4) (c_var 1)) (cb_cons (cs_expr (c_mf D_Flow_send b_Flow_send T.c_Flow (by rw [T.hn]; decide +kernel) rfl hr (by decide) (takes_of rfl rfl rfl rfl) (c_var 0) (ca_cons (c_ix rfl (hu_of hr) (c_var 3) (c_var 4)) (ca_cons (c_var 4) ca_nil)))) (cb_one (cs_set 4 sc_Flow_go_on.nd (c_ix rfl (hu_of hr) (c_var 3) (c_var 4)))))))))))
theorem sc_Flow___init__ : FnScope ["self", "web", "dots", "goals", "place"] ["self", "web", "dots", "goals"] (defScope (inClass (top 10) 0)) := ⟨rfl, rfl, rfl, by decide +kernel, rfl, by decide +kernel, by decide +kernel⟩
theorem b_Flow___init__ : BindsT "__init__" "Flow.__init__" (inClass (top 10) 0) ["self", "web", "dots", "goals"] := fun _ _ _ _ _ _ us hl => match us, hl with | [_, _, _, _], _ => rfl
def F_Flow___init__ : FS := (fSeq (fSetF ti_web ts_web (fVar 1) (fVar 0)) (fSeq (fSetF ti_steps ts_steps fDT (fVar 0)) (fSeq (fSetF ti_spare ts_spare (fComp (fList (fVar 2)) (gNm 4) (fB (f2 gNotIn (fVar 4) (fVar 3))) (fVar 4) [4]) (fVar 0)) (fSeq (fSetF ti_wanted ts_wanted (fComp (fList (fVar 3)) (gNm 4) (fB (f2 gNotIn (fVar 4) (fVar 2))) (fVar 4) [4]) (fVar 0)) (fWhile (fB (f2 gNe (fFld ti_spare ts_spare (fVar 0)) (fLst fNil))) (fDrop (fMth 0 1 G_Flow_go_on (fVar 0) fNil)))))))
def G_Flow___init__ : FD := runDef 5 F_Flow___init__
theorem D_Flow___init__ (T : Txt cf mg) (D_Flow_go_on : Mf P w cf mg base 0 "go_on" "Flow.go_on" (inClass (top 10) 3) ["self"] 3 G_Flow_go_on) : Mf P w cf mg base 0 "__init__" "Flow.__init__" (inClass (top 10) 0) ["self", "web", "dots", "goals"] 4 G_Flow___init__ :=
  mf_of T.r_Flow___init__ sc_Flow___init__ (fs := F_Flow___init__) (.inl rfl) fun _ _ _ _ _ _ _ hr => by
    unfold F_Flow___init__
    exact (cb_cons (cs_fld ti_web ts_web rfl (hi_web T) (hs_web T) (c_var 1) (c_var 0)) (cb_cons (cs_fld ti_steps ts_steps rfl (hi_steps T) (hs_steps T) c_dT (c_var 0)) (cb_cons (cs_fld ti_spare ts_spare rfl (hi_spare T) (hs_spare T) (c_comp [("place", 4)] rfl sc_Flow___init__.nd (ci_list (c_var 2) rfl) (blk_of (by kernel_rfl)) (fun _ _ _ _ _ => (cg_name 4 sc_Flow___init__.nd)) (fun _ _ _ _ _ => (cts_one (ct_notIn rfl (hu_of hr) (c_var 4) (c_var 3)))) (fun _ _ _ _ _ => (c_var 4))) (c_var 0)) (cb_cons (cs_fld ti_wanted ts_wanted rfl (hi_wanted T) (hs_wanted T) (c_comp [("place", 4)] rfl sc_Flow___init__.nd (ci_list (c_var 3) rfl) (blk_of (by kernel_rfl)) (fun _ _ _ _ _ => (cg_name 4 sc_Flow___init__.nd)) (fun _ _ _ _ _ => (cts_one (ct_notIn rfl (hu_of hr) (c_var 4) (c_var 2)))) (fun _ _ _ _ _ => (c_var 4))) (c_var 0)) (cb_one (cs_while (passes_of rfl) (ct_cmp (op_neD hr.units) ok_ne (c_fld ti_spare ts_spare rfl (hi_spare T) (hs_spare T) (c_var 0)) (c_lst ca_nil)) (cb_one (cs_expr (c_mf0 D_Flow_go_on b_Flow_go_on T.c_Flow (by rw [T.hn]; decide +kernel) rfl hr (by decide) (takes_of rfl rfl rfl rfl) (c_var 0))))))))))
theorem sc_dots_in : FnScope ["own", "piece", "standing", "place"] ["own", "piece", "standing"] (defScope (top 39)) := ⟨rfl, rfl, rfl, by decide +kernel, rfl, by decide +kernel, by decide +kernel⟩
theorem b_dots_in : BindsT "dots_in" "dots_in" (top 39) ["own", "piece", "standing"] := fun _ _ _ _ _ _ us hl => match us, hl with | [_, _, _], _ => rfl
def F_dots_in : FS := (fRet (fComp (fList (fVar 1)) (gNm 3) (fB (f2 gNe (f2 gIx (fVar 2) (fVar 3)) (f2 gIx (fVar 0) (fVar 3)))) (fVar 3) [3]))
def G_dots_in : FD := runDef 4 F_dots_in
theorem D_dots_in (T : Txt cf mg) : Df P w cf mg base "dots_in" (top 39) ["own", "piece", "standing"] 1 G_dots_in :=
  df_of T.r_dots_in sc_dots_in (fs := F_dots_in) (.inl rfl) fun _ _ _ _ _ _ _ hr => by
    unfold F_dots_in
    exact (cb_one (cs_ret (c_comp [("place", 3)] rfl sc_dots_in.nd (ci_list (c_var 1) rfl) (blk_of (by kernel_rfl)) (fun _ _ _ _ _ => (cg_name 3 sc_dots_in.nd)) (fun _ _ _ _ _ => (cts_one (ct_cmp (op_neD hr.units) ok_ne (c_ix rfl (hu_of hr) (c_var 2) (c_var 3)) (c_ix rfl (hu_of hr) (c_var 0) (c_var 3))))) (fun _ _ _ _ _ => (c_var 3)))))
theorem sc_spread : FnScope ["web", "start", "found", "rest", "at", "other"] ["web", "start"] (defScope (top 20)) := ⟨rfl, rfl, rfl, by decide +kernel, rfl, by decide +kernel, by decide +kernel⟩
theorem b_spread : BindsT "spread" "spread" (top 20) ["web", "start"] := fun _ _ _ _ _ _ us hl => match us, hl with | [_, _], _ => rfl
def F_spread : FS := (fSeq (fAsgG (fTup (fCons (fDisp (fpCons (fVar 1) (fC (.int 0)) fpNil)) (fCons (fLst (fCons (fVar 1) fNil)) (fCons (fC (.int 0)) fNil)))) (gTp 3 (gsCons (gNm 2) (gsCons (gNm 3) (gsCons (gNm 4) gsNil))))) (fSeq (fWhile (fB (f2 gLtA (fVar 4) (fCb gLen (fCons (fVar 3) fNil)))) (fSeq (fFor (fList (f2 gIx (fFld ti_near ts_near (fVar 0)) (f2 gIx (fVar 3) (fVar 4)))) (gNm 5) (fIfS (fB (f2 gNotIn (fVar 5) (fVar 2))) (fSeq (fSub (f2 gAdd (f2 gIx (fVar 2) (f2 gIx (fVar 3) (fVar 4))) (fC (.int 1))) (fVar 2) (fVar 5)) (fDrop (fMeth isL gAppend (fVar 3) (fCons (fVar 5) fNil)))) fNx)) (fAug 4 (gI0 fun i j => .int (i + j)) (fC (.int 1))))) (fRet (fVar 2))))
def G_spread : FD := runDef 6 F_spread
theorem D_spread (T : Txt cf mg) : Df P w cf mg base "spread" (top 20) ["web", "start"] 1 G_spread :=
  df_of T.r_spread sc_spread (fs := F_spread) (.inl rfl) fun _ _ _ _ _ _ _ hr => by
    unfold F_spread
    exact (cb_cons (by first | exact cs_par3 rfl sc_spread.nd (ca_cons (c_disp (cp_cons (c_var 1) c_int cp_nil)) (ca_cons (c_lst (ca_cons (c_var 1) ca_nil)) (ca_cons c_int ca_nil))) | exact cs_asg (c_tup (ca_cons (c_disp (cp_cons (c_var 1) c_int cp_nil)) (ca_cons (c_lst (ca_cons (c_var 1) ca_nil)) (ca_cons c_int ca_nil)))) (cg_tup rfl (cgs_cons (cg_name 2 sc_spread.nd) (cgs_cons (cg_name 3 sc_spread.nd) (cgs_cons (cg_name 4 sc_spread.nd) cgs_nil))))) (cb_cons (cs_while (passes_of rfl) (ct_cmp (op_ltA hr.units) ok_ltA (c_var 4) (c_callB call_lenAll ok_len T.b_len PySem.boot_len (ca_cons (c_var 3) ca_nil))) (cb_cons (cs_for (passes_of rfl) rfl (ci_list (c_ix rfl (hu_of hr) (c_fld ti_near ts_near rfl (hi_near T) (hs_near T) (c_var 0)) (c_ix rfl (hu_of hr) (c_var 3) (c_var 4))) rfl) (cg_name 5 sc_spread.nd) (cb_one (cs_if (ct_notIn rfl (hu_of hr) (c_var 5) (c_var 2)) (cb_cons (cs_sub rfl (hu_of hr) (c_op op_addAll ok_addAll (c_ix rfl (hu_of hr) (c_var 2) (c_ix rfl (hu_of hr) (c_var 3) (c_var 4))) c_int) (c_var 2) (c_var 5)) (cb_one (cs_expr (c_bm PySem.F.plainAttrs_list PySem.F.slot_list_append PySem.F.type_list_append mt_append rfl isL_ok ok_append (c_var 3) (ca_cons (c_var 5) ca_nil))))) cb_nil))) (cb_one (cs_aug 4 sc_spread.nd iop_add ok_iadd c_int)))) (cb_one (cs_ret (c_var 2)))))
theorem sc_pieces : FnScope ["web", "found", "known", "start", "piece"] ["web"] (defScope (top 21)) := ⟨rfl, rfl, rfl, by decide +kernel, rfl, by decide +kernel, by decide +kernel⟩
theorem b_pieces : BindsT "pieces" "pieces" (top 21) ["web"] := fun _ _ _ _ _ _ us hl => match us, hl with | [_], _ => rfl
theorem bk_pieces_web : BindsKw "pieces" "pieces" (top 21) ["web"] ["web"] 0 (perm [0]) := fun _ _ _ _ _ _ us ws h1 h2 => match us, ws, h1, h2 with | [], [_], _, _ => rfl
def F_pieces : FS := (fSeq (fAsgG (fTup (fCons (fLst fNil) (fCons fDK fNil))) (gTp 2 (gsCons (gNm 1) (gsCons (gNm 2) gsNil)))) (fSeq (fFor (fRange1 (fCons (fFld ti_many ts_many (fVar 0)) fNil)) (gNm 3) (fIfS (fB (f2 gNotIn (fVar 3) (fVar 2))) (fSeq (fSet 4 (fCall 2 G_spread (fCons (fVar 0) (fCons (fVar 3) fNil)))) (fSeq (fDrop (fMeth isDk gUpd (fVar 2) (fCons (fVar 4) fNil))) (fDrop (fMeth isL gAppend (fVar 1) (fCons (fCb gTuple (fCons (fCb gSorted (fCons (fCb gList (fCons (fVar 4) fNil)) fNil)) fNil)) fNil))))) fNx)) (fRet (fCb gTuple (fCons (fVar 1) fNil)))))
def G_pieces : FD := runDef 5 F_pieces
theorem D_pieces (T : Txt cf mg) (D_spread : Df P w cf mg base "spread" (top 20) ["web", "start"] 1 G_spread) : Df P w cf mg base "pieces" (top 21) ["web"] 2 G_pieces :=
  df_of T.r_pieces sc_pieces (fs := F_pieces) (.inl rfl) fun _ _ _ _ _ _ _ hr => by
    unfold F_pieces
    exact (cb_cons (by first | exact cs_par2 rfl sc_pieces.nd (ca_cons (c_lst ca_nil) (ca_cons c_dK ca_nil)) | exact cs_asg (c_tup (ca_cons (c_lst ca_nil) (ca_cons c_dK ca_nil))) (cg_tup rfl (cgs_cons (cg_name 1 sc_pieces.nd) (cgs_cons (cg_name 2 sc_pieces.nd) cgs_nil)))) (cb_cons (cs_for (passes_of rfl) rfl (ci_range1 rfl T.b_range (ca_cons (c_fld ti_many ts_many rfl (hi_many T) (hs_many T) (c_var 0)) ca_nil)) (cg_name 3 sc_pieces.nd) (cb_one (cs_if (ct_notIn rfl (hu_of hr) (c_var 3) (c_var 2)) (cb_cons (cs_set 4 sc_pieces.nd (c_df D_spread b_spread rfl hr (by decide) (takes_of rfl rfl rfl rfl) (ca_cons (c_var 0) (ca_cons (c_var 3) ca_nil)))) (cb_cons (cs_expr (c_bm PySem.F.plainAttrs_dict PySem.F.slot_dict_update PySem.F.type_dict_update mt_updK rfl isDk_ok ok_upd (c_var 2) (ca_cons (c_var 4) ca_nil))) (cb_one (cs_expr (c_bm PySem.F.plainAttrs_list PySem.F.slot_list_append PySem.F.type_list_append mt_append rfl isL_ok ok_append (c_var 1) (ca_cons (c_callTy call_tuple_of ok_tuple T.b_tuple PyProof.Rows.boot_tuple (ca_cons (c_callB call_sorted ok_sorted T.b_sorted PyProof.Rows.boot_sorted (ca_cons (c_callTy (call_listAll rfl) ok_listAll T.b_list PyProof.Rows.boot_list (ca_cons (c_var 4) ca_nil)) ca_nil)) ca_nil)) ca_nil)))))) cb_nil))) (cb_one (cs_ret (c_callTy call_tuple_of ok_tuple T.b_tuple PyProof.Rows.boot_tuple (ca_cons (c_var 1) ca_nil))))))
theorem sc_sides_in : FnScope ["web", "piece", "steps", "found", "place", "other"] ["web", "piece"] (defScope (top 22)) := ⟨rfl, rfl, rfl, by decide +kernel, rfl, by decide +kernel, by decide +kernel⟩
theorem b_sides_in : BindsT "sides_in" "sides_in" (top 22) ["web", "piece"] := fun _ _ _ _ _ _ us hl => match us, hl with | [_, _], _ => rfl
def F_sides_in : FS := (fSeq (fSet 2 (fCall 2 G_spread (fCons (fVar 0) (fCons (f2 gIx (fVar 1) (fC (.int 0))) fNil)))) (fSeq (fSet 3 (fDComp (fList (fVar 1)) (gNm 4) fYes (fVar 4) (f2 gMod (f2 gIx (fVar 2) (fVar 4)) (fC (.int 2))) [4])) (fSeq (fFor (fList (fVar 1)) (gNm 4) (fIfS (fB (fCb gAny (fCons (fComp (fList (f2 gIx (fFld ti_near ts_near (fVar 0)) (fVar 4))) (gNm 5) fYes (f2 gEq (f2 gIx (fVar 3) (fVar 5)) (f2 gIx (fVar 3) (fVar 4))) [5]) fNil))) (fRet (fC .non)) fNx)) (fRet (fVar 3)))))
def G_sides_in : FD := runDef 6 F_sides_in
theorem D_sides_in (T : Txt cf mg) (D_spread : Df P w cf mg base "spread" (top 20) ["web", "start"] 1 G_spread) : Df P w cf mg base "sides_in" (top 22) ["web", "piece"] 2 G_sides_in :=
  df_of T.r_sides_in sc_sides_in (fs := F_sides_in) (.inl rfl) fun _ _ _ _ _ _ _ hr => by
    unfold F_sides_in
    exact (cb_cons (cs_set 2 sc_sides_in.nd (c_df D_spread b_spread rfl hr (by decide) (takes_of rfl rfl rfl rfl) (ca_cons (c_var 0) (ca_cons (c_ix rfl (hu_of hr) (c_var 1) c_int) ca_nil)))) (cb_cons (cs_set 3 sc_sides_in.nd (c_dcomp [("place", 4)] rfl sc_sides_in.nd (ci_list (c_var 1) rfl) (blk_of (by kernel_rfl)) (fun _ _ _ _ _ => (cg_name 4 sc_sides_in.nd)) (fun _ _ _ _ _ => cts_nil) (fun _ _ _ _ _ => (c_var 4)) (fun _ _ _ _ _ => (c_op op_mod ok_mod (c_ix rfl (hu_of hr) (c_var 2) (c_var 4)) c_int)))) (cb_cons (cs_for (passes_of rfl) rfl (ci_list (c_var 1) rfl) (cg_name 4 sc_sides_in.nd) (cb_one (cs_if (ct_val (c_callB (cr_any rfl) ok_any T.b_any PyProof.Rows.boot_any (ca_cons (c_comp [("other", 5)] rfl sc_sides_in.nd (ci_list (c_ix rfl (hu_of hr) (c_fld ti_near ts_near rfl (hi_near T) (hs_near T) (c_var 0)) (c_var 4)) rfl) (blk_of (by kernel_rfl)) (fun _ _ _ _ _ => (cg_name 5 sc_sides_in.nd)) (fun _ _ _ _ _ => cts_nil) (fun _ _ _ _ _ => (c_cmp (op_eqD hr.units) ok_eq (c_ix rfl (hu_of hr) (c_var 3) (c_var 5)) (c_ix rfl (hu_of hr) (c_var 3) (c_var 4))))) ca_nil))) (cb_one (cs_ret c_non)) cb_nil))) (cb_one (cs_ret (c_var 3))))))
theorem sc_all_dots : FnScope ["web", "standing", "found", "piece"] ["web", "standing"] (defScope (top 48)) := ⟨rfl, rfl, rfl, by decide +kernel, rfl, by decide +kernel, by decide +kernel⟩
theorem b_all_dots : BindsT "all_dots" "all_dots" (top 48) ["web", "standing"] := fun _ _ _ _ _ _ us hl => match us, hl with | [_, _], _ => rfl
def F_all_dots : FS := (fSeq (fSet 2 (fLst fNil)) (fSeq (fFor (fList (fCall 1 G_pieces (fCons (fVar 0) fNil))) (gNm 3) (fDrop (fMeth isL gExtend (fVar 2) (fCons (fCall 3 G_dots_in (fCons (fCall 2 G_sides_in (fCons (fVar 0) (fCons (fVar 3) fNil))) (fCons (fVar 3) (fCons (fVar 1) fNil)))) fNil)))) (fRet (fVar 2))))
def G_all_dots : FD := runDef 4 F_all_dots
theorem D_all_dots (T : Txt cf mg) (D_dots_in : Df P w cf mg base "dots_in" (top 39) ["own", "piece", "standing"] 1 G_dots_in) (D_pieces : Df P w cf mg base "pieces" (top 21) ["web"] 2 G_pieces) (D_sides_in : Df P w cf mg base "sides_in" (top 22) ["web", "piece"] 2 G_sides_in) : Df P w cf mg base "all_dots" (top 48) ["web", "standing"] 3 G_all_dots :=
  df_of T.r_all_dots sc_all_dots (fs := F_all_dots) (.inl rfl) fun _ _ _ _ _ _ _ hr => by
    unfold F_all_dots
    exact (cb_cons (cs_set 2 sc_all_dots.nd (c_lst ca_nil)) (cb_cons (cs_for (passes_of rfl) rfl (ci_list (c_df D_pieces b_pieces rfl hr (by decide) (takes_of rfl rfl rfl rfl) (ca_cons (c_var 0) ca_nil)) rfl) (cg_name 3 sc_all_dots.nd) (cb_one (cs_expr (c_bm PySem.F.plainAttrs_list PySem.F.slot_list_extend PySem.F.type_list_extend mt_extend rfl isL_ok ok_extend (c_var 2) (ca_cons (c_df D_dots_in b_dots_in rfl hr (by decide) (takes_of rfl rfl rfl rfl) (ca_cons (c_df D_sides_in b_sides_in rfl hr (by decide) (takes_of rfl rfl rfl rfl) (ca_cons (c_var 0) (ca_cons (c_var 3) ca_nil))) (ca_cons (c_var 3) (ca_cons (c_var 1) ca_nil)))) ca_nil))))) (cb_one (cs_ret (c_var 2)))))
theorem sc_need_standing : FnScope ["web", "standing", "place", "coin"] ["web", "standing"] (defScope (top 27)) := ⟨rfl, rfl, rfl, by decide +kernel, rfl, by decide +kernel, by decide +kernel⟩
theorem b_need_standing : BindsT "need_standing" "need_standing" (top 27) ["web", "standing"] := fun _ _ _ _ _ _ us hl => match us, hl with | [_, _], _ => rfl
def F_need_standing : FS := (fSeq (fIfS (fOr (fNot (fB (fCall 1 G_is_list (fCons (fVar 1) fNil)))) (fB (f2 gNe (fCb gLen (fCons (fVar 1) fNil)) (fFld ti_many ts_many (fVar 0))))) fEr fNx) (fFor (fEnum (fVar 1)) (gTp 2 (gsCons (gNm 2) (gsCons (gNm 3) gsNil))) (fIfS (fNot (fB (fCall 3 G_is_among (fCons (fVar 3) (fCons (fC (.int 0)) (fCons (fC (.int 1)) fNil)))))) fEr fNx)))
def G_need_standing : FD := runDef 4 F_need_standing
theorem D_need_standing (T : Txt cf mg) (D_is_among : Df P w cf mg base "is_among" (top 15) ["value", "least", "most"] 2 G_is_among) (D_is_list : Df P w cf mg base "is_list" (top 16) ["value"] 1 G_is_list) : Df P w cf mg base "need_standing" (top 27) ["web", "standing"] 3 G_need_standing :=
  df_of T.r_need_standing sc_need_standing (fs := F_need_standing) (.inl rfl) fun _ _ _ _ _ _ _ hr => by
    unfold F_need_standing
    exact (cb_cons (cs_if (CW.ct (cw_or (ct_not (ct_val (c_df D_is_list b_is_list rfl hr (by decide) (takes_of rfl rfl rfl rfl) (ca_cons (c_var 1) ca_nil)))) (cw_or1 (ct_cmp (op_neD hr.units) ok_ne (c_callB call_lenAll ok_len T.b_len PySem.boot_len (ca_cons (c_var 1) ca_nil)) (c_fld ti_many ts_many rfl (hi_many T) (hs_many T) (c_var 0)))))) (cb_one cs_never) cb_nil) (cb_one (cs_for (passes_of rfl) rfl (ci_enum rfl T.b_enumerate (c_var 1)) (cg_tup rfl (cgs_cons (cg_name 2 sc_need_standing.nd) (cgs_cons (cg_name 3 sc_need_standing.nd) cgs_nil))) (cb_one (cs_if (ct_not (ct_val (c_df D_is_among b_is_among rfl hr (by decide) (takes_of rfl rfl rfl rfl) (ca_cons (c_var 3) (ca_cons c_int (ca_cons c_int ca_nil)))))) (cb_one cs_never) cb_nil)))))
theorem sc_count_in : FnScope ["web", "piece", "standing", "own", "place"] ["web", "piece", "standing"] (defScope (top 35)) := ⟨rfl, rfl, rfl, by decide +kernel, rfl, by decide +kernel, by decide +kernel⟩
theorem b_count_in : BindsT "count_in" "count_in" (top 35) ["web", "piece", "standing"] := fun _ _ _ _ _ _ us hl => match us, hl with | [_, _, _], _ => rfl
def F_count_in : FS := (fSeq (fSet 3 (fCall 2 G_sides_in (fCons (fVar 0) (fCons (fVar 1) fNil)))) (fSeq (fIfS (fB (f2 gIsA (fVar 3) (fC .non))) (fRet (f2 gMod (fCb gSum (fCons (fComp (fList (fVar 1)) (gNm 4) fYes (f2 gIx (fVar 2) (fVar 4)) [4]) fNil)) (fC (.int 2)))) fNx) (fRet (fCb gLen (fCons (fComp (fList (fVar 1)) (gNm 4) (fB (f2 gNe (f2 gIx (fVar 2) (fVar 4)) (f2 gIx (fVar 3) (fVar 4)))) (fVar 4) [4]) fNil)))))
def G_count_in : FD := runDef 5 F_count_in
theorem D_count_in (T : Txt cf mg) (D_sides_in : Df P w cf mg base "sides_in" (top 22) ["web", "piece"] 2 G_sides_in) : Df P w cf mg base "count_in" (top 35) ["web", "piece", "standing"] 3 G_count_in :=
  df_of T.r_count_in sc_count_in (fs := F_count_in) (.inl rfl) fun _ _ _ _ _ _ _ hr => by
    unfold F_count_in
    exact (cb_cons (cs_set 3 sc_count_in.nd (c_df D_sides_in b_sides_in rfl hr (by decide) (takes_of rfl rfl rfl rfl) (ca_cons (c_var 0) (ca_cons (c_var 1) ca_nil)))) (cb_cons (cs_if (ct_cmp op_isA ok_isA (c_var 3) c_non) (cb_one (cs_ret (c_op op_mod ok_mod (c_callB (cr_sum rfl) ok_sum T.b_sum PyProof.Rows.boot_sum (ca_cons (c_comp [("place", 4)] rfl sc_count_in.nd (ci_list (c_var 1) rfl) (blk_of (by kernel_rfl)) (fun _ _ _ _ _ => (cg_name 4 sc_count_in.nd)) (fun _ _ _ _ _ => cts_nil) (fun _ _ _ _ _ => (c_ix rfl (hu_of hr) (c_var 2) (c_var 4)))) ca_nil)) c_int))) cb_nil) (cb_one (cs_ret (c_callB call_lenAll ok_len T.b_len PySem.boot_len (ca_cons (c_comp [("place", 4)] rfl sc_count_in.nd (ci_list (c_var 1) rfl) (blk_of (by kernel_rfl)) (fun _ _ _ _ _ => (cg_name 4 sc_count_in.nd)) (fun _ _ _ _ _ => (cts_one (ct_cmp (op_neD hr.units) ok_ne (c_ix rfl (hu_of hr) (c_var 2) (c_var 4)) (c_ix rfl (hu_of hr) (c_var 3) (c_var 4))))) (fun _ _ _ _ _ => (c_var 4))) ca_nil))))))
theorem sc_counts : FnScope ["web", "standing", "piece"] ["web", "standing"] (defScope (top 36)) := ⟨rfl, rfl, rfl, by decide +kernel, rfl, by decide +kernel, by decide +kernel⟩
theorem b_counts : BindsT "counts" "counts" (top 36) ["web", "standing"] := fun _ _ _ _ _ _ us hl => match us, hl with | [_, _], _ => rfl
theorem bk_counts_standing_web : BindsKw "counts" "counts" (top 36) ["web", "standing"] ["standing", "web"] 0 (perm [1, 0]) := fun _ _ _ _ _ _ us ws h1 h2 => match us, ws, h1, h2 with | [], [_, _], _, _ => rfl
def F_counts : FS := (fSeq (fDrop (fCall 2 G_need_standing (fCons (fVar 0) (fCons (fVar 1) fNil)))) (fRet (fCb gTuple (fCons (fComp (fList (fCall 1 G_pieces (fCons (fVar 0) fNil))) (gNm 2) fYes (fCall 3 G_count_in (fCons (fVar 0) (fCons (fVar 2) (fCons (fVar 1) fNil)))) [2]) fNil))))
def G_counts : FD := runDef 3 F_counts
theorem D_counts (T : Txt cf mg) (D_count_in : Df P w cf mg base "count_in" (top 35) ["web", "piece", "standing"] 3 G_count_in) (D_need_standing : Df P w cf mg base "need_standing" (top 27) ["web", "standing"] 3 G_need_standing) (D_pieces : Df P w cf mg base "pieces" (top 21) ["web"] 2 G_pieces) : Df P w cf mg base "counts" (top 36) ["web", "standing"] 4 G_counts :=
  df_of T.r_counts sc_counts (fs := F_counts) (.inl rfl) fun _ _ _ _ _ _ _ hr => by
    unfold F_counts
    exact (cb_cons (cs_expr (c_df D_need_standing b_need_standing rfl hr (by decide) (takes_of rfl rfl rfl rfl) (ca_cons (c_var 0) (ca_cons (c_var 1) ca_nil)))) (cb_one (cs_ret (c_callTy call_tuple_of ok_tuple T.b_tuple PyProof.Rows.boot_tuple (ca_cons (c_comp [("piece", 2)] rfl sc_counts.nd (ci_list (c_df D_pieces b_pieces rfl hr (by decide) (takes_of rfl rfl rfl rfl) (ca_cons (c_var 0) ca_nil)) rfl) (blk_of (by kernel_rfl)) (fun _ _ _ _ _ => (cg_name 2 sc_counts.nd)) (fun _ _ _ _ _ => cts_nil) (fun _ _ _ _ _ => (c_df D_count_in b_count_in rfl hr (by decide) takes0 (ca_cons (c_var 0) (ca_cons (c_var 2) (ca_cons (c_var 1) ca_nil)))))) ca_nil)))))
theorem sc_unlike_count : FnScope ["web", "one", "other", "near", "far", "number", "count"] ["web", "one", "other"] (defScope (top 37)) := ⟨rfl, rfl, rfl, by decide +kernel, rfl, by decide +kernel, by decide +kernel⟩
theorem b_unlike_count : BindsT "unlike_count" "unlike_count" (top 37) ["web", "one", "other"] := fun _ _ _ _ _ _ us hl => match us, hl with | [_, _, _], _ => rfl
def F_unlike_count : FS := (fSeq (fAsgG (fTup (fCons (fCall 2 G_counts (fCons (fVar 0) (fCons (fVar 1) fNil))) (fCons (fCall 2 G_counts (fCons (fVar 0) (fCons (fVar 2) fNil))) fNil))) (gTp 2 (gsCons (gNm 3) (gsCons (gNm 4) gsNil)))) (fSeq (fFor (fEnum (fVar 3)) (gTp 2 (gsCons (gNm 5) (gsCons (gNm 6) gsNil))) (fIfS (fB (f2 gNe (fVar 6) (f2 gIx (fVar 4) (fVar 5)))) (fRet (fTup (fCons (fVar 5) (fCons (fVar 6) (fCons (f2 gIx (fVar 4) (fVar 5)) fNil))))) fNx)) (fRet (fC .non))))
def G_unlike_count : FD := runDef 7 F_unlike_count
theorem D_unlike_count (T : Txt cf mg) (D_counts : Df P w cf mg base "counts" (top 36) ["web", "standing"] 4 G_counts) : Df P w cf mg base "unlike_count" (top 37) ["web", "one", "other"] 5 G_unlike_count :=
  df_of T.r_unlike_count sc_unlike_count (fs := F_unlike_count) (.inl rfl) fun _ _ _ _ _ _ _ hr => by
    unfold F_unlike_count
    exact (cb_cons (by first | exact cs_par2 rfl sc_unlike_count.nd (ca_cons (c_df D_counts b_counts rfl hr (by decide) (takes_of rfl rfl rfl rfl) (ca_cons (c_var 0) (ca_cons (c_var 1) ca_nil))) (ca_cons (c_df D_counts b_counts rfl hr (by decide) (takes_of rfl rfl rfl rfl) (ca_cons (c_var 0) (ca_cons (c_var 2) ca_nil))) ca_nil)) | exact cs_asg (c_tup (ca_cons (c_df D_counts b_counts rfl hr (by decide) (takes_of rfl rfl rfl rfl) (ca_cons (c_var 0) (ca_cons (c_var 1) ca_nil))) (ca_cons (c_df D_counts b_counts rfl hr (by decide) (takes_of rfl rfl rfl rfl) (ca_cons (c_var 0) (ca_cons (c_var 2) ca_nil))) ca_nil))) (cg_tup rfl (cgs_cons (cg_name 3 sc_unlike_count.nd) (cgs_cons (cg_name 4 sc_unlike_count.nd) cgs_nil)))) (cb_cons (cs_for (passes_of rfl) rfl (ci_enum rfl T.b_enumerate (c_var 3)) (cg_tup rfl (cgs_cons (cg_name 5 sc_unlike_count.nd) (cgs_cons (cg_name 6 sc_unlike_count.nd) cgs_nil))) (cb_one (cs_if (ct_cmp (op_neD hr.units) ok_ne (c_var 6) (c_ix rfl (hu_of hr) (c_var 4) (c_var 5))) (cb_one (cs_ret (c_tup (ca_cons (c_var 5) (ca_cons (c_var 6) (ca_cons (c_ix rfl (hu_of hr) (c_var 4) (c_var 5)) ca_nil)))))) cb_nil))) (cb_one (cs_ret c_non))))
theorem sc_need_like : FnScope ["web", "one", "other", "found"] ["web", "one", "other"] (defScope (top 45)) := ⟨rfl, rfl, rfl, by decide +kernel, rfl, by decide +kernel, by decide +kernel⟩
theorem b_need_like : BindsT "need_like" "need_like" (top 45) ["web", "one", "other"] := fun _ _ _ _ _ _ us hl => match us, hl with | [_, _, _], _ => rfl
def F_need_like : FS := (fSeq (fDrop (fCall 2 G_need_standing (fCons (fVar 0) (fCons (fVar 1) fNil)))) (fSeq (fDrop (fCall 2 G_need_standing (fCons (fVar 0) (fCons (fVar 2) fNil)))) (fSeq (fSet 3 (fCall 3 G_unlike_count (fCons (fVar 0) (fCons (fVar 1) (fCons (fVar 2) fNil))))) (fIfS (fB (f2 gNotA (fVar 3) (fC .non))) fEr fNx))))
def G_need_like : FD := runDef 4 F_need_like
theorem D_need_like (T : Txt cf mg) (D_need_standing : Df P w cf mg base "need_standing" (top 27) ["web", "standing"] 3 G_need_standing) (D_unlike_count : Df P w cf mg base "unlike_count" (top 37) ["web", "one", "other"] 5 G_unlike_count) : Df P w cf mg base "need_like" (top 45) ["web", "one", "other"] 6 G_need_like :=
  df_of T.r_need_like sc_need_like (fs := F_need_like) (.inl rfl) fun _ _ _ _ _ _ _ hr => by
    unfold F_need_like
    exact (cb_cons (cs_expr (c_df D_need_standing b_need_standing rfl hr (by decide) (takes_of rfl rfl rfl rfl) (ca_cons (c_var 0) (ca_cons (c_var 1) ca_nil)))) (cb_cons (cs_expr (c_df D_need_standing b_need_standing rfl hr (by decide) (takes_of rfl rfl rfl rfl) (ca_cons (c_var 0) (ca_cons (c_var 2) ca_nil)))) (cb_cons (cs_set 3 sc_need_like.nd (c_df D_unlike_count b_unlike_count rfl hr (by decide) (takes_of rfl rfl rfl rfl) (ca_cons (c_var 0) (ca_cons (c_var 1) (ca_cons (c_var 2) ca_nil))))) (cb_one (cs_if (ct_cmp op_notA ok_notA (c_var 3) c_non) (cb_one cs_never) cb_nil)))))
theorem sc_need_two_sided : FnScope ["web", "number", "piece"] ["web"] (defScope (top 25)) := ⟨rfl, rfl, rfl, by decide +kernel, rfl, by decide +kernel, by decide +kernel⟩
theorem b_need_two_sided : BindsT "need_two_sided" "need_two_sided" (top 25) ["web"] := fun _ _ _ _ _ _ us hl => match us, hl with | [_], _ => rfl
def F_need_two_sided : FS := (fFor (fEnum (fCall 1 G_pieces (fCons (fVar 0) fNil))) (gTp 2 (gsCons (gNm 1) (gsCons (gNm 2) gsNil))) (fIfS (fB (f2 gIsA (fCall 2 G_sides_in (fCons (fVar 0) (fCons (fVar 2) fNil))) (fC .non))) fEr fNx))
def G_need_two_sided : FD := runDef 3 F_need_two_sided
theorem D_need_two_sided (T : Txt cf mg) (D_pieces : Df P w cf mg base "pieces" (top 21) ["web"] 2 G_pieces) (D_sides_in : Df P w cf mg base "sides_in" (top 22) ["web", "piece"] 2 G_sides_in) : Df P w cf mg base "need_two_sided" (top 25) ["web"] 3 G_need_two_sided :=
  df_of T.r_need_two_sided sc_need_two_sided (fs := F_need_two_sided) (.inl rfl) fun _ _ _ _ _ _ _ hr => by
    unfold F_need_two_sided
    exact (cb_one (cs_for (passes_of rfl) rfl (ci_enum rfl T.b_enumerate (c_df D_pieces b_pieces rfl hr (by decide) (takes_of rfl rfl rfl rfl) (ca_cons (c_var 0) ca_nil))) (cg_tup rfl (cgs_cons (cg_name 1 sc_need_two_sided.nd) (cgs_cons (cg_name 2 sc_need_two_sided.nd) cgs_nil))) (cb_one (cs_if (ct_cmp op_isA ok_isA (c_df D_sides_in b_sides_in rfl hr (by decide) (takes_of rfl rfl rfl rfl) (ca_cons (c_var 0) (ca_cons (c_var 2) ca_nil))) c_non) (cb_one cs_never) cb_nil))))
theorem sc_need_short : FnScope ["web", "one", "other"] ["web", "one", "other"] (defScope (top 47)) := ⟨rfl, rfl, rfl, by decide +kernel, rfl, by decide +kernel, by decide +kernel⟩
theorem b_need_short : BindsT "need_short" "need_short" (top 47) ["web", "one", "other"] := fun _ _ _ _ _ _ us hl => match us, hl with | [_, _, _], _ => rfl
def F_need_short : FS := (fSeq (fDrop (fCall 2 G_need_standing (fCons (fVar 0) (fCons (fVar 1) fNil)))) (fSeq (fDrop (fCall 2 G_need_standing (fCons (fVar 0) (fCons (fVar 2) fNil)))) (fSeq (fDrop (fCall 1 G_need_two_sided (fCons (fVar 0) fNil))) (fDrop (fCall 3 G_need_like (fCons (fVar 0) (fCons (fVar 1) (fCons (fVar 2) fNil))))))))
def G_need_short : FD := runDef 3 F_need_short
theorem D_need_short (T : Txt cf mg) (D_need_like : Df P w cf mg base "need_like" (top 45) ["web", "one", "other"] 6 G_need_like) (D_need_standing : Df P w cf mg base "need_standing" (top 27) ["web", "standing"] 3 G_need_standing) (D_need_two_sided : Df P w cf mg base "need_two_sided" (top 25) ["web"] 3 G_need_two_sided) : Df P w cf mg base "need_short" (top 47) ["web", "one", "other"] 7 G_need_short :=
  df_of T.r_need_short sc_need_short (fs := F_need_short) (.inl rfl) fun _ _ _ _ _ _ _ hr => by
    unfold F_need_short
    exact (cb_cons (cs_expr (c_df D_need_standing b_need_standing rfl hr (by decide) (takes_of rfl rfl rfl rfl) (ca_cons (c_var 0) (ca_cons (c_var 1) ca_nil)))) (cb_cons (cs_expr (c_df D_need_standing b_need_standing rfl hr (by decide) (takes_of rfl rfl rfl rfl) (ca_cons (c_var 0) (ca_cons (c_var 2) ca_nil)))) (cb_cons (cs_expr (c_df D_need_two_sided b_need_two_sided rfl hr (by decide) (takes_of rfl rfl rfl rfl) (ca_cons (c_var 0) ca_nil))) (cb_one (cs_expr (c_df D_need_like b_need_like rfl hr (by decide) (takes_of rfl rfl rfl rfl) (ca_cons (c_var 0) (ca_cons (c_var 1) (ca_cons (c_var 2) ca_nil)))))))))
theorem sc_flow_of : FnScope ["web", "one", "other"] ["web", "one", "other"] (defScope (top 49)) := ⟨rfl, rfl, rfl, by decide +kernel, rfl, by decide +kernel, by decide +kernel⟩
theorem b_flow_of : BindsT "flow_of" "flow_of" (top 49) ["web", "one", "other"] := fun _ _ _ _ _ _ us hl => match us, hl with | [_, _, _], _ => rfl
def F_flow_of : FS := (fSeq (fDrop (fCall 3 G_need_short (fCons (fVar 0) (fCons (fVar 1) (fCons (fVar 2) fNil))))) (fRet (fMake (.ins 0 []) 4 G_Flow___init__ (fCons (fVar 0) (fCons (fCall 2 G_all_dots (fCons (fVar 0) (fCons (fVar 1) fNil))) (fCons (fCall 2 G_all_dots (fCons (fVar 0) (fCons (fVar 2) fNil))) fNil))))))
def G_flow_of : FD := runDef 3 F_flow_of
theorem D_flow_of (T : Txt cf mg) (D_Flow___init__ : Mf P w cf mg base 0 "__init__" "Flow.__init__" (inClass (top 10) 0) ["self", "web", "dots", "goals"] 4 G_Flow___init__) (D_all_dots : Df P w cf mg base "all_dots" (top 48) ["web", "standing"] 3 G_all_dots) (D_need_short : Df P w cf mg base "need_short" (top 47) ["web", "one", "other"] 7 G_need_short) : Df P w cf mg base "flow_of" (top 49) ["web", "one", "other"] 8 G_flow_of :=
  df_of T.r_flow_of sc_flow_of (fs := F_flow_of) (.inl rfl) fun _ _ _ _ _ _ _ hr => by
    unfold F_flow_of
    exact (cb_cons (cs_expr (c_df D_need_short b_need_short rfl hr (by decide) (takes_of rfl rfl rfl rfl) (ca_cons (c_var 0) (ca_cons (c_var 1) (ca_cons (c_var 2) ca_nil))))) (cb_one (cs_ret (c_mk (.ins 0 []) (.inl rfl) D_Flow___init__ T.m_Flow b_Flow___init__ rfl hr (by decide) (takes_of rfl rfl rfl rfl) (ca_cons (c_var 0) (ca_cons (c_df D_all_dots b_all_dots rfl hr (by decide) (takes_of rfl rfl rfl rfl) (ca_cons (c_var 0) (ca_cons (c_var 1) ca_nil))) (ca_cons (c_df D_all_dots b_all_dots rfl hr (by decide) (takes_of rfl rfl rfl rfl) (ca_cons (c_var 0) (ca_cons (c_var 2) ca_nil))) ca_nil)))))))
theorem sc_fewest : FnScope ["web", "one", "other"] ["web", "one", "other"] (defScope (top 50)) := ⟨rfl, rfl, rfl, by decide +kernel, rfl, by decide +kernel, by decide +kernel⟩
theorem b_fewest : BindsT "fewest" "fewest" (top 50) ["web", "one", "other"] := fun _ _ _ _ _ _ us hl => match us, hl with | [_, _, _], _ => rfl
theorem bk_fewest_other_one_web : BindsKw "fewest" "fewest" (top 50) ["web", "one", "other"] ["other", "one", "web"] 0 (perm [2, 1, 0]) := fun _ _ _ _ _ _ us ws h1 h2 => match us, ws, h1, h2 with | [], [_, _, _], _, _ => rfl
def F_fewest : FS := (fRet (fMth 0 1 G_Flow_total (fCall 3 G_flow_of (fCons (fVar 0) (fCons (fVar 1) (fCons (fVar 2) fNil)))) fNil))
def G_fewest : FD := runDef 3 F_fewest
theorem D_fewest (T : Txt cf mg) (D_Flow_total : Mf P w cf mg base 0 "total" "Flow.total" (inClass (top 10) 5) ["self"] 1 G_Flow_total) (D_flow_of : Df P w cf mg base "flow_of" (top 49) ["web", "one", "other"] 8 G_flow_of) : Df P w cf mg base "fewest" (top 50) ["web", "one", "other"] 9 G_fewest :=
  df_of T.r_fewest sc_fewest (fs := F_fewest) (.inl rfl) fun _ _ _ _ _ _ _ hr => by
    unfold F_fewest
    exact (cb_one (cs_ret (c_mf0 D_Flow_total b_Flow_total T.c_Flow (by rw [T.hn]; decide +kernel) rfl hr (by decide) (takes_of rfl rfl rfl rfl) (c_df D_flow_of b_flow_of rfl hr (by decide) (takes_of rfl rfl rfl rfl) (ca_cons (c_var 0) (ca_cons (c_var 1) (ca_cons (c_var 2) ca_nil)))))))
theorem sc_Flow_prices : FnScope ["self", "costs", "ahead", "place"] ["self"] (defScope (inClass (top 10) 6)) := ⟨rfl, rfl, rfl, by decide +kernel, rfl, by decide +kernel, by decide +kernel⟩
theorem b_Flow_prices : BindsT "prices" "Flow.prices" (inClass (top 10) 6) ["self"] := fun _ _ _ _ _ _ us hl => match us, hl with | [_], _ => rfl
def F_Flow_prices : FS := (fSeq (fAsgG (fMth 0 2 G_Flow_reached (fVar 0) (fCons (fLRg (fFld ti_many ts_many (fFld ti_web ts_web (fVar 0)))) fNil)) (gTp 2 (gsCons (gNm 1) (gsCons (gNm 2) gsNil)))) (fRet (fCb gTuple (fCons (fComp (fRange1 (fCons (fFld ti_many ts_many (fFld ti_web ts_web (fVar 0))) fNil)) (gNm 3) fYes (f2 gIx (fVar 1) (fVar 3)) [3]) fNil))))
def G_Flow_prices : FD := runDef 4 F_Flow_prices
theorem D_Flow_prices (T : Txt cf mg) (D_Flow_reached : Mf P w cf mg base 0 "reached" "Flow.reached" (inClass (top 10) 2) ["self", "starts"] 2 G_Flow_reached) : Mf P w cf mg base 0 "prices" "Flow.prices" (inClass (top 10) 6) ["self"] 3 G_Flow_prices :=
  mf_of T.r_Flow_prices sc_Flow_prices (fs := F_Flow_prices) (.inl rfl) fun _ _ _ _ _ _ _ hr => by
    unfold F_Flow_prices
    exact (cb_cons (cs_asg (c_mf D_Flow_reached b_Flow_reached T.c_Flow (by rw [T.hn]; decide +kernel) rfl hr (by decide) (takes_of rfl rfl rfl rfl) (c_var 0) (ca_cons (c_listRg rfl T.b_list T.b_range (c_fld ti_many ts_many rfl (hi_many T) (hs_many T) (c_fld ti_web ts_web rfl (hi_web T) (hs_web T) (c_var 0)))) ca_nil)) (cg_tup rfl (cgs_cons (cg_name 1 sc_Flow_prices.nd) (cgs_cons (cg_name 2 sc_Flow_prices.nd) cgs_nil)))) (cb_one (cs_ret (c_callTy call_tuple_of ok_tuple T.b_tuple PyProof.Rows.boot_tuple (ca_cons (c_comp [("place", 3)] rfl sc_Flow_prices.nd (ci_range1 rfl T.b_range (ca_cons (c_fld ti_many ts_many rfl (hi_many T) (hs_many T) (c_fld ti_web ts_web rfl (hi_web T) (hs_web T) (c_var 0))) ca_nil)) (blk_of (by kernel_rfl)) (fun _ _ _ _ _ => (cg_name 3 sc_Flow_prices.nd)) (fun _ _ _ _ _ => cts_nil) (fun _ _ _ _ _ => (c_ix rfl (hu_of hr) (c_var 1) (c_var 3)))) ca_nil)))))
theorem sc_prices : FnScope ["web", "one", "other"] ["web", "one", "other"] (defScope (top 52)) := ⟨rfl, rfl, rfl, by decide +kernel, rfl, by decide +kernel, by decide +kernel⟩
theorem b_prices : BindsT "prices" "prices" (top 52) ["web", "one", "other"] := fun _ _ _ _ _ _ us hl => match us, hl with | [_, _, _], _ => rfl
theorem bk_prices_other_one_web : BindsKw "prices" "prices" (top 52) ["web", "one", "other"] ["other", "one", "web"] 0 (perm [2, 1, 0]) := fun _ _ _ _ _ _ us ws h1 h2 => match us, ws, h1, h2 with | [], [_, _, _], _, _ => rfl
def F_prices : FS := (fRet (fMth 0 1 G_Flow_prices (fCall 3 G_flow_of (fCons (fVar 0) (fCons (fVar 1) (fCons (fVar 2) fNil)))) fNil))
def G_prices : FD := runDef 3 F_prices
theorem D_prices (T : Txt cf mg) (D_Flow_prices : Mf P w cf mg base 0 "prices" "Flow.prices" (inClass (top 10) 6) ["self"] 3 G_Flow_prices) (D_flow_of : Df P w cf mg base "flow_of" (top 49) ["web", "one", "other"] 8 G_flow_of) : Df P w cf mg base "prices" (top 52) ["web", "one", "other"] 9 G_prices :=
  df_of T.r_prices sc_prices (fs := F_prices) (.inl rfl) fun _ _ _ _ _ _ _ hr => by
    unfold F_prices
    exact (cb_one (cs_ret (c_mf0 D_Flow_prices b_Flow_prices T.c_Flow (by rw [T.hn]; decide +kernel) rfl hr (by decide) (takes_of rfl rfl rfl rfl) (c_df D_flow_of b_flow_of rfl hr (by decide) (takes_of rfl rfl rfl rfl) (ca_cons (c_var 0) (ca_cons (c_var 1) (ca_cons (c_var 2) ca_nil)))))))
theorem sc_dot_turns : FnScope ["web", "dots", "goals", "flow", "here", "found", "some", "one", "other", "place", "pair", "many"] ["web", "dots", "goals"] (defScope (top 40)) := ⟨rfl, rfl, rfl, by decide +kernel, rfl, by decide +kernel, by decide +kernel⟩
theorem b_dot_turns : BindsT "dot_turns" "dot_turns" (top 40) ["web", "dots", "goals"] := fun _ _ _ _ _ _ us hl => match us, hl with | [_, _, _], _ => rfl
def F_dot_turns : FS := (fSeq (fAsgG (fTup (fCons (fMake (.ins 0 []) 4 G_Flow___init__ (fCons (fVar 0) (fCons (fVar 1) (fCons (fVar 2) fNil)))) (fCons (fDComp (fList (fVar 1)) (gNm 9) fYes (fVar 9) (fC (.bl true)) [9]) (fCons (fLst fNil) fNil)))) (gTp 3 (gsCons (gNm 3) (gsCons (gNm 4) (gsCons (gNm 5) gsNil))))) (fSeq (fWhile (fB (f2 gGtA (fMth 0 1 G_Flow_total (fVar 3) fNil) (fC (.int 0)))) (fSeq (fLockS (fFld ti_steps ts_steps (fVar 3)) (fSet 6 (fComp (fItemsT (fFld ti_steps ts_steps (fVar 3))) (gTp 2 (gsCons (gNm 10) (gsCons (gNm 11) gsNil))) (fAnd (fB (f2 gGtA (fVar 11) (fC (.int 0)))) (fAnd (fB (f2 gIn (f2 gIx (fVar 10) (fC (.int 0))) (fVar 4))) (fB (f2 gNotIn (f2 gIx (fVar 10) (fC (.int 1))) (fVar 4))))) (fVar 10) [10, 11]))) (fSeq (fAsgG (f2 gIx (fVar 6) (fC (.int 0))) (gTp 2 (gsCons (gNm 7) (gsCons (gNm 8) gsNil)))) (fSeq (fDAug (gI0 fun i j => .int (i - j)) (fFld ti_steps ts_steps (fVar 3)) (fTup (fCons (fVar 7) (fCons (fVar 8) fNil))) (fC (.int 1))) (fSeq (fSub (fC (.bl true)) (fVar 4) (fVar 8)) (fSeq (fDel (fVar 4) (fVar 7)) (fDrop (fMeth isL gAppend (fVar 5) (fCons (fTup (fCons (fCb gMin2 (fCons (fVar 7) (fCons (fVar 8) fNil))) (fCons (fCb gMax2 (fCons (fVar 7) (fCons (fVar 8) fNil))) fNil))) fNil))))))))) (fRet (fVar 5))))
def G_dot_turns : FD := runDef 12 F_dot_turns
theorem D_dot_turns (T : Txt cf mg) (D_Flow___init__ : Mf P w cf mg base 0 "__init__" "Flow.__init__" (inClass (top 10) 0) ["self", "web", "dots", "goals"] 4 G_Flow___init__) (D_Flow_total : Mf P w cf mg base 0 "total" "Flow.total" (inClass (top 10) 5) ["self"] 1 G_Flow_total) : Df P w cf mg base "dot_turns" (top 40) ["web", "dots", "goals"] 6 G_dot_turns :=
  df_of T.r_dot_turns sc_dot_turns (fs := F_dot_turns) (.inl rfl) fun _ _ _ _ _ _ _ hr => by
    unfold F_dot_turns
    exact (cb_cons (by first | exact cs_par3 rfl sc_dot_turns.nd (ca_cons (c_mk (.ins 0 []) (.inl rfl) D_Flow___init__ T.m_Flow b_Flow___init__ rfl hr (by decide) (takes_of rfl rfl rfl rfl) (ca_cons (c_var 0) (ca_cons (c_var 1) (ca_cons (c_var 2) ca_nil)))) (ca_cons (c_dcomp [("place", 9)] rfl sc_dot_turns.nd (ci_list (c_var 1) rfl) (blk_of (by kernel_rfl)) (fun _ _ _ _ _ => (cg_name 9 sc_dot_turns.nd)) (fun _ _ _ _ _ => cts_nil) (fun _ _ _ _ _ => (c_var 9)) (fun _ _ _ _ _ => c_bl)) (ca_cons (c_lst ca_nil) ca_nil))) | exact cs_asg (c_tup (ca_cons (c_mk (.ins 0 []) (.inl rfl) D_Flow___init__ T.m_Flow b_Flow___init__ rfl hr (by decide) (takes_of rfl rfl rfl rfl) (ca_cons (c_var 0) (ca_cons (c_var 1) (ca_cons (c_var 2) ca_nil)))) (ca_cons (c_dcomp [("place", 9)] rfl sc_dot_turns.nd (ci_list (c_var 1) rfl) (blk_of (by kernel_rfl)) (fun _ _ _ _ _ => (cg_name 9 sc_dot_turns.nd)) (fun _ _ _ _ _ => cts_nil) (fun _ _ _ _ _ => (c_var 9)) (fun _ _ _ _ _ => c_bl)) (ca_cons (c_lst ca_nil) ca_nil)))) (cg_tup rfl (cgs_cons (cg_name 3 sc_dot_turns.nd) (cgs_cons (cg_name 4 sc_dot_turns.nd) (cgs_cons (cg_name 5 sc_dot_turns.nd) cgs_nil))))) (cb_cons (cs_while (passes_of rfl) (ct_cmp (op_gtA hr.units) ok_gtA (c_mf0 D_Flow_total b_Flow_total T.c_Flow (by rw [T.hn]; decide +kernel) rfl hr (by decide) (takes_of rfl rfl rfl rfl) (c_var 3)) c_int) (cb_cons (cs_lock (fFld ti_steps ts_steps (fVar 3)) (cs_setComp 6 [("pair", 10), ("many", 11)] rfl sc_dot_turns.nd (ci_itemsT (c_fld ti_steps ts_steps rfl (hi_steps T) (hs_steps T) (c_var 3))) (blk_of (by kernel_rfl)) (fun _ _ _ _ _ => (cg_tup rfl (cgs_cons (cg_name 10 sc_dot_turns.nd) (cgs_cons (cg_name 11 sc_dot_turns.nd) cgs_nil)))) (fun _ _ _ _ _ => (cts_one (CW.ct (cw_and (ct_cmp (op_gtA hr.units) ok_gtA (c_var 11) c_int) (cw_and (ct_in rfl (hu_of hr) (c_ix rfl (hu_of hr) (c_var 10) c_int) (c_var 4)) (cw_and1 (ct_notIn rfl (hu_of hr) (c_ix rfl (hu_of hr) (c_var 10) c_int) (c_var 4)))))))) (fun _ _ _ _ _ => (c_var 10)) (sw_true rfl rfl rfl (by decide +kernel)))) (cb_cons (cs_asg (c_ix rfl (hu_of hr) (c_var 6) c_int) (cg_tup rfl (cgs_cons (cg_name 7 sc_dot_turns.nd) (cgs_cons (cg_name 8 sc_dot_turns.nd) cgs_nil)))) (cb_cons (cs_daug (hu_of hr) in_sub ok_inSub (c_fld ti_steps ts_steps rfl (hi_steps T) (hs_steps T) (c_var 3)) (c_tup (ca_cons (c_var 7) (ca_cons (c_var 8) ca_nil))) c_int) (cb_cons (cs_sub rfl (hu_of hr) c_bl (c_var 4) (c_var 8)) (cb_cons (cs_del (c_var 4) (c_var 7)) (cb_one (cs_expr (c_bm PySem.F.plainAttrs_list PySem.F.slot_list_append PySem.F.type_list_append mt_append rfl isL_ok ok_append (c_var 5) (ca_cons (c_tup (ca_cons (c_callB (call_min2 rfl) ok_min2 T.b_min PyProof.Rows.boot_min (ca_cons (c_var 7) (ca_cons (c_var 8) ca_nil))) (ca_cons (c_callB (call_max2 rfl) ok_max2 T.b_max PyProof.Rows.boot_max (ca_cons (c_var 7) (ca_cons (c_var 8) ca_nil))) ca_nil))) ca_nil)))))))))) (cb_one (cs_ret (c_var 5)))))
theorem sc_shortest_row : FnScope ["web", "one", "other"] ["web", "one", "other"] (defScope (top 51)) := ⟨rfl, rfl, rfl, by decide +kernel, rfl, by decide +kernel, by decide +kernel⟩
theorem b_shortest_row : BindsT "shortest_row" "shortest_row" (top 51) ["web", "one", "other"] := fun _ _ _ _ _ _ us hl => match us, hl with | [_, _, _], _ => rfl
theorem bk_shortest_row_other_one_web : BindsKw "shortest_row" "shortest_row" (top 51) ["web", "one", "other"] ["other", "one", "web"] 0 (perm [2, 1, 0]) := fun _ _ _ _ _ _ us ws h1 h2 => match us, ws, h1, h2 with | [], [_, _, _], _, _ => rfl
def F_shortest_row : FS := (fSeq (fDrop (fCall 3 G_need_short (fCons (fVar 0) (fCons (fVar 1) (fCons (fVar 2) fNil))))) (fRet (fCb gTuple (fCons (fCall 3 G_dot_turns (fCons (fVar 0) (fCons (fCall 2 G_all_dots (fCons (fVar 0) (fCons (fVar 1) fNil))) (fCons (fCall 2 G_all_dots (fCons (fVar 0) (fCons (fVar 2) fNil))) fNil)))) fNil))))
def G_shortest_row : FD := runDef 3 F_shortest_row
theorem D_shortest_row (T : Txt cf mg) (D_all_dots : Df P w cf mg base "all_dots" (top 48) ["web", "standing"] 3 G_all_dots) (D_dot_turns : Df P w cf mg base "dot_turns" (top 40) ["web", "dots", "goals"] 6 G_dot_turns) (D_need_short : Df P w cf mg base "need_short" (top 47) ["web", "one", "other"] 7 G_need_short) : Df P w cf mg base "shortest_row" (top 51) ["web", "one", "other"] 8 G_shortest_row :=
  df_of T.r_shortest_row sc_shortest_row (fs := F_shortest_row) (.inl rfl) fun _ _ _ _ _ _ _ hr => by
    unfold F_shortest_row
    exact (cb_cons (cs_expr (c_df D_need_short b_need_short rfl hr (by decide) (takes_of rfl rfl rfl rfl) (ca_cons (c_var 0) (ca_cons (c_var 1) (ca_cons (c_var 2) ca_nil))))) (cb_one (cs_ret (c_callTy call_tuple_of ok_tuple T.b_tuple PyProof.Rows.boot_tuple (ca_cons (c_df D_dot_turns b_dot_turns rfl hr (by decide) (takes_of rfl rfl rfl rfl) (ca_cons (c_var 0) (ca_cons (c_df D_all_dots b_all_dots rfl hr (by decide) (takes_of rfl rfl rfl rfl) (ca_cons (c_var 0) (ca_cons (c_var 1) ca_nil))) (ca_cons (c_df D_all_dots b_all_dots rfl hr (by decide) (takes_of rfl rfl rfl rfl) (ca_cons (c_var 0) (ca_cons (c_var 2) ca_nil))) ca_nil)))) ca_nil)))))
theorem sc_fewest_paper : FnScope ["web", "one", "other"] ["web", "one", "other"] (defScope (top 63)) := ⟨rfl, rfl, rfl, by decide +kernel, rfl, by decide +kernel, by decide +kernel⟩
theorem b_fewest_paper : BindsT "fewest_paper" "fewest_paper" (top 63) ["web", "one", "other"] := fun _ _ _ _ _ _ us hl => match us, hl with | [_, _, _], _ => rfl
theorem bk_fewest_paper_other_one_web : BindsKw "fewest_paper" "fewest_paper" (top 63) ["web", "one", "other"] ["other", "one", "web"] 0 (perm [2, 1, 0]) := fun _ _ _ _ _ _ us ws h1 h2 => match us, ws, h1, h2 with | [], [_, _, _], _, _ => rfl
def F_fewest_paper : FS := (fRet (fTup (fCons (fC (.str "fewest")) (fCons (fCall 3 G_shortest_row (fCons (fVar 0) (fCons (fVar 1) (fCons (fVar 2) fNil)))) (fCons (fCall 3 G_prices (fCons (fVar 0) (fCons (fVar 1) (fCons (fVar 2) fNil)))) fNil)))))
def G_fewest_paper : FD := runDef 3 F_fewest_paper
theorem D_fewest_paper (T : Txt cf mg) (D_prices : Df P w cf mg base "prices" (top 52) ["web", "one", "other"] 9 G_prices) (D_shortest_row : Df P w cf mg base "shortest_row" (top 51) ["web", "one", "other"] 8 G_shortest_row) : Df P w cf mg base "fewest_paper" (top 63) ["web", "one", "other"] 10 G_fewest_paper :=
  df_of T.r_fewest_paper sc_fewest_paper (fs := F_fewest_paper) (.inl rfl) fun _ _ _ _ _ _ _ hr => by
    unfold F_fewest_paper
    exact (cb_one (cs_ret (c_tup (ca_cons (c_gs T.k_FEWEST) (ca_cons (c_df D_shortest_row b_shortest_row rfl hr (by decide) (takes_of rfl rfl rfl rfl) (ca_cons (c_var 0) (ca_cons (c_var 1) (ca_cons (c_var 2) ca_nil)))) (ca_cons (c_df D_prices b_prices rfl hr (by decide) (takes_of rfl rfl rfl rfl) (ca_cons (c_var 0) (ca_cons (c_var 1) (ca_cons (c_var 2) ca_nil)))) ca_nil))))))
theorem sc_are_prices : FnScope ["web", "value", "price", "one", "other"] ["web", "value"] (defScope (top 61)) := ⟨rfl, rfl, rfl, by decide +kernel, rfl, by decide +kernel, by decide +kernel⟩
theorem b_are_prices : BindsT "are_prices" "are_prices" (top 61) ["web", "value"] := fun _ _ _ _ _ _ us hl => match us, hl with | [_, _], _ => rfl
def F_are_prices : FS := (fSeq (fIfS (fOr (fNot (fB (fIsi "tuple" (fVar 1)))) (fOr (fB (f2 gNe (fCb gLen (fCons (fVar 1) fNil)) (fFld ti_many ts_many (fVar 0)))) (fNot (fB (fCb gAll (fCons (fComp (fList (fVar 1)) (gNm 2) fYes (fCall 1 G_is_whole (fCons (fVar 2) fNil)) [2]) fNil)))))) (fRet (fC (.bl false))) fNx) (fRet (fCb gAll (fCons (fComp (fList (fFld ti_ties ts_ties (fVar 0))) (gTp 2 (gsCons (gNm 3) (gsCons (gNm 4) gsNil))) fYes (f2 gLeA (fCb gAbs (fCons (f2 gSub (f2 gIx (fVar 1) (fVar 3)) (f2 gIx (fVar 1) (fVar 4))) fNil)) (fC (.int 1))) [3, 4]) fNil))))
def G_are_prices : FD := runDef 5 F_are_prices
theorem D_are_prices (T : Txt cf mg) (D_is_whole : Df P w cf mg base "is_whole" (top 14) ["value"] 1 G_is_whole) : Df P w cf mg base "are_prices" (top 61) ["web", "value"] 2 G_are_prices :=
  df_of T.r_are_prices sc_are_prices (fs := F_are_prices) (.inl rfl) fun _ _ _ _ _ _ _ hr => by
    unfold F_are_prices
    exact (cb_cons (cs_if (CW.ct (cw_or (ct_not (ct_val (c_isiT rfl T.b_isinstance T.b_tuple PyProof.Rows.boot_tuple (by decide) (c_var 1)))) (cw_or (ct_cmp (op_neD hr.units) ok_ne (c_callB call_lenAll ok_len T.b_len PySem.boot_len (ca_cons (c_var 1) ca_nil)) (c_fld ti_many ts_many rfl (hi_many T) (hs_many T) (c_var 0))) (cw_or1 (ct_not (ct_val (c_callB (cr_all rfl) ok_all T.b_all PyProof.Rows.boot_all (ca_cons (c_comp [("price", 2)] rfl sc_are_prices.nd (ci_list (c_var 1) rfl) (blk_of (by kernel_rfl)) (fun _ _ _ _ _ => (cg_name 2 sc_are_prices.nd)) (fun _ _ _ _ _ => cts_nil) (fun _ _ _ _ _ => (c_df D_is_whole b_is_whole rfl hr (by decide) takes0 (ca_cons (c_var 2) ca_nil)))) ca_nil)))))))) (cb_one (cs_ret c_bl)) cb_nil) (cb_one (cs_ret (c_callB (cr_all rfl) ok_all T.b_all PyProof.Rows.boot_all (ca_cons (c_comp [("one", 3), ("other", 4)] rfl sc_are_prices.nd (ci_list (c_fld ti_ties ts_ties rfl (hi_ties T) (hs_ties T) (c_var 0)) rfl) (blk_of (by kernel_rfl)) (fun _ _ _ _ _ => (cg_tup rfl (cgs_cons (cg_name 3 sc_are_prices.nd) (cgs_cons (cg_name 4 sc_are_prices.nd) cgs_nil)))) (fun _ _ _ _ _ => cts_nil) (fun _ _ _ _ _ => (c_cmp (op_leA hr.units) ok_leA (c_callB call_abs ok_abs T.b_abs PyProof.Rows.boot_abs (ca_cons (c_op op_sub ok_sub (c_ix rfl (hu_of hr) (c_var 1) (c_var 3)) (c_ix rfl (hu_of hr) (c_var 1) (c_var 4))) ca_nil)) c_int))) ca_nil)))))
theorem sc_is_turn : FnScope ["web", "standing", "turn"] ["web", "standing", "turn"] (defScope (top 28)) := ⟨rfl, rfl, rfl, by decide +kernel, rfl, by decide +kernel, by decide +kernel⟩
theorem b_is_turn : BindsT "is_turn" "is_turn" (top 28) ["web", "standing", "turn"] := fun _ _ _ _ _ _ us hl => match us, hl with | [_, _, _], _ => rfl
def F_is_turn : FS := (fSeq (fIfS (fOr (fNot (fB (fCall 2 G_is_tie (fCons (fVar 2) (fCons (fFld ti_many ts_many (fVar 0)) fNil))))) (fB (f2 gNotIn (f2 gIx (fVar 2) (fC (.int 1))) (f2 gIx (fFld ti_near ts_near (fVar 0)) (f2 gIx (fVar 2) (fC (.int 0))))))) (fRet (fC (.bl false))) fNx) (fRet (f2 gEq (f2 gIx (fVar 1) (f2 gIx (fVar 2) (fC (.int 0)))) (f2 gIx (fVar 1) (f2 gIx (fVar 2) (fC (.int 1)))))))
def G_is_turn : FD := runDef 3 F_is_turn
theorem D_is_turn (T : Txt cf mg) (D_is_tie : Df P w cf mg base "is_tie" (top 17) ["value", "many"] 3 G_is_tie) : Df P w cf mg base "is_turn" (top 28) ["web", "standing", "turn"] 4 G_is_turn :=
  df_of T.r_is_turn sc_is_turn (fs := F_is_turn) (.inl rfl) fun _ _ _ _ _ _ _ hr => by
    unfold F_is_turn
    exact (cb_cons (cs_if (CW.ct (cw_or (ct_not (ct_val (c_df D_is_tie b_is_tie rfl hr (by decide) (takes_of rfl rfl rfl rfl) (ca_cons (c_var 2) (ca_cons (c_fld ti_many ts_many rfl (hi_many T) (hs_many T) (c_var 0)) ca_nil))))) (cw_or1 (ct_notIn rfl (hu_of hr) (c_ix rfl (hu_of hr) (c_var 2) c_int) (c_ix rfl (hu_of hr) (c_fld ti_near ts_near rfl (hi_near T) (hs_near T) (c_var 0)) (c_ix rfl (hu_of hr) (c_var 2) c_int)))))) (cb_one (cs_ret c_bl)) cb_nil) (cb_one (cs_ret (c_cmp (op_eqD hr.units) ok_eq (c_ix rfl (hu_of hr) (c_var 1) (c_ix rfl (hu_of hr) (c_var 2) c_int)) (c_ix rfl (hu_of hr) (c_var 1) (c_ix rfl (hu_of hr) (c_var 2) c_int))))))
theorem sc_turned : FnScope ["standing", "turn", "place", "coin"] ["standing", "turn"] (defScope (top 29)) := ⟨rfl, rfl, rfl, by decide +kernel, rfl, by decide +kernel, by decide +kernel⟩
theorem b_turned : BindsT "turned" "turned" (top 29) ["standing", "turn"] := fun _ _ _ _ _ _ us hl => match us, hl with | [_, _], _ => rfl
def F_turned : FS := (fRet (fCb gTuple (fCons (fComp (fEnum (fVar 0)) (gTp 2 (gsCons (gNm 2) (gsCons (gNm 3) gsNil))) fYes (fIf (fB (f2 gIn (fVar 2) (fVar 1))) (f2 gSub (fC (.int 1)) (fVar 3)) (fVar 3)) [2, 3]) fNil)))
def G_turned : FD := runDef 4 F_turned
theorem D_turned (T : Txt cf mg) : Df P w cf mg base "turned" (top 29) ["standing", "turn"] 1 G_turned :=
  df_of T.r_turned sc_turned (fs := F_turned) (.inl rfl) fun _ _ _ _ _ _ _ hr => by
    unfold F_turned
    exact (cb_one (cs_ret (c_callTy call_tuple_of ok_tuple T.b_tuple PyProof.Rows.boot_tuple (ca_cons (c_comp [("place", 2), ("coin", 3)] rfl sc_turned.nd (ci_enum rfl T.b_enumerate (c_var 0)) (blk_of (by kernel_rfl)) (fun _ _ _ _ _ => (cg_tup rfl (cgs_cons (cg_name 2 sc_turned.nd) (cgs_cons (cg_name 3 sc_turned.nd) cgs_nil)))) (fun _ _ _ _ _ => cts_nil) (fun _ _ _ _ _ => (c_if (ct_in rfl (hu_of hr) (c_var 2) (c_var 1)) (c_op op_sub ok_sub c_int (c_var 3)) (c_var 3)))) ca_nil))))
theorem sc_leads : FnScope ["web", "one", "turns", "other", "here", "turn"] ["web", "one", "turns", "other"] (defScope (top 58)) := ⟨rfl, rfl, rfl, by decide +kernel, rfl, by decide +kernel, by decide +kernel⟩
theorem b_leads : BindsT "leads" "leads" (top 58) ["web", "one", "turns", "other"] := fun _ _ _ _ _ _ us hl => match us, hl with | [_, _, _, _], _ => rfl
def F_leads : FS := (fSeq (fSet 4 (fCb gTuple (fCons (fVar 1) fNil))) (fSeq (fFor (fList (fVar 2)) (gNm 5) (fSeq (fIfS (fNot (fB (fCall 3 G_is_turn (fCons (fVar 0) (fCons (fVar 4) (fCons (fVar 5) fNil)))))) (fRet (fC (.bl false))) fNx) (fSet 4 (fCall 2 G_turned (fCons (fVar 4) (fCons (fVar 5) fNil)))))) (fRet (f2 gEq (fVar 4) (fCb gTuple (fCons (fVar 3) fNil))))))
def G_leads : FD := runDef 6 F_leads
theorem D_leads (T : Txt cf mg) (D_is_turn : Df P w cf mg base "is_turn" (top 28) ["web", "standing", "turn"] 4 G_is_turn) (D_turned : Df P w cf mg base "turned" (top 29) ["standing", "turn"] 1 G_turned) : Df P w cf mg base "leads" (top 58) ["web", "one", "turns", "other"] 5 G_leads :=
  df_of T.r_leads sc_leads (fs := F_leads) (.inl rfl) fun _ _ _ _ _ _ _ hr => by
    unfold F_leads
    exact (cb_cons (cs_set 4 sc_leads.nd (c_callTy call_tuple_of ok_tuple T.b_tuple PyProof.Rows.boot_tuple (ca_cons (c_var 1) ca_nil))) (cb_cons (cs_for (passes_of rfl) rfl (ci_list (c_var 2) rfl) (cg_name 5 sc_leads.nd) (cb_cons (cs_if (ct_not (ct_val (c_df D_is_turn b_is_turn rfl hr (by decide) (takes_of rfl rfl rfl rfl) (ca_cons (c_var 0) (ca_cons (c_var 4) (ca_cons (c_var 5) ca_nil)))))) (cb_one (cs_ret c_bl)) cb_nil) (cb_one (cs_set 4 sc_leads.nd (c_df D_turned b_turned rfl hr (by decide) (takes_of rfl rfl rfl rfl) (ca_cons (c_var 4) (ca_cons (c_var 5) ca_nil))))))) (cb_one (cs_ret (c_cmp (op_eqD hr.units) ok_eq (c_var 4) (c_callTy call_tuple_of ok_tuple T.b_tuple PyProof.Rows.boot_tuple (ca_cons (c_var 3) ca_nil)))))))
theorem sc_shown_by : FnScope ["web", "one", "other", "value", "near", "far", "place"] ["web", "one", "other", "value"] (defScope (top 62)) := ⟨rfl, rfl, rfl, by decide +kernel, rfl, by decide +kernel, by decide +kernel⟩
theorem b_shown_by : BindsT "shown_by" "shown_by" (top 62) ["web", "one", "other", "value"] := fun _ _ _ _ _ _ us hl => match us, hl with | [_, _, _, _], _ => rfl
def F_shown_by : FS := (fSeq (fAsgG (fTup (fCons (fCall 2 G_all_dots (fCons (fVar 0) (fCons (fVar 1) fNil))) (fCons (fCall 2 G_all_dots (fCons (fVar 0) (fCons (fVar 2) fNil))) fNil))) (gTp 2 (gsCons (gNm 4) (gsCons (gNm 5) gsNil)))) (fRet (f2 gSub (fCb gSum (fCons (fComp (fList (fVar 5)) (gNm 6) fYes (f2 gIx (fVar 3) (fVar 6)) [6]) fNil)) (fCb gSum (fCons (fComp (fList (fVar 4)) (gNm 6) fYes (f2 gIx (fVar 3) (fVar 6)) [6]) fNil)))))
def G_shown_by : FD := runDef 7 F_shown_by
theorem D_shown_by (T : Txt cf mg) (D_all_dots : Df P w cf mg base "all_dots" (top 48) ["web", "standing"] 3 G_all_dots) : Df P w cf mg base "shown_by" (top 62) ["web", "one", "other", "value"] 4 G_shown_by :=
  df_of T.r_shown_by sc_shown_by (fs := F_shown_by) (.inl rfl) fun _ _ _ _ _ _ _ hr => by
    unfold F_shown_by
    exact (cb_cons (by first | exact cs_par2 rfl sc_shown_by.nd (ca_cons (c_df D_all_dots b_all_dots rfl hr (by decide) (takes_of rfl rfl rfl rfl) (ca_cons (c_var 0) (ca_cons (c_var 1) ca_nil))) (ca_cons (c_df D_all_dots b_all_dots rfl hr (by decide) (takes_of rfl rfl rfl rfl) (ca_cons (c_var 0) (ca_cons (c_var 2) ca_nil))) ca_nil)) | exact cs_asg (c_tup (ca_cons (c_df D_all_dots b_all_dots rfl hr (by decide) (takes_of rfl rfl rfl rfl) (ca_cons (c_var 0) (ca_cons (c_var 1) ca_nil))) (ca_cons (c_df D_all_dots b_all_dots rfl hr (by decide) (takes_of rfl rfl rfl rfl) (ca_cons (c_var 0) (ca_cons (c_var 2) ca_nil))) ca_nil))) (cg_tup rfl (cgs_cons (cg_name 4 sc_shown_by.nd) (cgs_cons (cg_name 5 sc_shown_by.nd) cgs_nil)))) (cb_one (cs_ret (c_op op_sub ok_sub (c_callB (cr_sum rfl) ok_sum T.b_sum PyProof.Rows.boot_sum (ca_cons (c_comp [("place", 6)] rfl sc_shown_by.nd (ci_list (c_var 5) rfl) (blk_of (by kernel_rfl)) (fun _ _ _ _ _ => (cg_name 6 sc_shown_by.nd)) (fun _ _ _ _ _ => cts_nil) (fun _ _ _ _ _ => (c_ix rfl (hu_of hr) (c_var 3) (c_var 6)))) ca_nil)) (c_callB (cr_sum rfl) ok_sum T.b_sum PyProof.Rows.boot_sum (ca_cons (c_comp [("place", 6)] rfl sc_shown_by.nd (ci_list (c_var 4) rfl) (blk_of (by kernel_rfl)) (fun _ _ _ _ _ => (cg_name 6 sc_shown_by.nd)) (fun _ _ _ _ _ => cts_nil) (fun _ _ _ _ _ => (c_ix rfl (hu_of hr) (c_var 3) (c_var 6)))) ca_nil))))))
theorem sc_is_fewest_paper : FnScope ["web", "one", "other", "value"] ["web", "one", "other", "value"] (defScope (top 64)) := ⟨rfl, rfl, rfl, by decide +kernel, rfl, by decide +kernel, by decide +kernel⟩
theorem b_is_fewest_paper : BindsT "is_fewest_paper" "is_fewest_paper" (top 64) ["web", "one", "other", "value"] := fun _ _ _ _ _ _ us hl => match us, hl with | [_, _, _, _], _ => rfl
theorem bk_is_fewest_paper_value_other_one_web : BindsKw "is_fewest_paper" "is_fewest_paper" (top 64) ["web", "one", "other", "value"] ["value", "other", "one", "web"] 0 (perm [3, 2, 1, 0]) := fun _ _ _ _ _ _ us ws h1 h2 => match us, ws, h1, h2 with | [], [_, _, _, _], _, _ => rfl
def F_is_fewest_paper : FS := (fSeq (fDrop (fCall 3 G_need_short (fCons (fVar 0) (fCons (fVar 1) (fCons (fVar 2) fNil))))) (fSeq (fIfS (fOr (fNot (fB (fIsi "tuple" (fVar 3)))) (fOr (fB (f2 gNe (fCb gLen (fCons (fVar 3) fNil)) (fC (.int 3)))) (fOr (fNot (fB (fIsi "str" (f2 gIx (fVar 3) (fC (.int 0)))))) (fB (f2 gNe (f2 gIx (fVar 3) (fC (.int 0))) (fC (.str "fewest"))))))) (fRet (fC (.bl false))) fNx) (fSeq (fIfS (fOr (fNot (fB (fIsi "tuple" (f2 gIx (fVar 3) (fC (.int 1)))))) (fOr (fNot (fB (fCall 4 G_leads (fCons (fVar 0) (fCons (fVar 1) (fCons (f2 gIx (fVar 3) (fC (.int 1))) (fCons (fVar 2) fNil))))))) (fNot (fB (fCall 2 G_are_prices (fCons (fVar 0) (fCons (f2 gIx (fVar 3) (fC (.int 2))) fNil))))))) (fRet (fC (.bl false))) fNx) (fRet (f2 gEq (fCall 4 G_shown_by (fCons (fVar 0) (fCons (fVar 1) (fCons (fVar 2) (fCons (f2 gIx (fVar 3) (fC (.int 2))) fNil))))) (fCb gLen (fCons (f2 gIx (fVar 3) (fC (.int 1))) fNil)))))))
def G_is_fewest_paper : FD := runDef 4 F_is_fewest_paper
theorem D_is_fewest_paper (T : Txt cf mg) (D_are_prices : Df P w cf mg base "are_prices" (top 61) ["web", "value"] 2 G_are_prices) (D_leads : Df P w cf mg base "leads" (top 58) ["web", "one", "turns", "other"] 5 G_leads) (D_need_short : Df P w cf mg base "need_short" (top 47) ["web", "one", "other"] 7 G_need_short) (D_shown_by : Df P w cf mg base "shown_by" (top 62) ["web", "one", "other", "value"] 4 G_shown_by) : Df P w cf mg base "is_fewest_paper" (top 64) ["web", "one", "other", "value"] 8 G_is_fewest_paper :=
  df_of T.r_is_fewest_paper sc_is_fewest_paper (fs := F_is_fewest_paper) (.inl rfl) fun _ _ _ _ _ _ _ hr => by
    unfold F_is_fewest_paper
    exact (cb_cons (cs_expr (c_df D_need_short b_need_short rfl hr (by decide) (takes_of rfl rfl rfl rfl) (ca_cons (c_var 0) (ca_cons (c_var 1) (ca_cons (c_var 2) ca_nil))))) (cb_cons (cs_if (CW.ct (cw_or (ct_not (ct_val (c_isiT rfl T.b_isinstance T.b_tuple PyProof.Rows.boot_tuple (by decide) (c_var 3)))) (cw_or (ct_cmp (op_neD hr.units) ok_ne (c_callB call_lenAll ok_len T.b_len PySem.boot_len (ca_cons (c_var 3) ca_nil)) c_int) (cw_or (ct_not (ct_val (c_isiT rfl T.b_isinstance T.b_str PyProof.Rows.boot_str (by decide) (c_ix rfl (hu_of hr) (c_var 3) c_int)))) (cw_or1 (ct_cmp (op_neD hr.units) ok_ne (c_ix rfl (hu_of hr) (c_var 3) c_int) (c_gs T.k_FEWEST))))))) (cb_one (cs_ret c_bl)) cb_nil) (cb_cons (cs_if (CW.ct (cw_or (ct_not (ct_val (c_isiT rfl T.b_isinstance T.b_tuple PyProof.Rows.boot_tuple (by decide) (c_ix rfl (hu_of hr) (c_var 3) c_int)))) (cw_or (ct_not (ct_val (c_df D_leads b_leads rfl hr (by decide) (takes_of rfl rfl rfl rfl) (ca_cons (c_var 0) (ca_cons (c_var 1) (ca_cons (c_ix rfl (hu_of hr) (c_var 3) c_int) (ca_cons (c_var 2) ca_nil))))))) (cw_or1 (ct_not (ct_val (c_df D_are_prices b_are_prices rfl hr (by decide) (takes_of rfl rfl rfl rfl) (ca_cons (c_var 0) (ca_cons (c_ix rfl (hu_of hr) (c_var 3) c_int) ca_nil))))))))) (cb_one (cs_ret c_bl)) cb_nil) (cb_one (cs_ret (c_cmp (op_eqD hr.units) ok_eq (c_df D_shown_by b_shown_by rfl hr (by decide) (takes_of rfl rfl rfl rfl) (ca_cons (c_var 0) (ca_cons (c_var 1) (ca_cons (c_var 2) (ca_cons (c_ix rfl (hu_of hr) (c_var 3) c_int) ca_nil))))) (c_callB call_lenAll ok_len T.b_len PySem.boot_len (ca_cons (c_ix rfl (hu_of hr) (c_var 3) c_int) ca_nil))))))))
theorem sc_is_paper : FnScope ["web", "one", "other", "value", "near", "far"] ["web", "one", "other", "value"] (defScope (top 60)) := ⟨rfl, rfl, rfl, by decide +kernel, rfl, by decide +kernel, by decide +kernel⟩
theorem b_is_paper : BindsT "is_paper" "is_paper" (top 60) ["web", "one", "other", "value"] := fun _ _ _ _ _ _ us hl => match us, hl with | [_, _, _, _], _ => rfl
theorem bk_is_paper_value_other_one_web : BindsKw "is_paper" "is_paper" (top 60) ["web", "one", "other", "value"] ["value", "other", "one", "web"] 0 (perm [3, 2, 1, 0]) := fun _ _ _ _ _ _ us ws h1 h2 => match us, ws, h1, h2 with | [], [_, _, _, _], _, _ => rfl
def F_is_paper : FS := (fSeq (fDrop (fCall 2 G_need_standing (fCons (fVar 0) (fCons (fVar 1) fNil)))) (fSeq (fDrop (fCall 2 G_need_standing (fCons (fVar 0) (fCons (fVar 2) fNil)))) (fSeq (fIfS (fOr (fNot (fB (fIsi "tuple" (fVar 3)))) (fOr (fB (f2 gNotIn (fCb gLen (fCons (fVar 3) fNil)) (fTup (fCons (fC (.int 2)) (fCons (fC (.int 4)) fNil))))) (fNot (fB (fIsi "str" (f2 gIx (fVar 3) (fC (.int 0)))))))) (fRet (fC (.bl false))) fNx) (fSeq (fIfS (fB (f2 gEq (fCb gLen (fCons (fVar 3) fNil)) (fC (.int 2)))) (fRet (fAndV (f2 gEq (f2 gIx (fVar 3) (fC (.int 0))) (fC (.str "turns"))) (fAndV (fIsi "tuple" (f2 gIx (fVar 3) (fC (.int 1)))) (fCall 4 G_leads (fCons (fVar 0) (fCons (fVar 1) (fCons (f2 gIx (fVar 3) (fC (.int 1))) (fCons (fVar 2) fNil)))))))) fNx) (fSeq (fAsgG (fTup (fCons (fCall 2 G_counts (fCons (fVar 0) (fCons (fVar 1) fNil))) (fCons (fCall 2 G_counts (fCons (fVar 0) (fCons (fVar 2) fNil))) fNil))) (gTp 2 (gsCons (gNm 4) (gsCons (gNm 5) gsNil)))) (fSeq (fIfS (fOr (fB (f2 gNe (f2 gIx (fVar 3) (fC (.int 0))) (fC (.str "count")))) (fNot (fB (fCall 3 G_is_among (fCons (f2 gIx (fVar 3) (fC (.int 1))) (fCons (fC (.int 0)) (fCons (f2 gSub (fCb gLen (fCons (fVar 4) fNil)) (fC (.int 1))) fNil))))))) (fRet (fC (.bl false))) fNx) (fSeq (fIfS (fOr (fNot (fB (fCall 1 G_is_whole (fCons (f2 gIx (fVar 3) (fC (.int 2))) fNil)))) (fOr (fNot (fB (fCall 1 G_is_whole (fCons (f2 gIx (fVar 3) (fC (.int 3))) fNil)))) (fB (f2 gEq (f2 gIx (fVar 3) (fC (.int 2))) (f2 gIx (fVar 3) (fC (.int 3))))))) (fRet (fC (.bl false))) fNx) (fRet (f2 gEq (fTup (fCons (f2 gIx (fVar 4) (f2 gIx (fVar 3) (fC (.int 1)))) (fCons (f2 gIx (fVar 5) (f2 gIx (fVar 3) (fC (.int 1)))) fNil))) (fSlice (fVar 3) (foSome (fC (.int 2))) foNone))))))))))
def G_is_paper : FD := runDef 6 F_is_paper
theorem D_is_paper (T : Txt cf mg) (D_counts : Df P w cf mg base "counts" (top 36) ["web", "standing"] 4 G_counts) (D_is_among : Df P w cf mg base "is_among" (top 15) ["value", "least", "most"] 2 G_is_among) (D_is_whole : Df P w cf mg base "is_whole" (top 14) ["value"] 1 G_is_whole) (D_leads : Df P w cf mg base "leads" (top 58) ["web", "one", "turns", "other"] 5 G_leads) (D_need_standing : Df P w cf mg base "need_standing" (top 27) ["web", "standing"] 3 G_need_standing) : Df P w cf mg base "is_paper" (top 60) ["web", "one", "other", "value"] 6 G_is_paper :=
  df_of T.r_is_paper sc_is_paper (fs := F_is_paper) (.inl rfl) fun _ _ _ _ _ _ _ hr => by
    unfold F_is_paper
    exact (cb_cons (cs_expr (c_df D_need_standing b_need_standing rfl hr (by decide) (takes_of rfl rfl rfl rfl) (ca_cons (c_var 0) (ca_cons (c_var 1) ca_nil)))) (cb_cons (cs_expr (c_df D_need_standing b_need_standing rfl hr (by decide) (takes_of rfl rfl rfl rfl) (ca_cons (c_var 0) (ca_cons (c_var 2) ca_nil)))) (cb_cons (cs_if (CW.ct (cw_or (ct_not (ct_val (c_isiT rfl T.b_isinstance T.b_tuple PyProof.Rows.boot_tuple (by decide) (c_var 3)))) (cw_or (ct_notIn rfl (hu_of hr) (c_callB call_lenAll ok_len T.b_len PySem.boot_len (ca_cons (c_var 3) ca_nil)) (c_tup (ca_cons c_int (ca_cons c_int ca_nil)))) (cw_or1 (ct_not (ct_val (c_isiT rfl T.b_isinstance T.b_str PyProof.Rows.boot_str (by decide) (c_ix rfl (hu_of hr) (c_var 3) c_int)))))))) (cb_one (cs_ret c_bl)) cb_nil) (cb_cons (cs_if (ct_cmp (op_eqD hr.units) ok_eq (c_callB call_lenAll ok_len T.b_len PySem.boot_len (ca_cons (c_var 3) ca_nil)) c_int) (cb_one (cs_ret (c_and (c_cmp (op_eqD hr.units) ok_eq (c_ix rfl (hu_of hr) (c_var 3) c_int) (c_gs T.k_TURNS)) (c_and (c_isiT rfl T.b_isinstance T.b_tuple PyProof.Rows.boot_tuple (by decide) (c_ix rfl (hu_of hr) (c_var 3) c_int)) (c_one (c_df D_leads b_leads rfl hr (by decide) (takes_of rfl rfl rfl rfl) (ca_cons (c_var 0) (ca_cons (c_var 1) (ca_cons (c_ix rfl (hu_of hr) (c_var 3) c_int) (ca_cons (c_var 2) ca_nil)))))))))) cb_nil) (cb_cons (by first | exact cs_par2 rfl sc_is_paper.nd (ca_cons (c_df D_counts b_counts rfl hr (by decide) (takes_of rfl rfl rfl rfl) (ca_cons (c_var 0) (ca_cons (c_var 1) ca_nil))) (ca_cons (c_df D_counts b_counts rfl hr (by decide) (takes_of rfl rfl rfl rfl) (ca_cons (c_var 0) (ca_cons (c_var 2) ca_nil))) ca_nil)) | exact cs_asg (c_tup (ca_cons (c_df D_counts b_counts rfl hr (by decide) (takes_of rfl rfl rfl rfl) (ca_cons (c_var 0) (ca_cons (c_var 1) ca_nil))) (ca_cons (c_df D_counts b_counts rfl hr (by decide) (takes_of rfl rfl rfl rfl) (ca_cons (c_var 0) (ca_cons (c_var 2) ca_nil))) ca_nil))) (cg_tup rfl (cgs_cons (cg_name 4 sc_is_paper.nd) (cgs_cons (cg_name 5 sc_is_paper.nd) cgs_nil)))) (cb_cons (cs_if (CW.ct (cw_or (ct_cmp (op_neD hr.units) ok_ne (c_ix rfl (hu_of hr) (c_var 3) c_int) (c_gs T.k_COUNT)) (cw_or1 (ct_not (ct_val (c_df D_is_among b_is_among rfl hr (by decide) (takes_of rfl rfl rfl rfl) (ca_cons (c_ix rfl (hu_of hr) (c_var 3) c_int) (ca_cons c_int (ca_cons (c_op op_sub ok_sub (c_callB call_lenAll ok_len T.b_len PySem.boot_len (ca_cons (c_var 4) ca_nil)) c_int) ca_nil))))))))) (cb_one (cs_ret c_bl)) cb_nil) (cb_cons (cs_if (CW.ct (cw_or (ct_not (ct_val (c_df D_is_whole b_is_whole rfl hr (by decide) (takes_of rfl rfl rfl rfl) (ca_cons (c_ix rfl (hu_of hr) (c_var 3) c_int) ca_nil)))) (cw_or (ct_not (ct_val (c_df D_is_whole b_is_whole rfl hr (by decide) (takes_of rfl rfl rfl rfl) (ca_cons (c_ix rfl (hu_of hr) (c_var 3) c_int) ca_nil)))) (cw_or1 (ct_cmp (op_eqD hr.units) ok_eq (c_ix rfl (hu_of hr) (c_var 3) c_int) (c_ix rfl (hu_of hr) (c_var 3) c_int)))))) (cb_one (cs_ret c_bl)) cb_nil) (cb_one (cs_ret (c_cmp (op_eqD hr.units) ok_eq (c_tup (ca_cons (c_ix rfl (hu_of hr) (c_var 4) (c_ix rfl (hu_of hr) (c_var 3) c_int)) (ca_cons (c_ix rfl (hu_of hr) (c_var 5) (c_ix rfl (hu_of hr) (c_var 3) c_int)) ca_nil))) (c_slice rfl (c_var 3) (co_some c_int) co_none)))))))))))
theorem sc_odd_tie : FnScope ["web", "own", "tie"] ["web", "own"] (defScope (top 42)) := ⟨rfl, rfl, rfl, by decide +kernel, rfl, by decide +kernel, by decide +kernel⟩
theorem b_odd_tie : BindsT "odd_tie" "odd_tie" (top 42) ["web", "own"] := fun _ _ _ _ _ _ us hl => match us, hl with | [_, _], _ => rfl
def F_odd_tie : FS := (fRet (f2 gIx (fComp (fList (fFld ti_ties ts_ties (fVar 0))) (gNm 2) (fAnd (fB (f2 gIn (f2 gIx (fVar 2) (fC (.int 0))) (fVar 1))) (fB (f2 gEq (f2 gIx (fVar 1) (f2 gIx (fVar 2) (fC (.int 0)))) (f2 gIx (fVar 1) (f2 gIx (fVar 2) (fC (.int 1))))))) (fVar 2) [2]) (fC (.int 0))))
def G_odd_tie : FD := runDef 3 F_odd_tie
theorem D_odd_tie (T : Txt cf mg) : Df P w cf mg base "odd_tie" (top 42) ["web", "own"] 1 G_odd_tie :=
  df_of T.r_odd_tie sc_odd_tie (fs := F_odd_tie) (.inl rfl) fun _ _ _ _ _ _ _ hr => by
    unfold F_odd_tie
    exact (cb_one (cs_ret (c_ix rfl (hu_of hr) (c_comp [("tie", 2)] rfl sc_odd_tie.nd (ci_list (c_fld ti_ties ts_ties rfl (hi_ties T) (hs_ties T) (c_var 0)) rfl) (blk_of (by kernel_rfl)) (fun _ _ _ _ _ => (cg_name 2 sc_odd_tie.nd)) (fun _ _ _ _ _ => (cts_one (CW.ct (cw_and (ct_in rfl (hu_of hr) (c_ix rfl (hu_of hr) (c_var 2) c_int) (c_var 1)) (cw_and1 (ct_cmp (op_eqD hr.units) ok_eq (c_ix rfl (hu_of hr) (c_var 1) (c_ix rfl (hu_of hr) (c_var 2) c_int)) (c_ix rfl (hu_of hr) (c_var 1) (c_ix rfl (hu_of hr) (c_var 2) c_int)))))))) (fun _ _ _ _ _ => (c_var 2))) c_int)))
theorem sc_tree_of : FnScope ["web", "piece", "steps", "ties", "place", "near", "other"] ["web", "piece"] (defScope (top 41)) := ⟨rfl, rfl, rfl, by decide +kernel, rfl, by decide +kernel, by decide +kernel⟩
theorem b_tree_of : BindsT "tree_of" "tree_of" (top 41) ["web", "piece"] := fun _ _ _ _ _ _ us hl => match us, hl with | [_, _], _ => rfl
def F_tree_of : FS := (fSeq (fSet 2 (fCall 2 G_spread (fCons (fVar 0) (fCons (f2 gIx (fVar 1) (fC (.int 0))) fNil)))) (fSeq (fSet 3 (fLst fNil)) (fSeq (fFor (fList (fSlice (fVar 1) (foSome (fC (.int 1))) foNone)) (gNm 4) (fSeq (fSet 5 (f2 gIx (fComp (fList (f2 gIx (fFld ti_near ts_near (fVar 0)) (fVar 4))) (gNm 6) (fB (f2 gLtA (f2 gIx (fVar 2) (fVar 6)) (f2 gIx (fVar 2) (fVar 4)))) (fVar 6) [6]) (fC (.int 0)))) (fDrop (fMeth isL gAppend (fVar 3) (fCons (fTup (fCons (fCb gMin2 (fCons (fVar 5) (fCons (fVar 4) fNil))) (fCons (fCb gMax2 (fCons (fVar 5) (fCons (fVar 4) fNil))) fNil))) fNil))))) (fRet (fTup (fCons (fMake (.slt 1 []) 3 G_Web___init__ (fCons (fFld ti_many ts_many (fVar 0)) (fCons (fCb gSorted (fCons (fVar 3) fNil)) fNil))) (fCons (fDComp (fList (fVar 1)) (gNm 4) fYes (fVar 4) (f2 gMod (f2 gIx (fVar 2) (fVar 4)) (fC (.int 2))) [4]) fNil)))))))
def G_tree_of : FD := runDef 7 F_tree_of
theorem D_tree_of (T : Txt cf mg) (D_Web___init__ : Mf P w cf mg base 1 "__init__" "Web.__init__" (inClass (top 19) 1) ["self", "many", "ties"] 5 G_Web___init__) (D_spread : Df P w cf mg base "spread" (top 20) ["web", "start"] 1 G_spread) : Df P w cf mg base "tree_of" (top 41) ["web", "piece"] 7 G_tree_of :=
  df_of T.r_tree_of sc_tree_of (fs := F_tree_of) (.inl rfl) fun _ _ _ _ _ _ _ hr => by
    unfold F_tree_of
    exact (cb_cons (cs_set 2 sc_tree_of.nd (c_df D_spread b_spread rfl hr (by decide) (takes_of rfl rfl rfl rfl) (ca_cons (c_var 0) (ca_cons (c_ix rfl (hu_of hr) (c_var 1) c_int) ca_nil)))) (cb_cons (cs_set 3 sc_tree_of.nd (c_lst ca_nil)) (cb_cons (cs_for (passes_of rfl) rfl (ci_list (c_slice rfl (c_var 1) (co_some c_int) co_none) rfl) (cg_name 4 sc_tree_of.nd) (cb_cons (cs_set 5 sc_tree_of.nd (c_ix rfl (hu_of hr) (c_comp [("other", 6)] rfl sc_tree_of.nd (ci_list (c_ix rfl (hu_of hr) (c_fld ti_near ts_near rfl (hi_near T) (hs_near T) (c_var 0)) (c_var 4)) rfl) (blk_of (by kernel_rfl)) (fun _ _ _ _ _ => (cg_name 6 sc_tree_of.nd)) (fun _ _ _ _ _ => (cts_one (ct_cmp (op_ltA hr.units) ok_ltA (c_ix rfl (hu_of hr) (c_var 2) (c_var 6)) (c_ix rfl (hu_of hr) (c_var 2) (c_var 4))))) (fun _ _ _ _ _ => (c_var 6))) c_int)) (cb_one (cs_expr (c_bm PySem.F.plainAttrs_list PySem.F.slot_list_append PySem.F.type_list_append mt_append rfl isL_ok ok_append (c_var 3) (ca_cons (c_tup (ca_cons (c_callB (call_min2 rfl) ok_min2 T.b_min PyProof.Rows.boot_min (ca_cons (c_var 5) (ca_cons (c_var 4) ca_nil))) (ca_cons (c_callB (call_max2 rfl) ok_max2 T.b_max PyProof.Rows.boot_max (ca_cons (c_var 5) (ca_cons (c_var 4) ca_nil))) ca_nil))) ca_nil)))))) (cb_one (cs_ret (c_tup (ca_cons (c_mk (.slt 1 []) (.inr rfl) D_Web___init__ T.m_Web b_Web___init__ rfl hr (by decide) (takes_of rfl rfl rfl rfl) (ca_cons (c_fld ti_many ts_many rfl (hi_many T) (hs_many T) (c_var 0)) (ca_cons (c_callB call_sorted ok_sorted T.b_sorted PyProof.Rows.boot_sorted (ca_cons (c_var 3) ca_nil)) ca_nil))) (ca_cons (c_dcomp [("place", 4)] rfl sc_tree_of.nd (ci_list (c_var 1) rfl) (blk_of (by kernel_rfl)) (fun _ _ _ _ _ => (cg_name 4 sc_tree_of.nd)) (fun _ _ _ _ _ => cts_nil) (fun _ _ _ _ _ => (c_var 4)) (fun _ _ _ _ _ => (c_op op_mod ok_mod (c_ix rfl (hu_of hr) (c_var 2) (c_var 4)) c_int))) ca_nil))))))))
theorem sc_odd_turns : FnScope ["web", "piece", "one", "other", "tree", "own", "tie", "found", "dots", "goals", "rest", "middle", "later", "place"] ["web", "piece", "one", "other"] (defScope (top 43)) := ⟨rfl, rfl, rfl, by decide +kernel, rfl, by decide +kernel, by decide +kernel⟩
theorem b_odd_turns : BindsT "odd_turns" "odd_turns" (top 43) ["web", "piece", "one", "other"] := fun _ _ _ _ _ _ us hl => match us, hl with | [_, _, _, _], _ => rfl
def F_odd_turns : FS := (fSeq (fAsgG (fCall 2 G_tree_of (fCons (fVar 0) (fCons (fVar 1) fNil))) (gTp 2 (gsCons (gNm 4) (gsCons (gNm 5) gsNil)))) (fSeq (fAsgG (fTup (fCons (fCall 2 G_odd_tie (fCons (fVar 0) (fCons (fVar 5) fNil))) (fCons (fLst fNil) fNil))) (gTp 2 (gsCons (gNm 6) (gsCons (gNm 7) gsNil)))) (fSeq (fAsgG (fTup (fCons (fCall 3 G_dots_in (fCons (fVar 5) (fCons (fVar 1) (fCons (fVar 2) fNil)))) (fCons (fCall 3 G_dots_in (fCons (fVar 5) (fCons (fVar 1) (fCons (fVar 3) fNil)))) fNil))) (gTp 2 (gsCons (gNm 8) (gsCons (gNm 9) gsNil)))) (fSeq (fWhile (fB (f2 gNe (fCb gLen (fCons (fVar 8) fNil)) (fCb gLen (fCons (fVar 9) fNil)))) (fSeq (fSet 10 (fComp (fList (fVar 1)) (gNm 13) (fB (f2 gNotIn (fVar 13) (fVar 6))) (fVar 13) [13])) (fSeq (fIfS (fB (f2 gGtA (fCb gLen (fCons (fVar 8) fNil)) (fCb gLen (fCons (fVar 9) fNil)))) (fSeq (fSet 11 (f2 gAdd (fCb gList (fCons (fVar 6) fNil)) (fSlice (fVar 10) foNone (foSome (f2 gSub (fCb gLen (fCons (fVar 8) fNil)) (fC (.int 2))))))) (fSet 12 (fComp (fList (fVar 11)) (gNm 13) (fB (f2 gNotIn (fVar 13) (fVar 6))) (fVar 13) [13]))) (fSeq (fSet 11 (fSlice (fVar 10) foNone (foSome (fCb gLen (fCons (fVar 8) fNil))))) (fSet 12 (f2 gAdd (fVar 11) (fCb gList (fCons (fVar 6) fNil)))))) (fSeq (fDrop (fMeth isL gExtend (fVar 7) (fCons (f2 gAdd (fCall 3 G_dot_turns (fCons (fVar 4) (fCons (fVar 8) (fCons (fVar 11) fNil)))) (fLst (fCons (fVar 6) fNil))) fNil))) (fSet 8 (fVar 12)))))) (fRet (f2 gAdd (fVar 7) (fCall 3 G_dot_turns (fCons (fVar 4) (fCons (fVar 8) (fCons (fVar 9) fNil))))))))))
def G_odd_turns : FD := runDef 14 F_odd_turns
theorem D_odd_turns (T : Txt cf mg) (D_dot_turns : Df P w cf mg base "dot_turns" (top 40) ["web", "dots", "goals"] 6 G_dot_turns) (D_dots_in : Df P w cf mg base "dots_in" (top 39) ["own", "piece", "standing"] 1 G_dots_in) (D_odd_tie : Df P w cf mg base "odd_tie" (top 42) ["web", "own"] 1 G_odd_tie) (D_tree_of : Df P w cf mg base "tree_of" (top 41) ["web", "piece"] 7 G_tree_of) : Df P w cf mg base "odd_turns" (top 43) ["web", "piece", "one", "other"] 8 G_odd_turns :=
  df_of T.r_odd_turns sc_odd_turns (fs := F_odd_turns) (.inl rfl) fun _ _ _ _ _ _ _ hr => by
    unfold F_odd_turns
    exact (cb_cons (cs_asg (c_df D_tree_of b_tree_of rfl hr (by decide) (takes_of rfl rfl rfl rfl) (ca_cons (c_var 0) (ca_cons (c_var 1) ca_nil))) (cg_tup rfl (cgs_cons (cg_name 4 sc_odd_turns.nd) (cgs_cons (cg_name 5 sc_odd_turns.nd) cgs_nil)))) (cb_cons (by first | exact cs_par2 rfl sc_odd_turns.nd (ca_cons (c_df D_odd_tie b_odd_tie rfl hr (by decide) (takes_of rfl rfl rfl rfl) (ca_cons (c_var 0) (ca_cons (c_var 5) ca_nil))) (ca_cons (c_lst ca_nil) ca_nil)) | exact cs_asg (c_tup (ca_cons (c_df D_odd_tie b_odd_tie rfl hr (by decide) (takes_of rfl rfl rfl rfl) (ca_cons (c_var 0) (ca_cons (c_var 5) ca_nil))) (ca_cons (c_lst ca_nil) ca_nil))) (cg_tup rfl (cgs_cons (cg_name 6 sc_odd_turns.nd) (cgs_cons (cg_name 7 sc_odd_turns.nd) cgs_nil)))) (cb_cons (by first | exact cs_par2 rfl sc_odd_turns.nd (ca_cons (c_df D_dots_in b_dots_in rfl hr (by decide) (takes_of rfl rfl rfl rfl) (ca_cons (c_var 5) (ca_cons (c_var 1) (ca_cons (c_var 2) ca_nil)))) (ca_cons (c_df D_dots_in b_dots_in rfl hr (by decide) (takes_of rfl rfl rfl rfl) (ca_cons (c_var 5) (ca_cons (c_var 1) (ca_cons (c_var 3) ca_nil)))) ca_nil)) | exact cs_asg (c_tup (ca_cons (c_df D_dots_in b_dots_in rfl hr (by decide) (takes_of rfl rfl rfl rfl) (ca_cons (c_var 5) (ca_cons (c_var 1) (ca_cons (c_var 2) ca_nil)))) (ca_cons (c_df D_dots_in b_dots_in rfl hr (by decide) (takes_of rfl rfl rfl rfl) (ca_cons (c_var 5) (ca_cons (c_var 1) (ca_cons (c_var 3) ca_nil)))) ca_nil))) (cg_tup rfl (cgs_cons (cg_name 8 sc_odd_turns.nd) (cgs_cons (cg_name 9 sc_odd_turns.nd) cgs_nil)))) (cb_cons (cs_while (passes_of rfl) (ct_cmp (op_neD hr.units) ok_ne (c_callB call_lenAll ok_len T.b_len PySem.boot_len (ca_cons (c_var 8) ca_nil)) (c_callB call_lenAll ok_len T.b_len PySem.boot_len (ca_cons (c_var 9) ca_nil))) (cb_cons (cs_setComp 10 [("place", 13)] rfl sc_odd_turns.nd (ci_list (c_var 1) rfl) (blk_of (by kernel_rfl)) (fun _ _ _ _ _ => (cg_name 13 sc_odd_turns.nd)) (fun _ _ _ _ _ => (cts_one (ct_notIn rfl (hu_of hr) (c_var 13) (c_var 6)))) (fun _ _ _ _ _ => (c_var 13)) (sw_true rfl rfl rfl (by decide +kernel))) (cb_cons (cs_if (ct_cmp (op_gtA hr.units) ok_gtA (c_callB call_lenAll ok_len T.b_len PySem.boot_len (ca_cons (c_var 8) ca_nil)) (c_callB call_lenAll ok_len T.b_len PySem.boot_len (ca_cons (c_var 9) ca_nil))) (cb_cons (cs_set 11 sc_odd_turns.nd (c_op op_addAll ok_addAll (c_callTy (call_listAll rfl) ok_listAll T.b_list PyProof.Rows.boot_list (ca_cons (c_var 6) ca_nil)) (c_slice rfl (c_var 10) co_none (co_some (c_op op_sub ok_sub (c_callB call_lenAll ok_len T.b_len PySem.boot_len (ca_cons (c_var 8) ca_nil)) c_int))))) (cb_one (cs_setComp 12 [("place", 13)] rfl sc_odd_turns.nd (ci_list (c_var 11) rfl) (blk_of (by kernel_rfl)) (fun _ _ _ _ _ => (cg_name 13 sc_odd_turns.nd)) (fun _ _ _ _ _ => (cts_one (ct_notIn rfl (hu_of hr) (c_var 13) (c_var 6)))) (fun _ _ _ _ _ => (c_var 13)) (sw_true rfl rfl rfl (by decide +kernel))))) (cb_cons (cs_set 11 sc_odd_turns.nd (c_slice rfl (c_var 10) co_none (co_some (c_callB call_lenAll ok_len T.b_len PySem.boot_len (ca_cons (c_var 8) ca_nil))))) (cb_one (cs_set 12 sc_odd_turns.nd (c_op op_addAll ok_addAll (c_var 11) (c_callTy (call_listAll rfl) ok_listAll T.b_list PyProof.Rows.boot_list (ca_cons (c_var 6) ca_nil))))))) (cb_cons (cs_expr (c_bm PySem.F.plainAttrs_list PySem.F.slot_list_extend PySem.F.type_list_extend mt_extend rfl isL_ok ok_extend (c_var 7) (ca_cons (c_op op_addAll ok_addAll (c_df D_dot_turns b_dot_turns rfl hr (by decide) (takes_of rfl rfl rfl rfl) (ca_cons (c_var 4) (ca_cons (c_var 8) (ca_cons (c_var 11) ca_nil)))) (c_lst (ca_cons (c_var 6) ca_nil))) ca_nil))) (cb_one (cs_set 8 sc_odd_turns.nd (c_var 12))))))) (cb_one (cs_ret (c_op op_addAll ok_addAll (c_var 7) (c_df D_dot_turns b_dot_turns rfl hr (by decide) (takes_of rfl rfl rfl rfl) (ca_cons (c_var 4) (ca_cons (c_var 8) (ca_cons (c_var 9) ca_nil)))))))))))
theorem sc_piece_turns : FnScope ["web", "piece", "one", "other", "own"] ["web", "piece", "one", "other"] (defScope (top 44)) := ⟨rfl, rfl, rfl, by decide +kernel, rfl, by decide +kernel, by decide +kernel⟩
theorem b_piece_turns : BindsT "piece_turns" "piece_turns" (top 44) ["web", "piece", "one", "other"] := fun _ _ _ _ _ _ us hl => match us, hl with | [_, _, _, _], _ => rfl
def F_piece_turns : FS := (fSeq (fSet 4 (fCall 2 G_sides_in (fCons (fVar 0) (fCons (fVar 1) fNil)))) (fSeq (fIfS (fB (f2 gIsA (fVar 4) (fC .non))) (fRet (fCall 4 G_odd_turns (fCons (fVar 0) (fCons (fVar 1) (fCons (fVar 2) (fCons (fVar 3) fNil)))))) fNx) (fRet (fCall 3 G_dot_turns (fCons (fVar 0) (fCons (fCall 3 G_dots_in (fCons (fVar 4) (fCons (fVar 1) (fCons (fVar 2) fNil)))) (fCons (fCall 3 G_dots_in (fCons (fVar 4) (fCons (fVar 1) (fCons (fVar 3) fNil)))) fNil)))))))
def G_piece_turns : FD := runDef 5 F_piece_turns
theorem D_piece_turns (T : Txt cf mg) (D_dot_turns : Df P w cf mg base "dot_turns" (top 40) ["web", "dots", "goals"] 6 G_dot_turns) (D_dots_in : Df P w cf mg base "dots_in" (top 39) ["own", "piece", "standing"] 1 G_dots_in) (D_odd_turns : Df P w cf mg base "odd_turns" (top 43) ["web", "piece", "one", "other"] 8 G_odd_turns) (D_sides_in : Df P w cf mg base "sides_in" (top 22) ["web", "piece"] 2 G_sides_in) : Df P w cf mg base "piece_turns" (top 44) ["web", "piece", "one", "other"] 9 G_piece_turns :=
  df_of T.r_piece_turns sc_piece_turns (fs := F_piece_turns) (.inl rfl) fun _ _ _ _ _ _ _ hr => by
    unfold F_piece_turns
    exact (cb_cons (cs_set 4 sc_piece_turns.nd (c_df D_sides_in b_sides_in rfl hr (by decide) (takes_of rfl rfl rfl rfl) (ca_cons (c_var 0) (ca_cons (c_var 1) ca_nil)))) (cb_cons (cs_if (ct_cmp op_isA ok_isA (c_var 4) c_non) (cb_one (cs_ret (c_df D_odd_turns b_odd_turns rfl hr (by decide) (takes_of rfl rfl rfl rfl) (ca_cons (c_var 0) (ca_cons (c_var 1) (ca_cons (c_var 2) (ca_cons (c_var 3) ca_nil))))))) cb_nil) (cb_one (cs_ret (c_df D_dot_turns b_dot_turns rfl hr (by decide) (takes_of rfl rfl rfl rfl) (ca_cons (c_var 0) (ca_cons (c_df D_dots_in b_dots_in rfl hr (by decide) (takes_of rfl rfl rfl rfl) (ca_cons (c_var 4) (ca_cons (c_var 1) (ca_cons (c_var 2) ca_nil)))) (ca_cons (c_df D_dots_in b_dots_in rfl hr (by decide) (takes_of rfl rfl rfl rfl) (ca_cons (c_var 4) (ca_cons (c_var 1) (ca_cons (c_var 3) ca_nil)))) ca_nil))))))))
theorem sc_lead : FnScope ["web", "one", "other", "found", "piece"] ["web", "one", "other"] (defScope (top 46)) := ⟨rfl, rfl, rfl, by decide +kernel, rfl, by decide +kernel, by decide +kernel⟩
theorem b_lead : BindsT "lead" "lead" (top 46) ["web", "one", "other"] := fun _ _ _ _ _ _ us hl => match us, hl with | [_, _, _], _ => rfl
theorem bk_lead_other_one_web : BindsKw "lead" "lead" (top 46) ["web", "one", "other"] ["other", "one", "web"] 0 (perm [2, 1, 0]) := fun _ _ _ _ _ _ us ws h1 h2 => match us, ws, h1, h2 with | [], [_, _, _], _, _ => rfl
def F_lead : FS := (fSeq (fDrop (fCall 3 G_need_like (fCons (fVar 0) (fCons (fVar 1) (fCons (fVar 2) fNil))))) (fSeq (fSet 3 (fLst fNil)) (fSeq (fFor (fList (fCall 1 G_pieces (fCons (fVar 0) fNil))) (gNm 4) (fDrop (fMeth isL gExtend (fVar 3) (fCons (fCall 4 G_piece_turns (fCons (fVar 0) (fCons (fVar 4) (fCons (fVar 1) (fCons (fVar 2) fNil))))) fNil)))) (fRet (fCb gTuple (fCons (fVar 3) fNil))))))
def G_lead : FD := runDef 5 F_lead
theorem D_lead (T : Txt cf mg) (D_need_like : Df P w cf mg base "need_like" (top 45) ["web", "one", "other"] 6 G_need_like) (D_piece_turns : Df P w cf mg base "piece_turns" (top 44) ["web", "piece", "one", "other"] 9 G_piece_turns) (D_pieces : Df P w cf mg base "pieces" (top 21) ["web"] 2 G_pieces) : Df P w cf mg base "lead" (top 46) ["web", "one", "other"] 10 G_lead :=
  df_of T.r_lead sc_lead (fs := F_lead) (.inl rfl) fun _ _ _ _ _ _ _ hr => by
    unfold F_lead
    exact (cb_cons (cs_expr (c_df D_need_like b_need_like rfl hr (by decide) (takes_of rfl rfl rfl rfl) (ca_cons (c_var 0) (ca_cons (c_var 1) (ca_cons (c_var 2) ca_nil))))) (cb_cons (cs_set 3 sc_lead.nd (c_lst ca_nil)) (cb_cons (cs_for (passes_of rfl) rfl (ci_list (c_df D_pieces b_pieces rfl hr (by decide) (takes_of rfl rfl rfl rfl) (ca_cons (c_var 0) ca_nil)) rfl) (cg_name 4 sc_lead.nd) (cb_one (cs_expr (c_bm PySem.F.plainAttrs_list PySem.F.slot_list_extend PySem.F.type_list_extend mt_extend rfl isL_ok ok_extend (c_var 3) (ca_cons (c_df D_piece_turns b_piece_turns rfl hr (by decide) (takes_of rfl rfl rfl rfl) (ca_cons (c_var 0) (ca_cons (c_var 4) (ca_cons (c_var 1) (ca_cons (c_var 2) ca_nil))))) ca_nil))))) (cb_one (cs_ret (c_callTy call_tuple_of ok_tuple T.b_tuple PyProof.Rows.boot_tuple (ca_cons (c_var 3) ca_nil)))))))
theorem sc_paper : FnScope ["web", "one", "other", "found"] ["web", "one", "other"] (defScope (top 59)) := ⟨rfl, rfl, rfl, by decide +kernel, rfl, by decide +kernel, by decide +kernel⟩
theorem b_paper : BindsT "paper" "paper" (top 59) ["web", "one", "other"] := fun _ _ _ _ _ _ us hl => match us, hl with | [_, _, _], _ => rfl
theorem bk_paper_other_one_web : BindsKw "paper" "paper" (top 59) ["web", "one", "other"] ["other", "one", "web"] 0 (perm [2, 1, 0]) := fun _ _ _ _ _ _ us ws h1 h2 => match us, ws, h1, h2 with | [], [_, _, _], _, _ => rfl
def F_paper : FS := (fSeq (fDrop (fCall 2 G_need_standing (fCons (fVar 0) (fCons (fVar 1) fNil)))) (fSeq (fDrop (fCall 2 G_need_standing (fCons (fVar 0) (fCons (fVar 2) fNil)))) (fSeq (fSet 3 (fCall 3 G_unlike_count (fCons (fVar 0) (fCons (fVar 1) (fCons (fVar 2) fNil))))) (fRet (fIf (fB (f2 gIsA (fVar 3) (fC .non))) (fTup (fCons (fC (.str "turns")) (fCons (fCall 3 G_lead (fCons (fVar 0) (fCons (fVar 1) (fCons (fVar 2) fNil)))) fNil))) fErE)))))
def G_paper : FD := runDef 4 F_paper
theorem D_paper (T : Txt cf mg) (D_lead : Df P w cf mg base "lead" (top 46) ["web", "one", "other"] 10 G_lead) (D_need_standing : Df P w cf mg base "need_standing" (top 27) ["web", "standing"] 3 G_need_standing) (D_unlike_count : Df P w cf mg base "unlike_count" (top 37) ["web", "one", "other"] 5 G_unlike_count) : Df P w cf mg base "paper" (top 59) ["web", "one", "other"] 11 G_paper :=
  df_of T.r_paper sc_paper (fs := F_paper) (.inl rfl) fun _ _ _ _ _ _ _ hr => by
    unfold F_paper
    exact (cb_cons (cs_expr (c_df D_need_standing b_need_standing rfl hr (by decide) (takes_of rfl rfl rfl rfl) (ca_cons (c_var 0) (ca_cons (c_var 1) ca_nil)))) (cb_cons (cs_expr (c_df D_need_standing b_need_standing rfl hr (by decide) (takes_of rfl rfl rfl rfl) (ca_cons (c_var 0) (ca_cons (c_var 2) ca_nil)))) (cb_cons (cs_set 3 sc_paper.nd (c_df D_unlike_count b_unlike_count rfl hr (by decide) (takes_of rfl rfl rfl rfl) (ca_cons (c_var 0) (ca_cons (c_var 1) (ca_cons (c_var 2) ca_nil))))) (cb_one (cs_ret (c_if (ct_cmp op_isA ok_isA (c_var 3) c_non) (c_tup (ca_cons (c_gs T.k_TURNS) (ca_cons (c_df D_lead b_lead rfl hr (by decide) (takes_of rfl rfl rfl rfl) (ca_cons (c_var 0) (ca_cons (c_var 1) (ca_cons (c_var 2) ca_nil)))) ca_nil))) c_never))))))
theorem sc_reaches : FnScope ["web", "one", "other"] ["web", "one", "other"] (defScope (top 53)) := ⟨rfl, rfl, rfl, by decide +kernel, rfl, by decide +kernel, by decide +kernel⟩
theorem b_reaches : BindsT "reaches" "reaches" (top 53) ["web", "one", "other"] := fun _ _ _ _ _ _ us hl => match us, hl with | [_, _, _], _ => rfl
theorem bk_reaches_other_one_web : BindsKw "reaches" "reaches" (top 53) ["web", "one", "other"] ["other", "one", "web"] 0 (perm [2, 1, 0]) := fun _ _ _ _ _ _ us ws h1 h2 => match us, ws, h1, h2 with | [], [_, _, _], _, _ => rfl
def F_reaches : FS := (fSeq (fDrop (fCall 2 G_need_standing (fCons (fVar 0) (fCons (fVar 1) fNil)))) (fSeq (fDrop (fCall 2 G_need_standing (fCons (fVar 0) (fCons (fVar 2) fNil)))) (fRet (f2 gIsA (fCall 3 G_unlike_count (fCons (fVar 0) (fCons (fVar 1) (fCons (fVar 2) fNil)))) (fC .non)))))
def G_reaches : FD := runDef 3 F_reaches
theorem D_reaches (T : Txt cf mg) (D_need_standing : Df P w cf mg base "need_standing" (top 27) ["web", "standing"] 3 G_need_standing) (D_unlike_count : Df P w cf mg base "unlike_count" (top 37) ["web", "one", "other"] 5 G_unlike_count) : Df P w cf mg base "reaches" (top 53) ["web", "one", "other"] 6 G_reaches :=
  df_of T.r_reaches sc_reaches (fs := F_reaches) (.inl rfl) fun _ _ _ _ _ _ _ hr => by
    unfold F_reaches
    exact (cb_cons (cs_expr (c_df D_need_standing b_need_standing rfl hr (by decide) (takes_of rfl rfl rfl rfl) (ca_cons (c_var 0) (ca_cons (c_var 1) ca_nil)))) (cb_cons (cs_expr (c_df D_need_standing b_need_standing rfl hr (by decide) (takes_of rfl rfl rfl rfl) (ca_cons (c_var 0) (ca_cons (c_var 2) ca_nil)))) (cb_one (cs_ret (c_cmp op_isA ok_isA (c_df D_unlike_count b_unlike_count rfl hr (by decide) (takes_of rfl rfl rfl rfl) (ca_cons (c_var 0) (ca_cons (c_var 1) (ca_cons (c_var 2) ca_nil)))) c_non)))))
theorem sc__law_ways_right : FnScope ["_law_net", "_law_near", "_law_far", "_law_sheet", "_law_long"] ["_law_net", "_law_near", "_law_far"] (defScope (top 71)) := ⟨rfl, rfl, rfl, by decide +kernel, rfl, by decide +kernel, by decide +kernel⟩
theorem b__law_ways_right : BindsT "_law_ways_right" "_law_ways_right" (top 71) ["_law_net", "_law_near", "_law_far"] := fun _ _ _ _ _ _ us hl => match us, hl with | [_, _, _], _ => rfl
def F__law_ways_right : FS := (fSeq (fIfS (fB (f2 gNotA (fCallK 3 3 [2, 1, 0] G_reaches (fCons (fVar 2) (fCons (fVar 1) (fCons (fVar 0) fNil)))) (fC (.bl true)))) (fRet (fC (.bl false))) fNx) (fSeq (fIfS (fB (f2 gNe (fCallK 3 3 [2, 1, 0] G_lead (fCons (fVar 2) (fCons (fVar 1) (fCons (fVar 0) fNil)))) (fCall 3 G_lead (fCons (fVar 0) (fCons (fVar 1) (fCons (fVar 2) fNil)))))) (fRet (fC (.bl false))) fNx) (fSeq (fIfS (fB (f2 gNe (fCallK 3 3 [2, 1, 0] G_fewest (fCons (fVar 2) (fCons (fVar 1) (fCons (fVar 0) fNil)))) (fCall 3 G_fewest (fCons (fVar 0) (fCons (fVar 1) (fCons (fVar 2) fNil)))))) (fRet (fC (.bl false))) fNx) (fSeq (fIfS (fB (f2 gNe (fCallK 3 3 [2, 1, 0] G_shortest_row (fCons (fVar 2) (fCons (fVar 1) (fCons (fVar 0) fNil)))) (fCall 3 G_shortest_row (fCons (fVar 0) (fCons (fVar 1) (fCons (fVar 2) fNil)))))) (fRet (fC (.bl false))) fNx) (fSeq (fIfS (fB (f2 gNe (fCallK 3 3 [2, 1, 0] G_prices (fCons (fVar 2) (fCons (fVar 1) (fCons (fVar 0) fNil)))) (fCall 3 G_prices (fCons (fVar 0) (fCons (fVar 1) (fCons (fVar 2) fNil)))))) (fRet (fC (.bl false))) fNx) (fSeq (fAsgG (fTup (fCons (fCallK 3 3 [2, 1, 0] G_paper (fCons (fVar 2) (fCons (fVar 1) (fCons (fVar 0) fNil)))) (fCons (fCallK 3 3 [2, 1, 0] G_fewest_paper (fCons (fVar 2) (fCons (fVar 1) (fCons (fVar 0) fNil)))) fNil))) (gTp 2 (gsCons (gNm 3) (gsCons (gNm 4) gsNil)))) (fSeq (fIfS (fOr (fB (f2 gNe (fVar 3) (fCall 3 G_paper (fCons (fVar 0) (fCons (fVar 1) (fCons (fVar 2) fNil)))))) (fB (f2 gNotA (fCallK 4 4 [3, 2, 1, 0] G_is_paper (fCons (fVar 3) (fCons (fVar 2) (fCons (fVar 1) (fCons (fVar 0) fNil))))) (fC (.bl true))))) (fRet (fC (.bl false))) fNx) (fRet (fAndV (f2 gEq (fVar 4) (fCall 3 G_fewest_paper (fCons (fVar 0) (fCons (fVar 1) (fCons (fVar 2) fNil))))) (f2 gIsA (fCallK 4 4 [3, 2, 1, 0] G_is_fewest_paper (fCons (fVar 4) (fCons (fVar 2) (fCons (fVar 1) (fCons (fVar 0) fNil))))) (fC (.bl true))))))))))))
def G__law_ways_right : FD := runDef 5 F__law_ways_right
theorem D__law_ways_right (T : Txt cf mg) (D_fewest : Df P w cf mg base "fewest" (top 50) ["web", "one", "other"] 9 G_fewest) (D_fewest_paper : Df P w cf mg base "fewest_paper" (top 63) ["web", "one", "other"] 10 G_fewest_paper) (D_is_fewest_paper : Df P w cf mg base "is_fewest_paper" (top 64) ["web", "one", "other", "value"] 8 G_is_fewest_paper) (D_is_paper : Df P w cf mg base "is_paper" (top 60) ["web", "one", "other", "value"] 6 G_is_paper) (D_lead : Df P w cf mg base "lead" (top 46) ["web", "one", "other"] 10 G_lead) (D_paper : Df P w cf mg base "paper" (top 59) ["web", "one", "other"] 11 G_paper) (D_prices : Df P w cf mg base "prices" (top 52) ["web", "one", "other"] 9 G_prices) (D_reaches : Df P w cf mg base "reaches" (top 53) ["web", "one", "other"] 6 G_reaches) (D_shortest_row : Df P w cf mg base "shortest_row" (top 51) ["web", "one", "other"] 8 G_shortest_row) : Df P w cf mg base "_law_ways_right" (top 71) ["_law_net", "_law_near", "_law_far"] 12 G__law_ways_right :=
  df_of T.r__law_ways_right sc__law_ways_right (fs := F__law_ways_right) (.inl rfl) fun _ _ _ _ _ _ _ hr => by
    unfold F__law_ways_right
    exact (cb_cons (cs_if (ct_cmp op_notA ok_notA (c_dfK ["other", "one", "web"] [2, 1, 0] D_reaches bk_reaches_other_one_web rfl hr (by decide) (takes_of rfl rfl rfl rfl) (ck_cons (c_var 2) (ck_cons (c_var 1) (ck_cons (c_var 0) ck_nil)))) c_bl) (cb_one (cs_ret c_bl)) cb_nil) (cb_cons (cs_if (ct_cmp (op_neD hr.units) ok_ne (c_dfK ["other", "one", "web"] [2, 1, 0] D_lead bk_lead_other_one_web rfl hr (by decide) (takes_of rfl rfl rfl rfl) (ck_cons (c_var 2) (ck_cons (c_var 1) (ck_cons (c_var 0) ck_nil)))) (c_df D_lead b_lead rfl hr (by decide) (takes_of rfl rfl rfl rfl) (ca_cons (c_var 0) (ca_cons (c_var 1) (ca_cons (c_var 2) ca_nil))))) (cb_one (cs_ret c_bl)) cb_nil) (cb_cons (cs_if (ct_cmp (op_neD hr.units) ok_ne (c_dfK ["other", "one", "web"] [2, 1, 0] D_fewest bk_fewest_other_one_web rfl hr (by decide) (takes_of rfl rfl rfl rfl) (ck_cons (c_var 2) (ck_cons (c_var 1) (ck_cons (c_var 0) ck_nil)))) (c_df D_fewest b_fewest rfl hr (by decide) (takes_of rfl rfl rfl rfl) (ca_cons (c_var 0) (ca_cons (c_var 1) (ca_cons (c_var 2) ca_nil))))) (cb_one (cs_ret c_bl)) cb_nil) (cb_cons (cs_if (ct_cmp (op_neD hr.units) ok_ne (c_dfK ["other", "one", "web"] [2, 1, 0] D_shortest_row bk_shortest_row_other_one_web rfl hr (by decide) (takes_of rfl rfl rfl rfl) (ck_cons (c_var 2) (ck_cons (c_var 1) (ck_cons (c_var 0) ck_nil)))) (c_df D_shortest_row b_shortest_row rfl hr (by decide) (takes_of rfl rfl rfl rfl) (ca_cons (c_var 0) (ca_cons (c_var 1) (ca_cons (c_var 2) ca_nil))))) (cb_one (cs_ret c_bl)) cb_nil) (cb_cons (cs_if (ct_cmp (op_neD hr.units) ok_ne (c_dfK ["other", "one", "web"] [2, 1, 0] D_prices bk_prices_other_one_web rfl hr (by decide) (takes_of rfl rfl rfl rfl) (ck_cons (c_var 2) (ck_cons (c_var 1) (ck_cons (c_var 0) ck_nil)))) (c_df D_prices b_prices rfl hr (by decide) (takes_of rfl rfl rfl rfl) (ca_cons (c_var 0) (ca_cons (c_var 1) (ca_cons (c_var 2) ca_nil))))) (cb_one (cs_ret c_bl)) cb_nil) (cb_cons (by first | exact cs_par2 rfl sc__law_ways_right.nd (ca_cons (c_dfK ["other", "one", "web"] [2, 1, 0] D_paper bk_paper_other_one_web rfl hr (by decide) (takes_of rfl rfl rfl rfl) (ck_cons (c_var 2) (ck_cons (c_var 1) (ck_cons (c_var 0) ck_nil)))) (ca_cons (c_dfK ["other", "one", "web"] [2, 1, 0] D_fewest_paper bk_fewest_paper_other_one_web rfl hr (by decide) (takes_of rfl rfl rfl rfl) (ck_cons (c_var 2) (ck_cons (c_var 1) (ck_cons (c_var 0) ck_nil)))) ca_nil)) | exact cs_asg (c_tup (ca_cons (c_dfK ["other", "one", "web"] [2, 1, 0] D_paper bk_paper_other_one_web rfl hr (by decide) (takes_of rfl rfl rfl rfl) (ck_cons (c_var 2) (ck_cons (c_var 1) (ck_cons (c_var 0) ck_nil)))) (ca_cons (c_dfK ["other", "one", "web"] [2, 1, 0] D_fewest_paper bk_fewest_paper_other_one_web rfl hr (by decide) (takes_of rfl rfl rfl rfl) (ck_cons (c_var 2) (ck_cons (c_var 1) (ck_cons (c_var 0) ck_nil)))) ca_nil))) (cg_tup rfl (cgs_cons (cg_name 3 sc__law_ways_right.nd) (cgs_cons (cg_name 4 sc__law_ways_right.nd) cgs_nil)))) (cb_cons (cs_if (CW.ct (cw_or (ct_cmp (op_neD hr.units) ok_ne (c_var 3) (c_df D_paper b_paper rfl hr (by decide) (takes_of rfl rfl rfl rfl) (ca_cons (c_var 0) (ca_cons (c_var 1) (ca_cons (c_var 2) ca_nil))))) (cw_or1 (ct_cmp op_notA ok_notA (c_dfK ["value", "other", "one", "web"] [3, 2, 1, 0] D_is_paper bk_is_paper_value_other_one_web rfl hr (by decide) (takes_of rfl rfl rfl rfl) (ck_cons (c_var 3) (ck_cons (c_var 2) (ck_cons (c_var 1) (ck_cons (c_var 0) ck_nil))))) c_bl)))) (cb_one (cs_ret c_bl)) cb_nil) (cb_one (cs_ret (c_and (c_cmp (op_eqD hr.units) ok_eq (c_var 4) (c_df D_fewest_paper b_fewest_paper rfl hr (by decide) (takes_of rfl rfl rfl rfl) (ca_cons (c_var 0) (ca_cons (c_var 1) (ca_cons (c_var 2) ca_nil))))) (c_one (c_cmp op_isA ok_isA (c_dfK ["value", "other", "one", "web"] [3, 2, 1, 0] D_is_fewest_paper bk_is_fewest_paper_value_other_one_web rfl hr (by decide) (takes_of rfl rfl rfl rfl) (ck_cons (c_var 4) (ck_cons (c_var 2) (ck_cons (c_var 1) (ck_cons (c_var 0) ck_nil))))) c_bl))))))))))))
theorem sc_Web___eq__ : FnScope ["self", "other"] ["self", "other"] (defScope (inClass (top 19) 3)) := ⟨rfl, rfl, rfl, by decide +kernel, rfl, by decide +kernel, by decide +kernel⟩
theorem b_Web___eq__ : BindsT "__eq__" "Web.__eq__" (inClass (top 19) 3) ["self", "other"] := fun _ _ _ _ _ _ us hl => match us, hl with | [_, _], _ => rfl
def F_Web___eq__ : FS := (fRet (fAndV (fIsiC ri_Web rs_Web (fVar 1)) (f2 gEq (fTup (fCons (fFld ti_many ts_many (fVar 0)) (fCons (fFld ti_ties ts_ties (fVar 0)) fNil))) (fTup (fCons (fFld ti_many ts_many (fVar 1)) (fCons (fFld ti_ties ts_ties (fVar 1)) fNil))))))
def G_Web___eq__ : FD := runDef 2 F_Web___eq__
theorem D_Web___eq__ (T : Txt cf mg) : Mf P w cf mg base 1 "__eq__" "Web.__eq__" (inClass (top 19) 3) ["self", "other"] 1 G_Web___eq__ :=
  mf_of T.r_Web___eq__ sc_Web___eq__ (fs := F_Web___eq__) (.inl rfl) fun _ _ _ _ _ _ _ hr => by
    unfold F_Web___eq__
    exact (cb_one (cs_ret (c_and (c_isiC ri_Web rs_Web rfl T.b_isinstance T.m_Web.gl T.q_Web (xi_Web T) (xs_Web T) (c_var 1)) (c_one (c_cmp (op_eqD hr.units) ok_eq (c_tup (ca_cons (c_fld ti_many ts_many rfl (hi_many T) (hs_many T) (c_var 0)) (ca_cons (c_fld ti_ties ts_ties rfl (hi_ties T) (hs_ties T) (c_var 0)) ca_nil))) (c_tup (ca_cons (c_fld ti_many ts_many rfl (hi_many T) (hs_many T) (c_var 1)) (ca_cons (c_fld ti_ties ts_ties rfl (hi_ties T) (hs_ties T) (c_var 1)) ca_nil))))))))
theorem sc_Web_neighbours : FnScope ["self", "place"] ["self", "place"] (defScope (inClass (top 19) 4)) := ⟨rfl, rfl, rfl, by decide +kernel, rfl, by decide +kernel, by decide +kernel⟩
theorem b_Web_neighbours : BindsT "neighbours" "Web.neighbours" (inClass (top 19) 4) ["self", "place"] := fun _ _ _ _ _ _ us hl => match us, hl with | [_, _], _ => rfl
theorem bk_Web_neighbours_place : BindsKw "neighbours" "Web.neighbours" (inClass (top 19) 4) ["self", "place"] ["place"] 1 (perm [0]) := fun _ _ _ _ _ _ us ws h1 h2 => match us, ws, h1, h2 with | [_], [_], _, _ => rfl
def F_Web_neighbours : FS := (fSeq (fIfS (fNot (fB (fCall 3 G_is_among (fCons (fVar 1) (fCons (fC (.int 0)) (fCons (f2 gSub (fFld ti_many ts_many (fVar 0)) (fC (.int 1))) fNil)))))) fEr fNx) (fRet (f2 gIx (fFld ti_near ts_near (fVar 0)) (fVar 1))))
def G_Web_neighbours : FD := runDef 2 F_Web_neighbours
theorem D_Web_neighbours (T : Txt cf mg) (D_is_among : Df P w cf mg base "is_among" (top 15) ["value", "least", "most"] 2 G_is_among) : Mf P w cf mg base 1 "neighbours" "Web.neighbours" (inClass (top 19) 4) ["self", "place"] 3 G_Web_neighbours :=
  mf_of T.r_Web_neighbours sc_Web_neighbours (fs := F_Web_neighbours) (.inl rfl) fun _ _ _ _ _ _ _ hr => by
    unfold F_Web_neighbours
    exact (cb_cons (cs_if (ct_not (ct_val (c_df D_is_among b_is_among rfl hr (by decide) (takes_of rfl rfl rfl rfl) (ca_cons (c_var 1) (ca_cons c_int (ca_cons (c_op op_sub ok_sub (c_fld ti_many ts_many rfl (hi_many T) (hs_many T) (c_var 0)) c_int) ca_nil)))))) (cb_one cs_never) cb_nil) (cb_one (cs_ret (c_ix rfl (hu_of hr) (c_fld ti_near ts_near rfl (hi_near T) (hs_near T) (c_var 0)) (c_var 1)))))
theorem sc_can : FnScope ["web", "standing", "turn"] ["web", "standing", "turn"] (defScope (top 30)) := ⟨rfl, rfl, rfl, by decide +kernel, rfl, by decide +kernel, by decide +kernel⟩
theorem b_can : BindsT "can" "can" (top 30) ["web", "standing", "turn"] := fun _ _ _ _ _ _ us hl => match us, hl with | [_, _, _], _ => rfl
theorem bk_can_turn_standing_web : BindsKw "can" "can" (top 30) ["web", "standing", "turn"] ["turn", "standing", "web"] 0 (perm [2, 1, 0]) := fun _ _ _ _ _ _ us ws h1 h2 => match us, ws, h1, h2 with | [], [_, _, _], _, _ => rfl
def F_can : FS := (fSeq (fDrop (fCall 2 G_need_standing (fCons (fVar 0) (fCons (fVar 1) fNil)))) (fRet (fCall 3 G_is_turn (fCons (fVar 0) (fCons (fVar 1) (fCons (fVar 2) fNil))))))
def G_can : FD := runDef 3 F_can
theorem D_can (T : Txt cf mg) (D_is_turn : Df P w cf mg base "is_turn" (top 28) ["web", "standing", "turn"] 4 G_is_turn) (D_need_standing : Df P w cf mg base "need_standing" (top 27) ["web", "standing"] 3 G_need_standing) : Df P w cf mg base "can" (top 30) ["web", "standing", "turn"] 5 G_can :=
  df_of T.r_can sc_can (fs := F_can) (.inl rfl) fun _ _ _ _ _ _ _ hr => by
    unfold F_can
    exact (cb_cons (cs_expr (c_df D_need_standing b_need_standing rfl hr (by decide) (takes_of rfl rfl rfl rfl) (ca_cons (c_var 0) (ca_cons (c_var 1) ca_nil)))) (cb_one (cs_ret (c_df D_is_turn b_is_turn rfl hr (by decide) (takes_of rfl rfl rfl rfl) (ca_cons (c_var 0) (ca_cons (c_var 1) (ca_cons (c_var 2) ca_nil)))))))
theorem sc_done_at : FnScope ["web", "standing", "turn", "number"] ["web", "standing", "turn", "number"] (defScope (top 31)) := ⟨rfl, rfl, rfl, by decide +kernel, rfl, by decide +kernel, by decide +kernel⟩
theorem b_done_at : BindsT "done_at" "done_at" (top 31) ["web", "standing", "turn", "number"] := fun _ _ _ _ _ _ us hl => match us, hl with | [_, _, _, _], _ => rfl
def F_done_at : FS := (fSeq (fIfS (fNot (fB (fCall 3 G_is_turn (fCons (fVar 0) (fCons (fVar 1) (fCons (fVar 2) fNil)))))) fEr fNx) (fRet (fCall 2 G_turned (fCons (fVar 1) (fCons (fVar 2) fNil)))))
def G_done_at : FD := runDef 4 F_done_at
theorem D_done_at (T : Txt cf mg) (D_is_turn : Df P w cf mg base "is_turn" (top 28) ["web", "standing", "turn"] 4 G_is_turn) (D_turned : Df P w cf mg base "turned" (top 29) ["standing", "turn"] 1 G_turned) : Df P w cf mg base "done_at" (top 31) ["web", "standing", "turn", "number"] 5 G_done_at :=
  df_of T.r_done_at sc_done_at (fs := F_done_at) (.inl rfl) fun _ _ _ _ _ _ _ hr => by
    unfold F_done_at
    exact (cb_cons (cs_if (ct_not (ct_val (c_df D_is_turn b_is_turn rfl hr (by decide) (takes_of rfl rfl rfl rfl) (ca_cons (c_var 0) (ca_cons (c_var 1) (ca_cons (c_var 2) ca_nil)))))) (cb_one cs_never) cb_nil) (cb_one (cs_ret (c_df D_turned b_turned rfl hr (by decide) (takes_of rfl rfl rfl rfl) (ca_cons (c_var 1) (ca_cons (c_var 2) ca_nil))))))
theorem sc_done : FnScope ["web", "standing", "turn"] ["web", "standing", "turn"] (defScope (top 32)) := ⟨rfl, rfl, rfl, by decide +kernel, rfl, by decide +kernel, by decide +kernel⟩
theorem b_done : BindsT "done" "done" (top 32) ["web", "standing", "turn"] := fun _ _ _ _ _ _ us hl => match us, hl with | [_, _, _], _ => rfl
theorem bk_done_turn_standing_web : BindsKw "done" "done" (top 32) ["web", "standing", "turn"] ["turn", "standing", "web"] 0 (perm [2, 1, 0]) := fun _ _ _ _ _ _ us ws h1 h2 => match us, ws, h1, h2 with | [], [_, _, _], _, _ => rfl
def F_done : FS := (fSeq (fDrop (fCall 2 G_need_standing (fCons (fVar 0) (fCons (fVar 1) fNil)))) (fRet (fCall 4 G_done_at (fCons (fVar 0) (fCons (fVar 1) (fCons (fVar 2) (fCons (fC (.int 0)) fNil)))))))
def G_done : FD := runDef 3 F_done
theorem D_done (T : Txt cf mg) (D_done_at : Df P w cf mg base "done_at" (top 31) ["web", "standing", "turn", "number"] 5 G_done_at) (D_need_standing : Df P w cf mg base "need_standing" (top 27) ["web", "standing"] 3 G_need_standing) : Df P w cf mg base "done" (top 32) ["web", "standing", "turn"] 6 G_done :=
  df_of T.r_done sc_done (fs := F_done) (.inl rfl) fun _ _ _ _ _ _ _ hr => by
    unfold F_done
    exact (cb_cons (cs_expr (c_df D_need_standing b_need_standing rfl hr (by decide) (takes_of rfl rfl rfl rfl) (ca_cons (c_var 0) (ca_cons (c_var 1) ca_nil)))) (cb_one (cs_ret (c_df D_done_at b_done_at rfl hr (by decide) (takes_of rfl rfl rfl rfl) (ca_cons (c_var 0) (ca_cons (c_var 1) (ca_cons (c_var 2) (ca_cons c_int ca_nil))))))))
theorem sc_sides : FnScope ["web", "found", "piece", "own", "place"] ["web"] (defScope (top 23)) := ⟨rfl, rfl, rfl, by decide +kernel, rfl, by decide +kernel, by decide +kernel⟩
theorem b_sides : BindsT "sides" "sides" (top 23) ["web"] := fun _ _ _ _ _ _ us hl => match us, hl with | [_], _ => rfl
theorem bk_sides_web : BindsKw "sides" "sides" (top 23) ["web"] ["web"] 0 (perm [0]) := fun _ _ _ _ _ _ us ws h1 h2 => match us, ws, h1, h2 with | [], [_], _, _ => rfl
def F_sides : FS := (fSeq (fSet 1 (f2 gMul (fLst (fCons (fC .non) fNil)) (fFld ti_many ts_many (fVar 0)))) (fSeq (fFor (fList (fCall 1 G_pieces (fCons (fVar 0) fNil))) (gNm 2) (fSeq (fSet 3 (fCall 2 G_sides_in (fCons (fVar 0) (fCons (fVar 2) fNil)))) (fIfS (fB (f2 gNotA (fVar 3) (fC .non))) (fFor (fList (fVar 2)) (gNm 4) (fSub (f2 gIx (fVar 3) (fVar 4)) (fVar 1) (fVar 4))) fNx))) (fRet (fCb gTuple (fCons (fVar 1) fNil)))))
def G_sides : FD := runDef 5 F_sides
theorem D_sides (T : Txt cf mg) (D_pieces : Df P w cf mg base "pieces" (top 21) ["web"] 2 G_pieces) (D_sides_in : Df P w cf mg base "sides_in" (top 22) ["web", "piece"] 2 G_sides_in) : Df P w cf mg base "sides" (top 23) ["web"] 3 G_sides :=
  df_of T.r_sides sc_sides (fs := F_sides) (.inl rfl) fun _ _ _ _ _ _ _ hr => by
    unfold F_sides
    exact (cb_cons (cs_set 1 sc_sides.nd (c_op op_mulAll ok_mulAll (c_lst (ca_cons c_non ca_nil)) (c_fld ti_many ts_many rfl (hi_many T) (hs_many T) (c_var 0)))) (cb_cons (cs_for (passes_of rfl) rfl (ci_list (c_df D_pieces b_pieces rfl hr (by decide) (takes_of rfl rfl rfl rfl) (ca_cons (c_var 0) ca_nil)) rfl) (cg_name 2 sc_sides.nd) (cb_cons (cs_set 3 sc_sides.nd (c_df D_sides_in b_sides_in rfl hr (by decide) (takes_of rfl rfl rfl rfl) (ca_cons (c_var 0) (ca_cons (c_var 2) ca_nil)))) (cb_one (cs_if (ct_cmp op_notA ok_notA (c_var 3) c_non) (cb_one (cs_for (passes_of rfl) rfl (ci_list (c_var 2) rfl) (cg_name 4 sc_sides.nd) (cb_one (cs_sub rfl (hu_of hr) (c_ix rfl (hu_of hr) (c_var 3) (c_var 4)) (c_var 1) (c_var 4))))) cb_nil)))) (cb_one (cs_ret (c_callTy call_tuple_of ok_tuple T.b_tuple PyProof.Rows.boot_tuple (ca_cons (c_var 1) ca_nil))))))
theorem sc_is_two_sided : FnScope ["web"] ["web"] (defScope (top 24)) := ⟨rfl, rfl, rfl, by decide +kernel, rfl, by decide +kernel, by decide +kernel⟩
theorem b_is_two_sided : BindsT "is_two_sided" "is_two_sided" (top 24) ["web"] := fun _ _ _ _ _ _ us hl => match us, hl with | [_], _ => rfl
theorem bk_is_two_sided_web : BindsKw "is_two_sided" "is_two_sided" (top 24) ["web"] ["web"] 0 (perm [0]) := fun _ _ _ _ _ _ us ws h1 h2 => match us, ws, h1, h2 with | [], [_], _, _ => rfl
def F_is_two_sided : FS := (fRet (f2 gNotIn (fC .non) (fCall 1 G_sides (fCons (fVar 0) fNil))))
def G_is_two_sided : FD := runDef 1 F_is_two_sided
theorem D_is_two_sided (T : Txt cf mg) (D_sides : Df P w cf mg base "sides" (top 23) ["web"] 3 G_sides) : Df P w cf mg base "is_two_sided" (top 24) ["web"] 4 G_is_two_sided :=
  df_of T.r_is_two_sided sc_is_two_sided (fs := F_is_two_sided) (.inl rfl) fun _ _ _ _ _ _ _ hr => by
    unfold F_is_two_sided
    exact (cb_one (cs_ret (c_notIn rfl (hu_of hr) c_non (c_df D_sides b_sides rfl hr (by decide) (takes_of rfl rfl rfl rfl) (ca_cons (c_var 0) ca_nil)))))
theorem sc_turns_of : FnScope ["web", "standing", "tie"] ["web", "standing"] (defScope (top 34)) := ⟨rfl, rfl, rfl, by decide +kernel, rfl, by decide +kernel, by decide +kernel⟩
theorem b_turns_of : BindsT "turns_of" "turns_of" (top 34) ["web", "standing"] := fun _ _ _ _ _ _ us hl => match us, hl with | [_, _], _ => rfl
theorem bk_turns_of_standing_web : BindsKw "turns_of" "turns_of" (top 34) ["web", "standing"] ["standing", "web"] 0 (perm [1, 0]) := fun _ _ _ _ _ _ us ws h1 h2 => match us, ws, h1, h2 with | [], [_, _], _, _ => rfl
def F_turns_of : FS := (fSeq (fDrop (fCall 2 G_need_standing (fCons (fVar 0) (fCons (fVar 1) fNil)))) (fRet (fCb gTuple (fCons (fComp (fList (fFld ti_ties ts_ties (fVar 0))) (gNm 2) (fB (f2 gEq (f2 gIx (fVar 1) (f2 gIx (fVar 2) (fC (.int 0)))) (f2 gIx (fVar 1) (f2 gIx (fVar 2) (fC (.int 1)))))) (fVar 2) [2]) fNil))))
def G_turns_of : FD := runDef 3 F_turns_of
theorem D_turns_of (T : Txt cf mg) (D_need_standing : Df P w cf mg base "need_standing" (top 27) ["web", "standing"] 3 G_need_standing) : Df P w cf mg base "turns_of" (top 34) ["web", "standing"] 4 G_turns_of :=
  df_of T.r_turns_of sc_turns_of (fs := F_turns_of) (.inl rfl) fun _ _ _ _ _ _ _ hr => by
    unfold F_turns_of
    exact (cb_cons (cs_expr (c_df D_need_standing b_need_standing rfl hr (by decide) (takes_of rfl rfl rfl rfl) (ca_cons (c_var 0) (ca_cons (c_var 1) ca_nil)))) (cb_one (cs_ret (c_callTy call_tuple_of ok_tuple T.b_tuple PyProof.Rows.boot_tuple (ca_cons (c_comp [("tie", 2)] rfl sc_turns_of.nd (ci_list (c_fld ti_ties ts_ties rfl (hi_ties T) (hs_ties T) (c_var 0)) rfl) (blk_of (by kernel_rfl)) (fun _ _ _ _ _ => (cg_name 2 sc_turns_of.nd)) (fun _ _ _ _ _ => (cts_one (ct_cmp (op_eqD hr.units) ok_eq (c_ix rfl (hu_of hr) (c_var 1) (c_ix rfl (hu_of hr) (c_var 2) c_int)) (c_ix rfl (hu_of hr) (c_var 1) (c_ix rfl (hu_of hr) (c_var 2) c_int))))) (fun _ _ _ _ _ => (c_var 2))) ca_nil)))))
theorem sc_walked : FnScope ["web", "standing", "turns", "here", "number", "turn"] ["web", "standing", "turns"] (defScope (top 33)) := ⟨rfl, rfl, rfl, by decide +kernel, rfl, by decide +kernel, by decide +kernel⟩
theorem b_walked : BindsT "walked" "walked" (top 33) ["web", "standing", "turns"] := fun _ _ _ _ _ _ us hl => match us, hl with | [_, _, _], _ => rfl
theorem bk_walked_turns_standing_web : BindsKw "walked" "walked" (top 33) ["web", "standing", "turns"] ["turns", "standing", "web"] 0 (perm [2, 1, 0]) := fun _ _ _ _ _ _ us ws h1 h2 => match us, ws, h1, h2 with | [], [_, _, _], _, _ => rfl
def F_walked : FS := (fSeq (fDrop (fCall 2 G_need_standing (fCons (fVar 0) (fCons (fVar 1) fNil)))) (fSeq (fIfS (fNot (fB (fCall 1 G_is_list (fCons (fVar 2) fNil)))) fEr fNx) (fSeq (fSet 3 (fCb gTuple (fCons (fVar 1) fNil))) (fSeq (fFor (fEnum (fVar 2)) (gTp 2 (gsCons (gNm 4) (gsCons (gNm 5) gsNil))) (fSet 3 (fCall 4 G_done_at (fCons (fVar 0) (fCons (fVar 3) (fCons (fVar 5) (fCons (fVar 4) fNil))))))) (fRet (fVar 3))))))
def G_walked : FD := runDef 6 F_walked
theorem D_walked (T : Txt cf mg) (D_done_at : Df P w cf mg base "done_at" (top 31) ["web", "standing", "turn", "number"] 5 G_done_at) (D_is_list : Df P w cf mg base "is_list" (top 16) ["value"] 1 G_is_list) (D_need_standing : Df P w cf mg base "need_standing" (top 27) ["web", "standing"] 3 G_need_standing) : Df P w cf mg base "walked" (top 33) ["web", "standing", "turns"] 6 G_walked :=
  df_of T.r_walked sc_walked (fs := F_walked) (.inl rfl) fun _ _ _ _ _ _ _ hr => by
    unfold F_walked
    exact (cb_cons (cs_expr (c_df D_need_standing b_need_standing rfl hr (by decide) (takes_of rfl rfl rfl rfl) (ca_cons (c_var 0) (ca_cons (c_var 1) ca_nil)))) (cb_cons (cs_if (ct_not (ct_val (c_df D_is_list b_is_list rfl hr (by decide) (takes_of rfl rfl rfl rfl) (ca_cons (c_var 2) ca_nil)))) (cb_one cs_never) cb_nil) (cb_cons (cs_set 3 sc_walked.nd (c_callTy call_tuple_of ok_tuple T.b_tuple PyProof.Rows.boot_tuple (ca_cons (c_var 1) ca_nil))) (cb_cons (cs_for (passes_of rfl) rfl (ci_enum rfl T.b_enumerate (c_var 2)) (cg_tup rfl (cgs_cons (cg_name 4 sc_walked.nd) (cgs_cons (cg_name 5 sc_walked.nd) cgs_nil))) (cb_one (cs_set 3 sc_walked.nd (c_df D_done_at b_done_at rfl hr (by decide) (takes_of rfl rfl rfl rfl) (ca_cons (c_var 0) (ca_cons (c_var 3) (ca_cons (c_var 5) (ca_cons (c_var 4) ca_nil)))))))) (cb_one (cs_ret (c_var 3)))))))
theorem sc__law_webs_right : FnScope ["_law_net", "_law_near", "_law_act"] ["_law_net", "_law_near"] (defScope (top 70)) := ⟨rfl, rfl, rfl, by decide +kernel, rfl, by decide +kernel, by decide +kernel⟩
theorem b__law_webs_right : BindsT "_law_webs_right" "_law_webs_right" (top 70) ["_law_net", "_law_near"] := fun _ _ _ _ _ _ us hl => match us, hl with | [_, _], _ => rfl
def F__law_webs_right : FS := (fSeq (fIfS (fOr (fB (f2 (gNeO 1 G_Web___eq__) (fMakeK (.slt 1 []) 3 2 [1, 0] G_Web___init__ (fCons (fFld ti_ties ts_ties (fVar 0)) (fCons (fFld ti_many ts_many (fVar 0)) fNil))) (fVar 0))) (fB (f2 gNe (fMthK true 1 2 1 [0] G_Web_neighbours (fVar 0) (fCons (fC (.int 0)) fNil)) (fMthS 1 2 G_Web_neighbours (fVar 0) (fCons (fC (.int 0)) fNil))))) (fRet (fC (.bl false))) fNx) (fSeq (fIfS (fOr (fB (f2 gNe (fCallK 1 1 [0] G_pieces (fCons (fVar 0) fNil)) (fCall 1 G_pieces (fCons (fVar 0) fNil)))) (fOr (fB (f2 gNe (fCallK 1 1 [0] G_sides (fCons (fVar 0) fNil)) (fCall 1 G_sides (fCons (fVar 0) fNil)))) (fB (f2 gNe (fCallK 1 1 [0] G_is_two_sided (fCons (fVar 0) fNil)) (fCall 1 G_is_two_sided (fCons (fVar 0) fNil)))))) (fRet (fC (.bl false))) fNx) (fSeq (fIfS (fB (f2 gNe (fCallK 2 2 [1, 0] G_turns_of (fCons (fVar 1) (fCons (fVar 0) fNil))) (fCall 2 G_turns_of (fCons (fVar 0) (fCons (fVar 1) fNil))))) (fRet (fC (.bl false))) fNx) (fSeq (fIfS (fB (f2 gNe (fCallK 2 2 [1, 0] G_counts (fCons (fVar 1) (fCons (fVar 0) fNil))) (fCall 2 G_counts (fCons (fVar 0) (fCons (fVar 1) fNil))))) (fRet (fC (.bl false))) fNx) (fSeq (fSet 2 (fTup (fCons (fC (.int 0)) (fCons (fC (.int 1)) fNil)))) (fSeq (fIfS (fB (f2 gNe (fCallK 3 3 [2, 1, 0] G_can (fCons (fVar 2) (fCons (fVar 1) (fCons (fVar 0) fNil)))) (fCall 3 G_can (fCons (fVar 0) (fCons (fVar 1) (fCons (fVar 2) fNil)))))) (fRet (fC (.bl false))) fNx) (fSeq (fIfS (fAnd (fB (fCall 3 G_can (fCons (fVar 0) (fCons (fVar 1) (fCons (fVar 2) fNil))))) (fB (f2 gNe (fCallK 3 3 [2, 1, 0] G_done (fCons (fVar 2) (fCons (fVar 1) (fCons (fVar 0) fNil)))) (fCall 3 G_done (fCons (fVar 0) (fCons (fVar 1) (fCons (fVar 2) fNil))))))) (fRet (fC (.bl false))) fNx) (fRet (f2 gEq (fCallK 3 3 [2, 1, 0] G_walked (fCons (fTup fNil) (fCons (fVar 1) (fCons (fVar 0) fNil)))) (fVar 1))))))))))
def G__law_webs_right : FD := runDef 3 F__law_webs_right
theorem D__law_webs_right (T : Txt cf mg) (D_Web___eq__ : Mf P w cf mg base 1 "__eq__" "Web.__eq__" (inClass (top 19) 3) ["self", "other"] 1 G_Web___eq__) (D_Web___init__ : Mf P w cf mg base 1 "__init__" "Web.__init__" (inClass (top 19) 1) ["self", "many", "ties"] 5 G_Web___init__) (D_Web_neighbours : Mf P w cf mg base 1 "neighbours" "Web.neighbours" (inClass (top 19) 4) ["self", "place"] 3 G_Web_neighbours) (D_can : Df P w cf mg base "can" (top 30) ["web", "standing", "turn"] 5 G_can) (D_counts : Df P w cf mg base "counts" (top 36) ["web", "standing"] 4 G_counts) (D_done : Df P w cf mg base "done" (top 32) ["web", "standing", "turn"] 6 G_done) (D_is_two_sided : Df P w cf mg base "is_two_sided" (top 24) ["web"] 4 G_is_two_sided) (D_pieces : Df P w cf mg base "pieces" (top 21) ["web"] 2 G_pieces) (D_sides : Df P w cf mg base "sides" (top 23) ["web"] 3 G_sides) (D_turns_of : Df P w cf mg base "turns_of" (top 34) ["web", "standing"] 4 G_turns_of) (D_walked : Df P w cf mg base "walked" (top 33) ["web", "standing", "turns"] 6 G_walked) : Df P w cf mg base "_law_webs_right" (top 70) ["_law_net", "_law_near"] 7 G__law_webs_right :=
  df_of T.r__law_webs_right sc__law_webs_right (fs := F__law_webs_right) (.inl rfl) fun _ _ _ _ _ _ _ hr => by
    unfold F__law_webs_right
    exact (cb_cons (cs_if (CW.ct (cw_or (ct_cmpE (op_neO D_Web___eq__ T.o_Web b_Web___eq__ rfl hr (by decide) (takes_of rfl rfl rfl rfl)) (ok_neO 1 G_Web___eq__) (c_mkK (.slt 1 []) ["ties", "many"] [1, 0] (.inr rfl) D_Web___init__ T.m_Web bk_Web___init___ties_many rfl hr (by decide) (takes_of rfl rfl rfl rfl) (ck_cons (c_fld ti_ties ts_ties rfl (hi_ties T) (hs_ties T) (c_var 0)) (ck_cons (c_fld ti_many ts_many rfl (hi_many T) (hs_many T) (c_var 0)) ck_nil))) (c_var 0)) (cw_or1 (ct_cmp (op_neD hr.units) ok_ne (c_mfK true ["place"] [0] D_Web_neighbours bk_Web_neighbours_place T.c_Web rfl hr (by decide) (takes_of rfl rfl rfl rfl) (c_var 0) (ck_cons c_int ck_nil)) (c_sm D_Web_neighbours b_Web_neighbours T.c_Web rfl hr (by decide) (takes_of rfl rfl rfl rfl) (c_var 0) (ca_cons c_int ca_nil)))))) (cb_one (cs_ret c_bl)) cb_nil) (cb_cons (cs_if (CW.ct (cw_or (ct_cmp (op_neD hr.units) ok_ne (c_dfK ["web"] [0] D_pieces bk_pieces_web rfl hr (by decide) (takes_of rfl rfl rfl rfl) (ck_cons (c_var 0) ck_nil)) (c_df D_pieces b_pieces rfl hr (by decide) (takes_of rfl rfl rfl rfl) (ca_cons (c_var 0) ca_nil))) (cw_or (ct_cmp (op_neD hr.units) ok_ne (c_dfK ["web"] [0] D_sides bk_sides_web rfl hr (by decide) (takes_of rfl rfl rfl rfl) (ck_cons (c_var 0) ck_nil)) (c_df D_sides b_sides rfl hr (by decide) (takes_of rfl rfl rfl rfl) (ca_cons (c_var 0) ca_nil))) (cw_or1 (ct_cmp (op_neD hr.units) ok_ne (c_dfK ["web"] [0] D_is_two_sided bk_is_two_sided_web rfl hr (by decide) (takes_of rfl rfl rfl rfl) (ck_cons (c_var 0) ck_nil)) (c_df D_is_two_sided b_is_two_sided rfl hr (by decide) (takes_of rfl rfl rfl rfl) (ca_cons (c_var 0) ca_nil))))))) (cb_one (cs_ret c_bl)) cb_nil) (cb_cons (cs_if (ct_cmp (op_neD hr.units) ok_ne (c_dfK ["standing", "web"] [1, 0] D_turns_of bk_turns_of_standing_web rfl hr (by decide) (takes_of rfl rfl rfl rfl) (ck_cons (c_var 1) (ck_cons (c_var 0) ck_nil))) (c_df D_turns_of b_turns_of rfl hr (by decide) (takes_of rfl rfl rfl rfl) (ca_cons (c_var 0) (ca_cons (c_var 1) ca_nil)))) (cb_one (cs_ret c_bl)) cb_nil) (cb_cons (cs_if (ct_cmp (op_neD hr.units) ok_ne (c_dfK ["standing", "web"] [1, 0] D_counts bk_counts_standing_web rfl hr (by decide) (takes_of rfl rfl rfl rfl) (ck_cons (c_var 1) (ck_cons (c_var 0) ck_nil))) (c_df D_counts b_counts rfl hr (by decide) (takes_of rfl rfl rfl rfl) (ca_cons (c_var 0) (ca_cons (c_var 1) ca_nil)))) (cb_one (cs_ret c_bl)) cb_nil) (cb_cons (cs_set 2 sc__law_webs_right.nd (c_tup (ca_cons c_int (ca_cons c_int ca_nil)))) (cb_cons (cs_if (ct_cmp (op_neD hr.units) ok_ne (c_dfK ["turn", "standing", "web"] [2, 1, 0] D_can bk_can_turn_standing_web rfl hr (by decide) (takes_of rfl rfl rfl rfl) (ck_cons (c_var 2) (ck_cons (c_var 1) (ck_cons (c_var 0) ck_nil)))) (c_df D_can b_can rfl hr (by decide) (takes_of rfl rfl rfl rfl) (ca_cons (c_var 0) (ca_cons (c_var 1) (ca_cons (c_var 2) ca_nil))))) (cb_one (cs_ret c_bl)) cb_nil) (cb_cons (cs_if (CW.ct (cw_and (ct_val (c_df D_can b_can rfl hr (by decide) (takes_of rfl rfl rfl rfl) (ca_cons (c_var 0) (ca_cons (c_var 1) (ca_cons (c_var 2) ca_nil))))) (cw_and1 (ct_cmp (op_neD hr.units) ok_ne (c_dfK ["turn", "standing", "web"] [2, 1, 0] D_done bk_done_turn_standing_web rfl hr (by decide) (takes_of rfl rfl rfl rfl) (ck_cons (c_var 2) (ck_cons (c_var 1) (ck_cons (c_var 0) ck_nil)))) (c_df D_done b_done rfl hr (by decide) (takes_of rfl rfl rfl rfl) (ca_cons (c_var 0) (ca_cons (c_var 1) (ca_cons (c_var 2) ca_nil)))))))) (cb_one (cs_ret c_bl)) cb_nil) (cb_one (cs_ret (c_cmp (op_eqD hr.units) ok_eq (c_dfK ["turns", "standing", "web"] [2, 1, 0] D_walked bk_walked_turns_standing_web rfl hr (by decide) (takes_of rfl rfl rfl rfl) (ck_cons (c_tup ca_nil) (ck_cons (c_var 1) (ck_cons (c_var 0) ck_nil)))) (c_var 1)))))))))))
theorem sc_law : FnScope ["_law_script", "_law_m", "_law_rows", "_law_net", "_law_near", "_law_far"] ["_law_script"] (defScope (top 72)) := ⟨rfl, rfl, rfl, by decide +kernel, rfl, by decide +kernel, by decide +kernel⟩
theorem b_law : BindsT "law" "law" (top 72) ["_law_script"] := fun _ _ _ _ _ _ us hl => match us, hl with | [_], _ => rfl
def F_law : FS := (fSeq (fSet 1 (fCall 1 G__law_begun (fCons (fVar 0) fNil))) (fSeq (fSet 2 (fLst (fCons (fTup (fCons (fMake (.slt 1 []) 3 G_Web___init__ (fCons (fC (.int 2)) (fCons (fLst (fCons (fTup (fCons (fC (.int 0)) (fCons (fC (.int 1)) fNil))) fNil)) fNil))) (fCons (fTup (fCons (fC (.int 0)) (fCons (fC (.int 0)) fNil))) (fCons (fTup (fCons (fC (.int 1)) (fCons (fC (.int 1)) fNil))) fNil)))) (fCons (fTup (fCons (fMake (.slt 1 []) 3 G_Web___init__ (fCons (fC (.int 3)) (fCons (fLst (fCons (fTup (fCons (fC (.int 0)) (fCons (fC (.int 1)) fNil))) (fCons (fTup (fCons (fC (.int 1)) (fCons (fC (.int 2)) fNil))) fNil))) fNil))) (fCons (fTup (fCons (fC (.int 0)) (fCons (fC (.int 0)) (fCons (fC (.int 1)) fNil)))) (fCons (fTup (fCons (fC (.int 1)) (fCons (fC (.int 0)) (fCons (fC (.int 0)) fNil)))) fNil)))) fNil)))) (fSeq (fDrop (fMeth isL gAppend (fVar 2) (fCons (fTup (fCons (fMake (.slt 1 []) 3 G_Web___init__ (fCons (fC (.int 4)) (fCons (fLst (fCons (fTup (fCons (fC (.int 0)) (fCons (fC (.int 1)) fNil))) (fCons (fTup (fCons (fC (.int 0)) (fCons (fC (.int 3)) fNil))) (fCons (fTup (fCons (fC (.int 1)) (fCons (fC (.int 2)) fNil))) (fCons (fTup (fCons (fC (.int 2)) (fCons (fC (.int 3)) fNil))) fNil))))) fNil))) (fCons (fTup (fCons (fC (.int 1)) (fCons (fC (.int 1)) (fCons (fC (.int 0)) (fCons (fC (.int 0)) fNil))))) (fCons (fTup (fCons (fC (.int 0)) (fCons (fC (.int 0)) (fCons (fC (.int 1)) (fCons (fC (.int 1)) fNil))))) fNil)))) fNil))) (fSeq (fDrop (fMeth isL gAppend (fVar 2) (fCons (fTup (fCons (fMake (.slt 1 []) 3 G_Web___init__ (fCons (fC (.int 4)) (fCons (fLst (fCons (fTup (fCons (fC (.int 0)) (fCons (fC (.int 1)) fNil))) (fCons (fTup (fCons (fC (.int 2)) (fCons (fC (.int 3)) fNil))) fNil))) fNil))) (fCons (fTup (fCons (fC (.int 0)) (fCons (fC (.int 1)) (fCons (fC (.int 0)) (fCons (fC (.int 0)) fNil))))) (fCons (fTup (fCons (fC (.int 0)) (fCons (fC (.int 1)) (fCons (fC (.int 1)) (fCons (fC (.int 1)) fNil))))) fNil)))) fNil))) (fSeq (fAsgG (f2 gIx (fVar 2) (fCall 2 G__law_draw (fCons (fVar 1) (fCons (fC (.int 4)) fNil)))) (gTp 3 (gsCons (gNm 3) (gsCons (gNm 4) (gsCons (gNm 5) gsNil))))) (fForg [true, true, true, true] (fRet (fAndV (fCall 2 G__law_webs_right (fCons (fVar 3) (fCons (fVar 4) fNil))) (fCall 3 G__law_ways_right (fCons (fVar 3) (fCons (fVar 4) (fCons (fVar 5) fNil))))))))))))
def G_law : FD := runDef 6 F_law
theorem D_law (T : Txt cf mg) (D_Web___init__ : Mf P w cf mg base 1 "__init__" "Web.__init__" (inClass (top 19) 1) ["self", "many", "ties"] 5 G_Web___init__) (D__law_begun : Df P w cf mg base "_law_begun" (top 69) ["_law_script"] 2 G__law_begun) (D__law_draw : Df P w cf mg base "_law_draw" (top 68) ["_law_m", "_law_limit"] 2 G__law_draw) (D__law_ways_right : Df P w cf mg base "_law_ways_right" (top 71) ["_law_net", "_law_near", "_law_far"] 12 G__law_ways_right) (D__law_webs_right : Df P w cf mg base "_law_webs_right" (top 70) ["_law_net", "_law_near"] 7 G__law_webs_right) : Df P w cf mg base "law" (top 72) ["_law_script"] 13 G_law :=
  df_of T.r_law sc_law (fs := F_law) (.inl rfl) fun _ _ _ _ _ _ _ hr => by
    unfold F_law
    exact (cb_cons (cs_set 1 sc_law.nd (c_df D__law_begun b__law_begun rfl hr (by decide) (takes_of rfl rfl rfl rfl) (ca_cons (c_var 0) ca_nil))) (cb_cons (cs_set 2 sc_law.nd (c_lst (ca_cons (c_tup (ca_cons (c_mk (.slt 1 []) (.inr rfl) D_Web___init__ T.m_Web b_Web___init__ rfl hr (by decide) (takes_of rfl rfl rfl rfl) (ca_cons c_int (ca_cons (c_lst (ca_cons (c_tup (ca_cons c_int (ca_cons c_int ca_nil))) ca_nil)) ca_nil))) (ca_cons (c_tup (ca_cons c_int (ca_cons c_int ca_nil))) (ca_cons (c_tup (ca_cons c_int (ca_cons c_int ca_nil))) ca_nil)))) (ca_cons (c_tup (ca_cons (c_mk (.slt 1 []) (.inr rfl) D_Web___init__ T.m_Web b_Web___init__ rfl hr (by decide) (takes_of rfl rfl rfl rfl) (ca_cons c_int (ca_cons (c_lst (ca_cons (c_tup (ca_cons c_int (ca_cons c_int ca_nil))) (ca_cons (c_tup (ca_cons c_int (ca_cons c_int ca_nil))) ca_nil))) ca_nil))) (ca_cons (c_tup (ca_cons c_int (ca_cons c_int (ca_cons c_int ca_nil)))) (ca_cons (c_tup (ca_cons c_int (ca_cons c_int (ca_cons c_int ca_nil)))) ca_nil)))) ca_nil)))) (cb_cons (cs_expr (c_bm PySem.F.plainAttrs_list PySem.F.slot_list_append PySem.F.type_list_append mt_append rfl isL_ok ok_append (c_var 2) (ca_cons (c_tup (ca_cons (c_mk (.slt 1 []) (.inr rfl) D_Web___init__ T.m_Web b_Web___init__ rfl hr (by decide) (takes_of rfl rfl rfl rfl) (ca_cons c_int (ca_cons (c_lst (ca_cons (c_tup (ca_cons c_int (ca_cons c_int ca_nil))) (ca_cons (c_tup (ca_cons c_int (ca_cons c_int ca_nil))) (ca_cons (c_tup (ca_cons c_int (ca_cons c_int ca_nil))) (ca_cons (c_tup (ca_cons c_int (ca_cons c_int ca_nil))) ca_nil))))) ca_nil))) (ca_cons (c_tup (ca_cons c_int (ca_cons c_int (ca_cons c_int (ca_cons c_int ca_nil))))) (ca_cons (c_tup (ca_cons c_int (ca_cons c_int (ca_cons c_int (ca_cons c_int ca_nil))))) ca_nil)))) ca_nil))) (cb_cons (cs_expr (c_bm PySem.F.plainAttrs_list PySem.F.slot_list_append PySem.F.type_list_append mt_append rfl isL_ok ok_append (c_var 2) (ca_cons (c_tup (ca_cons (c_mk (.slt 1 []) (.inr rfl) D_Web___init__ T.m_Web b_Web___init__ rfl hr (by decide) (takes_of rfl rfl rfl rfl) (ca_cons c_int (ca_cons (c_lst (ca_cons (c_tup (ca_cons c_int (ca_cons c_int ca_nil))) (ca_cons (c_tup (ca_cons c_int (ca_cons c_int ca_nil))) ca_nil))) ca_nil))) (ca_cons (c_tup (ca_cons c_int (ca_cons c_int (ca_cons c_int (ca_cons c_int ca_nil))))) (ca_cons (c_tup (ca_cons c_int (ca_cons c_int (ca_cons c_int (ca_cons c_int ca_nil))))) ca_nil)))) ca_nil))) (cb_cons (cs_asg (c_ix rfl (hu_of hr) (c_var 2) (c_df D__law_draw b__law_draw rfl hr (by decide) (takes_of rfl rfl rfl rfl) (ca_cons (c_var 1) (ca_cons c_int ca_nil)))) (cg_tup rfl (cgs_cons (cg_name 3 sc_law.nd) (cgs_cons (cg_name 4 sc_law.nd) (cgs_cons (cg_name 5 sc_law.nd) cgs_nil))))) (cb_forg [true, true, true, true] (cb_one (cs_ret (c_and (c_df D__law_webs_right b__law_webs_right rfl hr (by decide) (takes_of rfl rfl rfl rfl) (ca_cons (c_var 3) (ca_cons (c_var 4) ca_nil))) (c_one (c_df D__law_ways_right b__law_ways_right rfl hr (by decide) (takes_of rfl rfl rfl rfl) (ca_cons (c_var 3) (ca_cons (c_var 4) (ca_cons (c_var 5) ca_nil))))))))))))))
/-! ### all of them -/
theorem D_all (T : Txt cf mg) : Df P w cf mg base "law" (top 72) ["_law_script"] 13 G_law := by
  have h_is_whole := D_is_whole (P := P) (w := w) (base := base) T
  have h_is_among := D_is_among (P := P) (w := w) (base := base) T h_is_whole
  have h_is_list := D_is_list (P := P) (w := w) (base := base) T
  have h_is_tie := D_is_tie (P := P) (w := w) (base := base) T h_is_among
  have h_need_ties := D_need_ties (P := P) (w := w) (base := base) T h_is_list h_is_tie
  have h_Web___init__ := D_Web___init__ (P := P) (w := w) (base := base) T h_is_among h_need_ties
  have h__law_folded := D__law_folded (P := P) (w := w) (base := base) T
  have h__law_begun := D__law_begun (P := P) (w := w) (base := base) T h__law_folded
  have h__law_mixed := D__law_mixed (P := P) (w := w) (base := base) T
  have h__law_draw := D__law_draw (P := P) (w := w) (base := base) T h__law_mixed
  have h_Flow_total := D_Flow_total (P := P) (w := w) (base := base) T
  have h_Flow_cost := D_Flow_cost (P := P) (w := w) (base := base) T
  have h_Flow_reached := D_Flow_reached (P := P) (w := w) (base := base) T h_Flow_cost
  have h_Flow_send := D_Flow_send (P := P) (w := w) (base := base) T
  have h_Flow_go_on := D_Flow_go_on (P := P) (w := w) (base := base) T h_Flow_reached h_Flow_send
  have h_Flow___init__ := D_Flow___init__ (P := P) (w := w) (base := base) T h_Flow_go_on
  have h_dots_in := D_dots_in (P := P) (w := w) (base := base) T
  have h_spread := D_spread (P := P) (w := w) (base := base) T
  have h_pieces := D_pieces (P := P) (w := w) (base := base) T h_spread
  have h_sides_in := D_sides_in (P := P) (w := w) (base := base) T h_spread
  have h_all_dots := D_all_dots (P := P) (w := w) (base := base) T h_dots_in h_pieces h_sides_in
  have h_need_standing := D_need_standing (P := P) (w := w) (base := base) T h_is_among h_is_list
  have h_count_in := D_count_in (P := P) (w := w) (base := base) T h_sides_in
  have h_counts := D_counts (P := P) (w := w) (base := base) T h_count_in h_need_standing h_pieces
  have h_unlike_count := D_unlike_count (P := P) (w := w) (base := base) T h_counts
  have h_need_like := D_need_like (P := P) (w := w) (base := base) T h_need_standing h_unlike_count
  have h_need_two_sided := D_need_two_sided (P := P) (w := w) (base := base) T h_pieces h_sides_in
  have h_need_short := D_need_short (P := P) (w := w) (base := base) T h_need_like h_need_standing h_need_two_sided
  have h_flow_of := D_flow_of (P := P) (w := w) (base := base) T h_Flow___init__ h_all_dots h_need_short
  have h_fewest := D_fewest (P := P) (w := w) (base := base) T h_Flow_total h_flow_of
  have h_Flow_prices := D_Flow_prices (P := P) (w := w) (base := base) T h_Flow_reached
  have h_prices := D_prices (P := P) (w := w) (base := base) T h_Flow_prices h_flow_of
  have h_dot_turns := D_dot_turns (P := P) (w := w) (base := base) T h_Flow___init__ h_Flow_total
  have h_shortest_row := D_shortest_row (P := P) (w := w) (base := base) T h_all_dots h_dot_turns h_need_short
  have h_fewest_paper := D_fewest_paper (P := P) (w := w) (base := base) T h_prices h_shortest_row
  have h_are_prices := D_are_prices (P := P) (w := w) (base := base) T h_is_whole
  have h_is_turn := D_is_turn (P := P) (w := w) (base := base) T h_is_tie
  have h_turned := D_turned (P := P) (w := w) (base := base) T
  have h_leads := D_leads (P := P) (w := w) (base := base) T h_is_turn h_turned
  have h_shown_by := D_shown_by (P := P) (w := w) (base := base) T h_all_dots
  have h_is_fewest_paper := D_is_fewest_paper (P := P) (w := w) (base := base) T h_are_prices h_leads h_need_short h_shown_by
  have h_is_paper := D_is_paper (P := P) (w := w) (base := base) T h_counts h_is_among h_is_whole h_leads h_need_standing
  have h_odd_tie := D_odd_tie (P := P) (w := w) (base := base) T
  have h_tree_of := D_tree_of (P := P) (w := w) (base := base) T h_Web___init__ h_spread
  have h_odd_turns := D_odd_turns (P := P) (w := w) (base := base) T h_dot_turns h_dots_in h_odd_tie h_tree_of
  have h_piece_turns := D_piece_turns (P := P) (w := w) (base := base) T h_dot_turns h_dots_in h_odd_turns h_sides_in
  have h_lead := D_lead (P := P) (w := w) (base := base) T h_need_like h_piece_turns h_pieces
  have h_paper := D_paper (P := P) (w := w) (base := base) T h_lead h_need_standing h_unlike_count
  have h_reaches := D_reaches (P := P) (w := w) (base := base) T h_need_standing h_unlike_count
  have h__law_ways_right := D__law_ways_right (P := P) (w := w) (base := base) T h_fewest h_fewest_paper h_is_fewest_paper h_is_paper h_lead h_paper h_prices h_reaches h_shortest_row
  have h_Web___eq__ := D_Web___eq__ (P := P) (w := w) (base := base) T
  have h_Web_neighbours := D_Web_neighbours (P := P) (w := w) (base := base) T h_is_among
  have h_can := D_can (P := P) (w := w) (base := base) T h_is_turn h_need_standing
  have h_done_at := D_done_at (P := P) (w := w) (base := base) T h_is_turn h_turned
  have h_done := D_done (P := P) (w := w) (base := base) T h_done_at h_need_standing
  have h_sides := D_sides (P := P) (w := w) (base := base) T h_pieces h_sides_in
  have h_is_two_sided := D_is_two_sided (P := P) (w := w) (base := base) T h_sides
  have h_turns_of := D_turns_of (P := P) (w := w) (base := base) T h_need_standing
  have h_walked := D_walked (P := P) (w := w) (base := base) T h_done_at h_is_list h_need_standing
  have h__law_webs_right := D__law_webs_right (P := P) (w := w) (base := base) T h_Web___eq__ h_Web___init__ h_Web_neighbours h_can h_counts h_done h_is_two_sided h_pieces h_sides h_turns_of h_walked
  have h_law := D_law (P := P) (w := w) (base := base) T h_Web___init__ h__law_begun h__law_draw h__law_ways_right h__law_webs_right
  exact h_law
end
end Lk

set_option maxRecDepth 100000
set_option maxHeartbeats 4000000
namespace Lk
open PySem PySem.Spec L2 PyProof.Rows Dn
theorem mixed_at (c n : Int) (hn : n.natAbs < 4611686018427387904) (A : AH) : ∃ v : Int, 0 ≤ v ∧ v < 2147483629 ∧ G__law_mixed [.int c, .int n] A = .ok (.int v) A := mixed_ok c n hn A
theorem begun_at (ns : List Int) (hl : ns.length ≤ 63) : ∃ (cs gs : List Int), gs.length = ns.length ∧ G__law_begun [.scr ns] [] = .ok (.obj 0) [.dK (mD 1 3 0), .lst (cs.map AV.int), .lst [], .lst (gs.map AV.int)] ∧ Dr [.dK (mD 1 3 0), .lst (cs.map AV.int), .lst [], .lst (gs.map AV.int)] 0 1 3 0 cs gs := begun_ok ns hl (folded_ok ns)
theorem draw_at {A : AH} {i c g : Nat} {s : Int} {cs gs : List Int} (D : Dr A i c g s cs gs) {k : Int} (k0 : 0 < k) (k1 : k < 1073741824) (s0 : 0 ≤ s) (s1 : s < 1000000000000000000) :
    ∃ (v : Int) (gs' : List Int), 0 ≤ v ∧ v < k ∧ gs'.length = gs.length ∧ G__law_draw [.obj i, .int k] A = .ok (.int v) (aft A i c g s gs') := draw_ok (fun x n h B => mixed_at x n h B) D k0 k1 s0 s1
/-- the rows -/
abbrev fRows : FS := (fSeq (fSet 2 (fLst (fCons (fTup (fCons (fMake (.slt 1 []) 3 G_Web___init__ (fCons (fC (.int 2)) (fCons (fLst (fCons (fTup (fCons (fC (.int 0)) (fCons (fC (.int 1)) fNil))) fNil)) fNil))) (fCons (fTup (fCons (fC (.int 0)) (fCons (fC (.int 0)) fNil))) (fCons (fTup (fCons (fC (.int 1)) (fCons (fC (.int 1)) fNil))) fNil)))) (fCons (fTup (fCons (fMake (.slt 1 []) 3 G_Web___init__ (fCons (fC (.int 3)) (fCons (fLst (fCons (fTup (fCons (fC (.int 0)) (fCons (fC (.int 1)) fNil))) (fCons (fTup (fCons (fC (.int 1)) (fCons (fC (.int 2)) fNil))) fNil))) fNil))) (fCons (fTup (fCons (fC (.int 0)) (fCons (fC (.int 0)) (fCons (fC (.int 1)) fNil)))) (fCons (fTup (fCons (fC (.int 1)) (fCons (fC (.int 0)) (fCons (fC (.int 0)) fNil)))) fNil)))) fNil)))) (fSeq (fDrop (fMeth isL gAppend (fVar 2) (fCons (fTup (fCons (fMake (.slt 1 []) 3 G_Web___init__ (fCons (fC (.int 4)) (fCons (fLst (fCons (fTup (fCons (fC (.int 0)) (fCons (fC (.int 1)) fNil))) (fCons (fTup (fCons (fC (.int 0)) (fCons (fC (.int 3)) fNil))) (fCons (fTup (fCons (fC (.int 1)) (fCons (fC (.int 2)) fNil))) (fCons (fTup (fCons (fC (.int 2)) (fCons (fC (.int 3)) fNil))) fNil))))) fNil))) (fCons (fTup (fCons (fC (.int 1)) (fCons (fC (.int 1)) (fCons (fC (.int 0)) (fCons (fC (.int 0)) fNil))))) (fCons (fTup (fCons (fC (.int 0)) (fCons (fC (.int 0)) (fCons (fC (.int 1)) (fCons (fC (.int 1)) fNil))))) fNil)))) fNil))) (fDrop (fMeth isL gAppend (fVar 2) (fCons (fTup (fCons (fMake (.slt 1 []) 3 G_Web___init__ (fCons (fC (.int 4)) (fCons (fLst (fCons (fTup (fCons (fC (.int 0)) (fCons (fC (.int 1)) fNil))) (fCons (fTup (fCons (fC (.int 2)) (fCons (fC (.int 3)) fNil))) fNil))) fNil))) (fCons (fTup (fCons (fC (.int 0)) (fCons (fC (.int 1)) (fCons (fC (.int 0)) (fCons (fC (.int 0)) fNil))))) (fCons (fTup (fCons (fC (.int 0)) (fCons (fC (.int 1)) (fCons (fC (.int 1)) (fCons (fC (.int 1)) fNil))))) fNil)))) fNil)))))
abbrev fC5 : FE := (fCall 2 G__law_draw (fCons (fVar 1) (fCons (fC (.int 4)) fNil)))
abbrev g5 : FG := (gTp 3 (gsCons (gNm 3) (gsCons (gNm 4) (gsCons (gNm 5) gsNil))))
abbrev f6 : FS := (fForg [true, true, true, true] (fRet (fAndV (fCall 2 G__law_webs_right (fCons (fVar 3) (fCons (fVar 4) fNil))) (fCall 3 G__law_ways_right (fCons (fVar 3) (fCons (fVar 4) (fCons (fVar 5) fNil)))))))
abbrev rho1 (ns : List Int) : Rho := [some (.scr ns), some (.obj 0), none, none, none, none]
def rowsOut : SRes := fRows (rho1 []) [.unk, .unk, .unk, .unk]
def R : AH := match rowsOut with
  | .nx _ A => A.drop 4
  | _ => []
def xr : AV := match rowsOut with
  | .nx ρ _ => match ρ[2]? with
    | some (some v) => v
    | _ => .non
  | _ => .non
def UR : AH := .unk :: .unk :: .unk :: .unk :: R
abbrev rho2 (ns : List Int) : Rho := [some (.scr ns), some (.obj 0), some xr, none, none, none]
theorem rows_ok (ns : List Int) (o0 o1 o2 o3 : AO) : fRows (rho1 ns) [o0, o1, o2, o3] = .nx (rho2 ns) (o0 :: o1 :: o2 :: o3 :: R) := by kernel_rfl
theorem R_clo : cloA (R.length + 4) R = true := by kernel_rfl
/-- the things of row v -/
def rowAt (v j : Nat) : AV := match xr with
  | .obj k => match UR[k]? with
    | some (.lst xs) => match xs[v]? with
      | some (.tup ys) => ys.getD j .non
      | _ => .non
    | _ => .non
  | _ => .non
abbrev rho3 (v : Nat) (ns : List Int) : Rho := [some (.scr ns), some (.obj 0), some xr, some (rowAt v 0), some (rowAt v 1), some (rowAt v 2)]
theorem sel0 (ns : List Int) (o0 o1 o2 o3 : AO) : (fAsgG (f2 gIx (fVar 2) (fC (.int 0))) g5) (rho2 ns) (o0 :: o1 :: o2 :: o3 :: R) = .nx (rho3 0 ns) (o0 :: o1 :: o2 :: o3 :: R) := by kernel_rfl
theorem sel1 (ns : List Int) (o0 o1 o2 o3 : AO) : (fAsgG (f2 gIx (fVar 2) (fC (.int 1))) g5) (rho2 ns) (o0 :: o1 :: o2 :: o3 :: R) = .nx (rho3 1 ns) (o0 :: o1 :: o2 :: o3 :: R) := by kernel_rfl
theorem sel2 (ns : List Int) (o0 o1 o2 o3 : AO) : (fAsgG (f2 gIx (fVar 2) (fC (.int 2))) g5) (rho2 ns) (o0 :: o1 :: o2 :: o3 :: R) = .nx (rho3 2 ns) (o0 :: o1 :: o2 :: o3 :: R) := by kernel_rfl
theorem sel3 (ns : List Int) (o0 o1 o2 o3 : AO) : (fAsgG (f2 gIx (fVar 2) (fC (.int 3))) g5) (rho2 ns) (o0 :: o1 :: o2 :: o3 :: R) = .nx (rho3 3 ns) (o0 :: o1 :: o2 :: o3 :: R) := by kernel_rfl
theorem ways_of {a b c : AV} {x_lead x_fewest x_shortest_row x_prices x_paper x_fewest_paper : AV} {A : AH} (hr : G_reaches [a, b, c] A = .ok (.bl true) A) (h_lead : G_lead [a, b, c] A = .ok x_lead A) (e_lead : gNe x_lead x_lead A = .ok (.bl false) A) (h_fewest : G_fewest [a, b, c] A = .ok x_fewest A) (e_fewest : gNe x_fewest x_fewest A = .ok (.bl false) A) (h_shortest_row : G_shortest_row [a, b, c] A = .ok x_shortest_row A) (e_shortest_row : gNe x_shortest_row x_shortest_row A = .ok (.bl false) A) (h_prices : G_prices [a, b, c] A = .ok x_prices A) (e_prices : gNe x_prices x_prices A = .ok (.bl false) A) (h_paper : G_paper [a, b, c] A = .ok x_paper A) (e_paper : gNe x_paper x_paper A = .ok (.bl false) A) (h_fewest_paper : G_fewest_paper [a, b, c] A = .ok x_fewest_paper A) (e_fewest_paper : gNe x_fewest_paper x_fewest_paper A = .ok (.bl false) A) (q : gEq x_fewest_paper x_fewest_paper A = .ok (.bl true) A) (i1 : G_is_paper [a, b, c, x_paper] A = .ok (.bl true) A) (i2 : G_is_fewest_paper [a, b, c, x_fewest_paper] A = .ok (.bl true) A) : G__law_ways_right [a, b, c] A = .ok (.bl true) A := by
  have k3 : ∀ (G : FD), gOrd 3 3 [2, 1, 0] G [] [c, b, a] A = G [a, b, c] A := fun _ => rfl
  have k4 : ∀ (G : FD) (x : AV), gOrd 4 4 [3, 2, 1, 0] G [] [x, c, b, a] A = G [a, b, c, x] A := fun _ _ => rfl
  have t : gNotA (.bl true) (.bl true) A = .ok (.bl false) A := rfl
  have u : gIsA (.bl true) (.bl true) A = .ok (.bl true) A := rfl
  have hb : 0 + 1 + 1 < big := by decide
  unfold G__law_ways_right runDef
  simp only [F__law_ways_right, fSeq, fIfS, fB, fOr, f2, fCallK, fCall, fCons, fNil, fVar, fC, fNx, fRet, fAndV, fAsgG, fTup, gTp, gsCons, gsNil, gNm, asB, List.map_cons, List.map_nil, List.length_cons, List.length_nil, List.replicate, List.cons_append, List.nil_append, List.getElem?_cons_zero, List.getElem?_cons_succ, List.set_cons_zero, List.set_cons_succ, Res.bind_ok, Res.s_ok, if_true, if_false, Bool.false_eq_true, hb, SRes.plain, k3, k4, t, u, hr, q, i1, i2, h_lead, e_lead, h_fewest, e_fewest, h_shortest_row, e_shortest_row, h_prices, e_prices, h_paper, e_paper, h_fewest_paper, e_fewest_paper]
  exact congrArg (Res.ok _) (gcH_self _ _)
theorem webs0 : G__law_webs_right [rowAt 0 0, rowAt 0 1] UR = .ok (.bl true) UR := by kernel_rfl
theorem c0_lead : G_lead [rowAt 0 0, rowAt 0 1, rowAt 0 2] UR = .ok (.tup [(.tup [(.int (0)), (.int (1))])]) UR := by kernel_rfl
theorem c0_fewest : G_fewest [rowAt 0 0, rowAt 0 1, rowAt 0 2] UR = .ok (.int (1)) UR := by kernel_rfl
theorem c0_shortest_row : G_shortest_row [rowAt 0 0, rowAt 0 1, rowAt 0 2] UR = .ok (.tup [(.tup [(.int (0)), (.int (1))])]) UR := by kernel_rfl
theorem c0_prices : G_prices [rowAt 0 0, rowAt 0 1, rowAt 0 2] UR = .ok (.tup [(.int (0)), (.int (-1))]) UR := by kernel_rfl
theorem c0_paper : G_paper [rowAt 0 0, rowAt 0 1, rowAt 0 2] UR = .ok (.tup [(.str "turns"), (.tup [(.tup [(.int (0)), (.int (1))])])]) UR := by kernel_rfl
theorem c0_fewest_paper : G_fewest_paper [rowAt 0 0, rowAt 0 1, rowAt 0 2] UR = .ok (.tup [(.str "fewest"), (.tup [(.tup [(.int (0)), (.int (1))])]), (.tup [(.int (0)), (.int (-1))])]) UR := by kernel_rfl
theorem c0_is_paper : G_is_paper [rowAt 0 0, rowAt 0 1, rowAt 0 2, (.tup [(.str "turns"), (.tup [(.tup [(.int (0)), (.int (1))])])])] UR = .ok (.bl true) UR := by kernel_rfl
theorem c0_is_fewest : G_is_fewest_paper [rowAt 0 0, rowAt 0 1, rowAt 0 2, (.tup [(.str "fewest"), (.tup [(.tup [(.int (0)), (.int (1))])]), (.tup [(.int (0)), (.int (-1))])])] UR = .ok (.bl true) UR := by kernel_rfl
theorem c0_reaches : G_reaches [rowAt 0 0, rowAt 0 1, rowAt 0 2] UR = .ok (.bl true) UR := by kernel_rfl
theorem ways0 : G__law_ways_right [rowAt 0 0, rowAt 0 1, rowAt 0 2] UR = .ok (.bl true) UR := ways_of c0_reaches c0_lead (by kernel_rfl) c0_fewest (by kernel_rfl) c0_shortest_row (by kernel_rfl) c0_prices (by kernel_rfl) c0_paper (by kernel_rfl) c0_fewest_paper (by kernel_rfl) (by kernel_rfl) c0_is_paper c0_is_fewest
theorem webs1 : G__law_webs_right [rowAt 1 0, rowAt 1 1] UR = .ok (.bl true) UR := by kernel_rfl
theorem c1_lead : G_lead [rowAt 1 0, rowAt 1 1, rowAt 1 2] UR = .ok (.tup [(.tup [(.int (0)), (.int (1))]), (.tup [(.int (1)), (.int (2))])]) UR := by kernel_rfl
theorem c1_fewest : G_fewest [rowAt 1 0, rowAt 1 1, rowAt 1 2] UR = .ok (.int (2)) UR := by kernel_rfl
theorem c1_shortest_row : G_shortest_row [rowAt 1 0, rowAt 1 1, rowAt 1 2] UR = .ok (.tup [(.tup [(.int (0)), (.int (1))]), (.tup [(.int (1)), (.int (2))])]) UR := by kernel_rfl
theorem c1_prices : G_prices [rowAt 1 0, rowAt 1 1, rowAt 1 2] UR = .ok (.tup [(.int (0)), (.int (-1)), (.int (-2))]) UR := by kernel_rfl
theorem c1_paper : G_paper [rowAt 1 0, rowAt 1 1, rowAt 1 2] UR = .ok (.tup [(.str "turns"), (.tup [(.tup [(.int (0)), (.int (1))]), (.tup [(.int (1)), (.int (2))])])]) UR := by kernel_rfl
theorem c1_fewest_paper : G_fewest_paper [rowAt 1 0, rowAt 1 1, rowAt 1 2] UR = .ok (.tup [(.str "fewest"), (.tup [(.tup [(.int (0)), (.int (1))]), (.tup [(.int (1)), (.int (2))])]), (.tup [(.int (0)), (.int (-1)), (.int (-2))])]) UR := by kernel_rfl
theorem c1_is_paper : G_is_paper [rowAt 1 0, rowAt 1 1, rowAt 1 2, (.tup [(.str "turns"), (.tup [(.tup [(.int (0)), (.int (1))]), (.tup [(.int (1)), (.int (2))])])])] UR = .ok (.bl true) UR := by kernel_rfl
theorem c1_is_fewest : G_is_fewest_paper [rowAt 1 0, rowAt 1 1, rowAt 1 2, (.tup [(.str "fewest"), (.tup [(.tup [(.int (0)), (.int (1))]), (.tup [(.int (1)), (.int (2))])]), (.tup [(.int (0)), (.int (-1)), (.int (-2))])])] UR = .ok (.bl true) UR := by kernel_rfl
theorem c1_reaches : G_reaches [rowAt 1 0, rowAt 1 1, rowAt 1 2] UR = .ok (.bl true) UR := by kernel_rfl
theorem ways1 : G__law_ways_right [rowAt 1 0, rowAt 1 1, rowAt 1 2] UR = .ok (.bl true) UR := ways_of c1_reaches c1_lead (by kernel_rfl) c1_fewest (by kernel_rfl) c1_shortest_row (by kernel_rfl) c1_prices (by kernel_rfl) c1_paper (by kernel_rfl) c1_fewest_paper (by kernel_rfl) (by kernel_rfl) c1_is_paper c1_is_fewest
theorem webs2 : G__law_webs_right [rowAt 2 0, rowAt 2 1] UR = .ok (.bl true) UR := by kernel_rfl
theorem c2_lead : G_lead [rowAt 2 0, rowAt 2 1, rowAt 2 2] UR = .ok (.tup [(.tup [(.int (0)), (.int (1))]), (.tup [(.int (2)), (.int (3))])]) UR := by kernel_rfl
theorem c2_fewest : G_fewest [rowAt 2 0, rowAt 2 1, rowAt 2 2] UR = .ok (.int (2)) UR := by kernel_rfl
theorem c2_shortest_row : G_shortest_row [rowAt 2 0, rowAt 2 1, rowAt 2 2] UR = .ok (.tup [(.tup [(.int (0)), (.int (1))]), (.tup [(.int (2)), (.int (3))])]) UR := by kernel_rfl
theorem c2_prices : G_prices [rowAt 2 0, rowAt 2 1, rowAt 2 2] UR = .ok (.tup [(.int (-1)), (.int (0)), (.int (0)), (.int (-1))]) UR := by kernel_rfl
theorem c2_paper : G_paper [rowAt 2 0, rowAt 2 1, rowAt 2 2] UR = .ok (.tup [(.str "turns"), (.tup [(.tup [(.int (0)), (.int (1))]), (.tup [(.int (2)), (.int (3))])])]) UR := by kernel_rfl
theorem c2_fewest_paper : G_fewest_paper [rowAt 2 0, rowAt 2 1, rowAt 2 2] UR = .ok (.tup [(.str "fewest"), (.tup [(.tup [(.int (0)), (.int (1))]), (.tup [(.int (2)), (.int (3))])]), (.tup [(.int (-1)), (.int (0)), (.int (0)), (.int (-1))])]) UR := by kernel_rfl
theorem c2_is_paper : G_is_paper [rowAt 2 0, rowAt 2 1, rowAt 2 2, (.tup [(.str "turns"), (.tup [(.tup [(.int (0)), (.int (1))]), (.tup [(.int (2)), (.int (3))])])])] UR = .ok (.bl true) UR := by kernel_rfl
theorem c2_is_fewest : G_is_fewest_paper [rowAt 2 0, rowAt 2 1, rowAt 2 2, (.tup [(.str "fewest"), (.tup [(.tup [(.int (0)), (.int (1))]), (.tup [(.int (2)), (.int (3))])]), (.tup [(.int (-1)), (.int (0)), (.int (0)), (.int (-1))])])] UR = .ok (.bl true) UR := by kernel_rfl
theorem c2_reaches : G_reaches [rowAt 2 0, rowAt 2 1, rowAt 2 2] UR = .ok (.bl true) UR := by kernel_rfl
theorem ways2 : G__law_ways_right [rowAt 2 0, rowAt 2 1, rowAt 2 2] UR = .ok (.bl true) UR := ways_of c2_reaches c2_lead (by kernel_rfl) c2_fewest (by kernel_rfl) c2_shortest_row (by kernel_rfl) c2_prices (by kernel_rfl) c2_paper (by kernel_rfl) c2_fewest_paper (by kernel_rfl) (by kernel_rfl) c2_is_paper c2_is_fewest
theorem webs3 : G__law_webs_right [rowAt 3 0, rowAt 3 1] UR = .ok (.bl true) UR := by kernel_rfl
theorem c3_lead : G_lead [rowAt 3 0, rowAt 3 1, rowAt 3 2] UR = .ok (.tup [(.tup [(.int (2)), (.int (3))])]) UR := by kernel_rfl
theorem c3_fewest : G_fewest [rowAt 3 0, rowAt 3 1, rowAt 3 2] UR = .ok (.int (1)) UR := by kernel_rfl
theorem c3_shortest_row : G_shortest_row [rowAt 3 0, rowAt 3 1, rowAt 3 2] UR = .ok (.tup [(.tup [(.int (2)), (.int (3))])]) UR := by kernel_rfl
theorem c3_prices : G_prices [rowAt 3 0, rowAt 3 1, rowAt 3 2] UR = .ok (.tup [(.int (0)), (.int (0)), (.int (0)), (.int (-1))]) UR := by kernel_rfl
theorem c3_paper : G_paper [rowAt 3 0, rowAt 3 1, rowAt 3 2] UR = .ok (.tup [(.str "turns"), (.tup [(.tup [(.int (2)), (.int (3))])])]) UR := by kernel_rfl
theorem c3_fewest_paper : G_fewest_paper [rowAt 3 0, rowAt 3 1, rowAt 3 2] UR = .ok (.tup [(.str "fewest"), (.tup [(.tup [(.int (2)), (.int (3))])]), (.tup [(.int (0)), (.int (0)), (.int (0)), (.int (-1))])]) UR := by kernel_rfl
theorem c3_is_paper : G_is_paper [rowAt 3 0, rowAt 3 1, rowAt 3 2, (.tup [(.str "turns"), (.tup [(.tup [(.int (2)), (.int (3))])])])] UR = .ok (.bl true) UR := by kernel_rfl
theorem c3_is_fewest : G_is_fewest_paper [rowAt 3 0, rowAt 3 1, rowAt 3 2, (.tup [(.str "fewest"), (.tup [(.tup [(.int (2)), (.int (3))])]), (.tup [(.int (0)), (.int (0)), (.int (0)), (.int (-1))])])] UR = .ok (.bl true) UR := by kernel_rfl
theorem c3_reaches : G_reaches [rowAt 3 0, rowAt 3 1, rowAt 3 2] UR = .ok (.bl true) UR := by kernel_rfl
theorem ways3 : G__law_ways_right [rowAt 3 0, rowAt 3 1, rowAt 3 2] UR = .ok (.bl true) UR := ways_of c3_reaches c3_lead (by kernel_rfl) c3_fewest (by kernel_rfl) c3_shortest_row (by kernel_rfl) c3_prices (by kernel_rfl) c3_paper (by kernel_rfl) c3_fewest_paper (by kernel_rfl) (by kernel_rfl) c3_is_paper c3_is_fewest
theorem fin_of {v : Nat} {ns : List Int} {o0 o1 o2 o3 : AO} (h0 : unkO o0 = .unk) (h1 : unkO o1 = .unk) (h2 : unkO o2 = .unk) (h3 : unkO o3 = .unk) (hw : G__law_webs_right [rowAt v 0, rowAt v 1] UR = .ok (.bl true) UR) (hy : G__law_ways_right [rowAt v 0, rowAt v 1, rowAt v 2] UR = .ok (.bl true) UR) :
    f6 (rho3 v ns) (o0 :: o1 :: o2 :: o3 :: R) = .rt (.bl true) UR := by
  have e : forg [true, true, true, true] (o0 :: o1 :: o2 :: o3 :: R) = UR := by
    rw [forg, forg, forg, forg, forg, h0, h1, h2, h3]
    rfl
  unfold f6 fForg
  simp only [e]
  simp only [fRet, fAndV, fCall, fCons, fNil, fVar, rho3, asB, List.getElem?_cons_zero, List.getElem?_cons_succ, Res.bind_ok, Res.s_ok, List.length_cons, List.length_nil, if_true, hw, hy]
theorem law_true (ns : List Int) (hl : ns.length ≤ 63) : isTrueR (G_law [.scr ns] []) = true := by
  obtain ⟨cs, gs, lg, e1, D⟩ := begun_at ns hl
  have e2 := rows_ok ns (.dK (mD 1 3 0)) (.lst (cs.map AV.int)) (.lst []) (.lst (gs.map AV.int))
  have cl : cloA (.dK (mD 1 3 0) :: .lst (cs.map AV.int) :: .lst [] :: .lst (gs.map AV.int) :: R).length (.dK (mD 1 3 0) :: .lst (cs.map AV.int) :: .lst [] :: .lst (gs.map AV.int) :: R) = true := by
    show (cloO (R.length + 4) (.dK (mD 1 3 0)) && (cloVs (R.length + 4) (cs.map AV.int) && (cloO (R.length + 4) (.lst []) && (cloVs (R.length + 4) (gs.map AV.int) && cloA (R.length + 4) R)))) = true
    rw [clo_ints, clo_ints, R_clo]
    kernel_rfl
  have D2 : Dr (.dK (mD 1 3 0) :: .lst (cs.map AV.int) :: .lst [] :: .lst (gs.map AV.int) :: R) 0 1 3 0 cs gs := ⟨rfl, rfl, rfl, D.lc, D.lg, D.ic, D.ig, D.cg, cl⟩
  obtain ⟨v, gs', v0, v1, lg', e3⟩ := draw_at D2 (k := 4) (by decide) (by decide) (by decide) (by decide)
  have e3' : fC5 (rho2 ns) (.dK (mD 1 3 0) :: .lst (cs.map AV.int) :: .lst [] :: .lst (gs.map AV.int) :: R) = .ok (.int v) (.dK (mD 1 3 (0 + 1)) :: .lst (cs.map AV.int) :: .lst [] :: .lst (gs'.map AV.int) :: R) := by
    simp only [fC5, fCall, fCons, fNil, fVar, fC, rho2, List.getElem?_cons_zero, List.getElem?_cons_succ, Res.bind_ok, List.length_cons, List.length_nil, if_true, e3]
    rfl
  have s1 : (fSet 1 (fCall 1 G__law_begun (fCons (fVar 0) fNil))) [some (.scr ns), none, none, none, none, none] [] = .nx (rho1 ns) [.dK (mD 1 3 0), .lst (cs.map AV.int), .lst [], .lst (gs.map AV.int)] := by
    simp only [fSet, fCall, fCons, fNil, fVar, List.getElem?_cons_zero, List.set_cons_succ, List.set_cons_zero, Res.bind_ok, Res.s_ok, List.length_cons, List.length_nil, if_true, e1]
  have s2 : (fAsgG (f2 gIx (fVar 2) fC5) g5) (rho2 ns) (.dK (mD 1 3 0) :: .lst (cs.map AV.int) :: .lst [] :: .lst (gs.map AV.int) :: R) = (fAsgG (f2 gIx (fVar 2) (fC (.int v))) g5) (rho2 ns) (.dK (mD 1 3 (0 + 1)) :: .lst (cs.map AV.int) :: .lst [] :: .lst (gs'.map AV.int) :: R) := by
    have q : (f2 gIx (fVar 2) fC5) (rho2 ns) (.dK (mD 1 3 0) :: .lst (cs.map AV.int) :: .lst [] :: .lst (gs.map AV.int) :: R) = (f2 gIx (fVar 2) (fC (.int v))) (rho2 ns) (.dK (mD 1 3 (0 + 1)) :: .lst (cs.map AV.int) :: .lst [] :: .lst (gs'.map AV.int) :: R) := by
      have a : ∀ A : AH, fVar 2 (rho2 ns) A = .ok xr A := fun _ => rfl
      have b : ∀ A : AH, fC (.int v) (rho2 ns) A = .ok (.int v) A := fun _ => rfl
      unfold f2
      simp only [a, b, Res.bind_ok, e3']
    unfold fAsgG
    rw [q]
  have h4 : ∃ n : Nat, v = (n : Nat) ∧ ((fAsgG (f2 gIx (fVar 2) (fC (.int v))) g5) (rho2 ns) (.dK (mD 1 3 (0 + 1)) :: .lst (cs.map AV.int) :: .lst [] :: .lst (gs'.map AV.int) :: R) = .nx (rho3 n ns) (.dK (mD 1 3 (0 + 1)) :: .lst (cs.map AV.int) :: .lst [] :: .lst (gs'.map AV.int) :: R)) ∧
      f6 (rho3 n ns) (.dK (mD 1 3 (0 + 1)) :: .lst (cs.map AV.int) :: .lst [] :: .lst (gs'.map AV.int) :: R) = .rt (.bl true) UR := by
    have h : v = 0 ∨ v = 1 ∨ v = 2 ∨ v = 3 := by omega
    rcases h with rfl | rfl | rfl | rfl
    · exact ⟨0, rfl, sel0 _ _ _ _ _, fin_of rfl rfl rfl rfl webs0 ways0⟩
    · exact ⟨1, rfl, sel1 _ _ _ _ _, fin_of rfl rfl rfl rfl webs1 ways1⟩
    · exact ⟨2, rfl, sel2 _ _ _ _ _, fin_of rfl rfl rfl rfl webs2 ways2⟩
    · exact ⟨3, rfl, sel3 _ _ _ _ _, fin_of rfl rfl rfl rfl webs3 ways3⟩
  obtain ⟨n, _, q1, q2⟩ := h4
  have t3 : fSeq (fAsgG (f2 gIx (fVar 2) fC5) g5) f6 (rho2 ns) (.dK (mD 1 3 0) :: .lst (cs.map AV.int) :: .lst [] :: .lst (gs.map AV.int) :: R) = .rt (.bl true) UR := by
    unfold fSeq
    rw [s2, q1]
    exact q2
  have seq3 : ∀ (a b c d : FS) (ρ : Rho) (A : AH), fSeq a (fSeq b (fSeq c d)) ρ A = fSeq (fSeq a (fSeq b c)) d ρ A := by
    intro a b c d ρ A
    unfold fSeq
    cases a ρ A with
    | nx ρ' A' =>
      show (match b ρ' A' with | .nx ρ A => (match c ρ A with | .nx ρ A => d ρ A | r => r) | r => r) = _
      cases h : b ρ' A' with
      | nx ρ2 A2 =>
        first
          | (simp only [h]; done)
          | (simp only [h]; cases c ρ2 A2 <;> rfl)
      | _ => simp only [h]
    | _ => rfl
  have t2 : fSeq fRows (fSeq (fAsgG (f2 gIx (fVar 2) fC5) g5) f6) (rho1 ns) [.dK (mD 1 3 0), .lst (cs.map AV.int), .lst [], .lst (gs.map AV.int)] = .rt (.bl true) UR := by
    rw [fSeq, e2]
    exact t3
  have t1 : F_law [some (.scr ns), none, none, none, none, none] [] = .rt (.bl true) UR := by
    unfold F_law
    rw [fSeq, s1]
    refine Eq.trans ?_ t2
    exact seq3 _ _ _ _ _ _
  have t0 : G_law [.scr ns] [] = (match F_law [some (.scr ns), none, none, none, none, none] [] with
    | .rt v A' => .ok v (gcH [] v A')
    | .nx _ A' => .ok .non (gcH [] .non A')
    | .exc e _ A' => .exc e A'
    | _ => .er) := rfl
  rw [t0, t1]
  rfl
end Lk

namespace Lk
open PySem PySem.Spec L2 PyProof.Rows Dn
def clsF (C0 C1 : Addr) : Nat → Addr
  | 0 => C0
  | 1 => C1
  | _ => 0
section
variable {K : PySem.W.Frag} {h : Heap} {mg : Str → Option Value} {C0 C1 : Addr}
theorem raw_l {x : Str} {st : Stmt} {f : Addr} {oc : Value} {od an : Option Addr} {osl : Array (Option Value)} {kV doc pm cdv ct : Value} (X : K.In h) (G : h.Ns mainGlobals mg) (a : PySem.W.nsIn K mainGlobals x = some (some (.ref f))) (l : K.lookup f = some ⟨oc, od, .func (PySem.W.fnOf x x (defArgs st) (defBody st) (defScope st) .none kV doc pm an cdv ct), osl⟩) (c : PySem.W.codeIn K cdv x = true) (k : PySem.W.keepIn K (.ref f) = true) : Raw (mkCf K (clsF C0 C1)) mg x st := raw_of rfl X G a l c k
theorem rawm_0 {m qual : Str} {st : Stmt} {f : Addr} {oc : Value} {od an : Option Addr} {osl : Array (Option Value)} {kV doc pm cdv ct : Value} (a : PySem.W.findIn K (.ref C0) m = some (some (.ref f))) (i : PySem.W.isFn K (.ref f) = true) (l : K.lookup f = some ⟨oc, od, .func (PySem.W.fnOf m qual (defArgs st) (defBody st) (defScope st) .none kV doc pm an cdv ct), osl⟩) (cc : PySem.W.codeIn K cdv qual = true) (k : PySem.W.keepIn K (.ref f) = true) : RawM (mkCf K (clsF C0 C1)) 0 m qual st := rawm_of rfl rfl a i l cc k
theorem mak_0 {x : Str} (X : K.In h) (G : h.Ns mainGlobals mg) (a : PySem.W.nsIn K mainGlobals x = some (some (.ref C0))) (mk : PySem.W.makesIn K C0 = true) (kp : PySem.W.keepIn K (.ref C0) = true) : Mak (mkCf K (clsF C0 C1)) mg x 0 := mak_of rfl rfl X G a mk kp
theorem cls_0 (pg : PySem.W.plainGet K C0 Str.empty = true) (hd : PySem.W.hasDictIn K C0 = true) (po : PySem.W.plainOver K C0 = true) (sa : PySem.W.findIn K (.ref C0) "__setattr__" = some (some (.builtin "object.__setattr__"))) : Cls (mkCf K (clsF C0 C1)).K ((mkCf K (clsF C0 C1)).cls 0) := cls_of rfl rfl pg hd po sa
theorem noat_0 {f : Str} (a : PySem.W.findIn K (.ref C0) f = some none) : NoAttr (mkCf K (clsF C0 C1)).K ((mkCf K (clsF C0 C1)).cls 0) f := noat_of rfl rfl a
theorem sisi_0 (ca : PySem.W.findIn K (.ref C0) "__class__" = some (some (.builtin "object.__class__"))) (cn : PySem.W.specialIn K (.builtin "object.__class__") "__get__" = some (some (.builtin "getset_descriptor.__get__"))) (ct : PySem.W.takesIn K (.builtin "object.__class__") = some true) (cm : PySem.W.mroIn K C0 (.type "object") = some true) : SlX.SIsi (mkCf K (clsF C0 C1)).K ((mkCf K (clsF C0 C1)).cls 0) := sisi_of rfl rfl ca cn ct cm
theorem owneq_0 (ne : PySem.W.findIn K (.ref C0) "__ne__" = some (some (.builtin "object.__ne__"))) (ob : PySem.W.subIn K (.ref C0) (.type "object") = some true) : OwnEq (mkCf K (clsF C0 C1)) 0 := owneq_of rfl rfl ne ob
theorem rawm_1 {m qual : Str} {st : Stmt} {f : Addr} {oc : Value} {od an : Option Addr} {osl : Array (Option Value)} {kV doc pm cdv ct : Value} (a : PySem.W.findIn K (.ref C1) m = some (some (.ref f))) (i : PySem.W.isFn K (.ref f) = true) (l : K.lookup f = some ⟨oc, od, .func (PySem.W.fnOf m qual (defArgs st) (defBody st) (defScope st) .none kV doc pm an cdv ct), osl⟩) (cc : PySem.W.codeIn K cdv qual = true) (k : PySem.W.keepIn K (.ref f) = true) : RawM (mkCf K (clsF C0 C1)) 1 m qual st := rawm_of rfl rfl a i l cc k
theorem mak_1 {x : Str} (X : K.In h) (G : h.Ns mainGlobals mg) (a : PySem.W.nsIn K mainGlobals x = some (some (.ref C1))) (mk : PySem.W.makesIn K C1 = true) (kp : PySem.W.keepIn K (.ref C1) = true) : Mak (mkCf K (clsF C0 C1)) mg x 1 := mak_of rfl rfl X G a mk kp
theorem cls_1 (pg : PySem.W.plainGet K C1 Str.empty = true) (ic : PySem.W.isClsIn K C1 = true) (po : PySem.W.plainOver K C1 = true) (sa : PySem.W.findIn K (.ref C1) "__setattr__" = some (some (.builtin "object.__setattr__"))) : SlX.SCls (mkCf K (clsF C0 C1)).K ((mkCf K (clsF C0 C1)).cls 1) := scls_of rfl rfl pg ic po sa
theorem noat_1 {f : Str} (a : PySem.W.findIn K (.ref C1) f = some none) : NoAttr (mkCf K (clsF C0 C1)).K ((mkCf K (clsF C0 C1)).cls 1) f := noat_of rfl rfl a
theorem sltf_1 {p : Addr} {j : Nat} {f : Str} (cl : SlX.SCls (mkCf K (clsF C0 C1)).K ((mkCf K (clsF C0 C1)).cls 1)) (at_ : PySem.W.findIn K (.ref C1) f = some (some (.ref p))) (get : PySem.W.specialIn K (.ref p) "__get__" = some (some (.builtin "member_descriptor.__get__"))) (tk : PySem.W.takesIn K (.ref p) = some true) (ty : PySem.W.typeIn K (.ref p) = some (.type "member_descriptor")) (ix : PySem.W.slotIn K p C1 = some j) (lt : j < 1000) : SltF (mkCf K (clsF C0 C1)) f 1 j := sltf_of rfl rfl cl at_ get tk ty ix lt
theorem sisi_1 (ca : PySem.W.findIn K (.ref C1) "__class__" = some (some (.builtin "object.__class__"))) (cn : PySem.W.specialIn K (.builtin "object.__class__") "__get__" = some (some (.builtin "getset_descriptor.__get__"))) (ct : PySem.W.takesIn K (.builtin "object.__class__") = some true) (cm : PySem.W.mroIn K C1 (.type "object") = some true) : SlX.SIsi (mkCf K (clsF C0 C1)).K ((mkCf K (clsF C0 C1)).cls 1) := sisi_of rfl rfl ca cn ct cm
theorem owneq_1 (ne : PySem.W.findIn K (.ref C1) "__ne__" = some (some (.builtin "object.__ne__"))) (ob : PySem.W.subIn K (.ref C1) (.type "object") = some true) : OwnEq (mkCf K (clsF C0 C1)) 1 := owneq_of rfl rfl ne ob
theorem kit_1 (h0 : PySem.W.kitOne K (.type "NoneType") (.ref C1) = some false) (h1 : PySem.W.kitOne K (.type "bool") (.ref C1) = some false) (h2 : PySem.W.kitOne K (.type "int") (.ref C1) = some false) (h3 : PySem.W.kitOne K (.type "str") (.ref C1) = some false) (h4 : PySem.W.kitOne K (.type "list") (.ref C1) = some false) (h5 : PySem.W.kitOne K (.type "tuple") (.ref C1) = some false) (h6 : PySem.W.kitOne K (.type "dict") (.ref C1) = some false) : ∀ t ∈ tyNames, PySem.W.kitOne (mkCf K (clsF C0 C1)).K (.type t) (.ref ((mkCf K (clsF C0 C1)).cls 1)) = some false := fun t ht => by
  simp only [tyNames, List.mem_cons, List.not_mem_nil, or_false] at ht
  rcases ht with rfl | rfl | rfl | rfl | rfl | rfl | rfl
  · exact h0
  · exact h1
  · exact h2
  · exact h3
  · exact h4
  · exact h5
  · exact h6

theorem isi_1_0 (a : SlX.SIsi (mkCf K (clsF C0 C1)).K ((mkCf K (clsF C0 C1)).cls 0)) (b : Cls (mkCf K (clsF C0 C1)).K ((mkCf K (clsF C0 C1)).cls 0)) (k : PySem.W.kitOne K (.ref C0) (.ref C1) = some false) : IsiI (mkCf K (clsF C0 C1)) (.ref ((mkCf K (clsF C0 C1)).cls 1)) 0 false := ⟨a, b, k⟩
theorem isi_1_1 (a : SlX.SIsi (mkCf K (clsF C0 C1)).K ((mkCf K (clsF C0 C1)).cls 1)) (b : SlX.SCls (mkCf K (clsF C0 C1)).K ((mkCf K (clsF C0 C1)).cls 1)) (k : PySem.W.kitOne K (.ref C1) (.ref C1) = some true) : IsiS (mkCf K (clsF C0 C1)) (.ref ((mkCf K (clsF C0 C1)).cls 1)) 1 true := ⟨a, b, k⟩
end
theorem all_mk {l : PySem.W.OpenLaw} {w : World} {K : PySem.W.Frag} {h : Heap} {mg : Str → Option Value} {fa : Addr} {C0 C1 : Addr} (X : K.In h) (G : h.Ns mainGlobals mg) (hfa : mg "law" = some (.ref fa)) (aC0 : PySem.W.nsIn K mainGlobals "Flow" = some (some (.ref C0))) (aC1 : PySem.W.nsIn K mainGlobals "Web" = some (some (.ref C1))) (T : Txt (mkCf K (clsF C0 C1)) mg) (hG : ∀ ns : List Int, ns.length ≤ 63 → isTrueR (G_law [.scr ns] []) = true) :
    ∃ fd : FuncData, (∀ (s : Shared) (v : Value), BindsTo s fd ⟨[v], []⟩ [("_law_script", v)]) ∧ ∀ base : Heap, K.In base → base.Ns mainGlobals mg → FnOk l.prog w K mg base (L2.CX l.prog w) 13 fa fd ["_law_script"] (spLaw K) := by
  obtain ⟨f0, d0, F0, hm0⟩ := T.r_law.ex
  have e := hfa.symm.trans hm0
  cases e
  refine ⟨d0, fun s v => ?_, fun base _ _ => ?_⟩
  · obtain ⟨oc, od, kV, doc, pm, an, cdv, ct, osl, rfl, lk, hcd⟩ := F0.ex
    exact .of_eq (b_law kV doc pm an cdv ct [v] rfl)
  · obtain ⟨f1, d1, hm1, F1, O⟩ := law_of (D_all (P := l.prog) (w := w) (base := base) T) hG
    have e1 := hm0.symm.trans hm1
    cases e1
    have e2 : d0 = d1 := by
      obtain ⟨oc, od, kV, doc, pm, an, cdv, ct, osl, h1, lk, hcd⟩ := F0.ex
      obtain ⟨oc', od', kV', doc', pm', an', cdv', ct', osl', h1', lk', hcd'⟩ := F1.ex
      rw [lk] at lk'
      cases lk'
      rfl
    subst e2
    exact O
theorem walk {l : PySem.W.OpenLaw} {q : Program} {loose : List Str} {XP : (Str → Option Value) → Heap → Prop} {YP : World → Heap → Prop} {d : DefRec} {K : Params → PySem.W.Frag} (hn : l.most = some 63) (hdf : d.params.defaults = [])
    (hY : ∀ (w : World) (h : Heap), YP w h → (K w.params).In h)
    (F : ∀ (w : World) (mg : Str → Option Value) (fa : Addr) (h : Heap), (K w.params).In h → h.Ns mainGlobals mg → mg d.name = some (.ref fa) →
      ∃ fd : FuncData, (∀ (s : Shared) (u : Value), BindsTo s fd ⟨[u], []⟩ [("_law_script", u)]) ∧ ∀ base : Heap, (K w.params).In base → base.Ns mainGlobals mg → FnOk l.prog w (K w.params) mg base (L2.CX l.prog w) 13 fa fd ["_law_script"] (spLaw (K w.params))) :
    PySem.W.WalkO q loose XP YP l.row.toRowW d [] (fun f vs => PySem.call f vs) :=
  L2.walk_of (n := 63) (k := 13) (x := "_law_script") (CX := fun w => L2.CX l.prog w) (sp := fun w => spLaw (K w.params)) hn (by decide) hdf ⟨rfl, by decide, by decide⟩ hY F (fun _ _ _ _ hl hO hS => hsp_law hl hO hS) fun _ _ _ _ _ z => hcx_law z
end Lk

open PySem PySem.W PyProof.Rows in
set_option maxRecDepth 100000 in
set_option maxHeartbeats 0 in
theorem PySem.Challenge.cw_likepairs_k23_first_part_by_names_holds : PySem.Challenge.rw_likepairs_k23_first_part_by_names.Holds := by
  w_on; o_law; k_head; (case hw => w_witness2)
  k_fill
  refine Lk.walk (l := PySem.Challenge.rw_likepairs_k23_first_part_by_names) rfl rfl (fun w h Y => PySem.W.kIn_of Y) ?F
  case F =>
    intro w mg fa h KX G hmg
    refine' Lk.all_mk KX G hmg ?aC0 ?aC1 ?T Lk.law_true
    (case aC0 => k_is)
    (case aC1 => k_is)
    case T =>
      exact {
        hn := rfl
        b_abs := PySem.W.mg_none_of KX G (by k_is)
        b_all := PySem.W.mg_none_of KX G (by k_is)
        b_any := PySem.W.mg_none_of KX G (by k_is)
        b_bool := PySem.W.mg_none_of KX G (by k_is)
        b_enumerate := PySem.W.mg_none_of KX G (by k_is)
        b_int := PySem.W.mg_none_of KX G (by k_is)
        b_isinstance := PySem.W.mg_none_of KX G (by k_is)
        b_len := PySem.W.mg_none_of KX G (by k_is)
        b_list := PySem.W.mg_none_of KX G (by k_is)
        b_max := PySem.W.mg_none_of KX G (by k_is)
        b_min := PySem.W.mg_none_of KX G (by k_is)
        b_range := PySem.W.mg_none_of KX G (by k_is)
        b_sorted := PySem.W.mg_none_of KX G (by k_is)
        b_str := PySem.W.mg_none_of KX G (by k_is)
        b_sum := PySem.W.mg_none_of KX G (by k_is)
        b_tuple := PySem.W.mg_none_of KX G (by k_is)
        k_MOST_PLACES := ⟨_, PySem.W.mg_of KX G (by k_is)⟩
        k_MOST_TIES := ⟨_, PySem.W.mg_of KX G (by k_is)⟩
        k_TURNS := ⟨_, PySem.W.mg_of KX G (by k_is)⟩
        k_COUNT := ⟨_, PySem.W.mg_of KX G (by k_is)⟩
        k_FEWEST := ⟨_, PySem.W.mg_of KX G (by k_is)⟩
        r_is_whole := by refine' Lk.raw_l KX G ?a ?l ?c ?k; (case a => k_is); (case l => k_is); (case c => k_is); (case k => k_is)
        r_is_among := by refine' Lk.raw_l KX G ?a ?l ?c ?k; (case a => k_is); (case l => k_is); (case c => k_is); (case k => k_is)
        r_is_list := by refine' Lk.raw_l KX G ?a ?l ?c ?k; (case a => k_is); (case l => k_is); (case c => k_is); (case k => k_is)
        r_is_tie := by refine' Lk.raw_l KX G ?a ?l ?c ?k; (case a => k_is); (case l => k_is); (case c => k_is); (case k => k_is)
        r_need_ties := by refine' Lk.raw_l KX G ?a ?l ?c ?k; (case a => k_is); (case l => k_is); (case c => k_is); (case k => k_is)
        r_Web___init__ := by refine' Lk.rawm_1 ?a ?i ?l ?c ?k; (case a => k_is); (case i => k_is); (case l => k_is); (case c => k_is); (case k => k_is)
        r__law_folded := by refine' Lk.raw_l KX G ?a ?l ?c ?k; (case a => k_is); (case l => k_is); (case c => k_is); (case k => k_is)
        r__law_begun := by refine' Lk.raw_l KX G ?a ?l ?c ?k; (case a => k_is); (case l => k_is); (case c => k_is); (case k => k_is)
        r__law_mixed := by refine' Lk.raw_l KX G ?a ?l ?c ?k; (case a => k_is); (case l => k_is); (case c => k_is); (case k => k_is)
        r__law_draw := by refine' Lk.raw_l KX G ?a ?l ?c ?k; (case a => k_is); (case l => k_is); (case c => k_is); (case k => k_is)
        r_Flow_total := by refine' Lk.rawm_0 ?a ?i ?l ?c ?k; (case a => k_is); (case i => k_is); (case l => k_is); (case c => k_is); (case k => k_is)
        r_Flow_cost := by refine' Lk.rawm_0 ?a ?i ?l ?c ?k; (case a => k_is); (case i => k_is); (case l => k_is); (case c => k_is); (case k => k_is)
        r_Flow_reached := by refine' Lk.rawm_0 ?a ?i ?l ?c ?k; (case a => k_is); (case i => k_is); (case l => k_is); (case c => k_is); (case k => k_is)
        r_Flow_send := by refine' Lk.rawm_0 ?a ?i ?l ?c ?k; (case a => k_is); (case i => k_is); (case l => k_is); (case c => k_is); (case k => k_is)
        r_Flow_go_on := by refine' Lk.rawm_0 ?a ?i ?l ?c ?k; (case a => k_is); (case i => k_is); (case l => k_is); (case c => k_is); (case k => k_is)
        r_Flow___init__ := by refine' Lk.rawm_0 ?a ?i ?l ?c ?k; (case a => k_is); (case i => k_is); (case l => k_is); (case c => k_is); (case k => k_is)
        r_dots_in := by refine' Lk.raw_l KX G ?a ?l ?c ?k; (case a => k_is); (case l => k_is); (case c => k_is); (case k => k_is)
        r_spread := by refine' Lk.raw_l KX G ?a ?l ?c ?k; (case a => k_is); (case l => k_is); (case c => k_is); (case k => k_is)
        r_pieces := by refine' Lk.raw_l KX G ?a ?l ?c ?k; (case a => k_is); (case l => k_is); (case c => k_is); (case k => k_is)
        r_sides_in := by refine' Lk.raw_l KX G ?a ?l ?c ?k; (case a => k_is); (case l => k_is); (case c => k_is); (case k => k_is)
        r_all_dots := by refine' Lk.raw_l KX G ?a ?l ?c ?k; (case a => k_is); (case l => k_is); (case c => k_is); (case k => k_is)
        r_need_standing := by refine' Lk.raw_l KX G ?a ?l ?c ?k; (case a => k_is); (case l => k_is); (case c => k_is); (case k => k_is)
        r_count_in := by refine' Lk.raw_l KX G ?a ?l ?c ?k; (case a => k_is); (case l => k_is); (case c => k_is); (case k => k_is)
        r_counts := by refine' Lk.raw_l KX G ?a ?l ?c ?k; (case a => k_is); (case l => k_is); (case c => k_is); (case k => k_is)
        r_unlike_count := by refine' Lk.raw_l KX G ?a ?l ?c ?k; (case a => k_is); (case l => k_is); (case c => k_is); (case k => k_is)
        r_need_like := by refine' Lk.raw_l KX G ?a ?l ?c ?k; (case a => k_is); (case l => k_is); (case c => k_is); (case k => k_is)
        r_need_two_sided := by refine' Lk.raw_l KX G ?a ?l ?c ?k; (case a => k_is); (case l => k_is); (case c => k_is); (case k => k_is)
        r_need_short := by refine' Lk.raw_l KX G ?a ?l ?c ?k; (case a => k_is); (case l => k_is); (case c => k_is); (case k => k_is)
        r_flow_of := by refine' Lk.raw_l KX G ?a ?l ?c ?k; (case a => k_is); (case l => k_is); (case c => k_is); (case k => k_is)
        r_fewest := by refine' Lk.raw_l KX G ?a ?l ?c ?k; (case a => k_is); (case l => k_is); (case c => k_is); (case k => k_is)
        r_Flow_prices := by refine' Lk.rawm_0 ?a ?i ?l ?c ?k; (case a => k_is); (case i => k_is); (case l => k_is); (case c => k_is); (case k => k_is)
        r_prices := by refine' Lk.raw_l KX G ?a ?l ?c ?k; (case a => k_is); (case l => k_is); (case c => k_is); (case k => k_is)
        r_dot_turns := by refine' Lk.raw_l KX G ?a ?l ?c ?k; (case a => k_is); (case l => k_is); (case c => k_is); (case k => k_is)
        r_shortest_row := by refine' Lk.raw_l KX G ?a ?l ?c ?k; (case a => k_is); (case l => k_is); (case c => k_is); (case k => k_is)
        r_fewest_paper := by refine' Lk.raw_l KX G ?a ?l ?c ?k; (case a => k_is); (case l => k_is); (case c => k_is); (case k => k_is)
        r_are_prices := by refine' Lk.raw_l KX G ?a ?l ?c ?k; (case a => k_is); (case l => k_is); (case c => k_is); (case k => k_is)
        r_is_turn := by refine' Lk.raw_l KX G ?a ?l ?c ?k; (case a => k_is); (case l => k_is); (case c => k_is); (case k => k_is)
        r_turned := by refine' Lk.raw_l KX G ?a ?l ?c ?k; (case a => k_is); (case l => k_is); (case c => k_is); (case k => k_is)
        r_leads := by refine' Lk.raw_l KX G ?a ?l ?c ?k; (case a => k_is); (case l => k_is); (case c => k_is); (case k => k_is)
        r_shown_by := by refine' Lk.raw_l KX G ?a ?l ?c ?k; (case a => k_is); (case l => k_is); (case c => k_is); (case k => k_is)
        r_is_fewest_paper := by refine' Lk.raw_l KX G ?a ?l ?c ?k; (case a => k_is); (case l => k_is); (case c => k_is); (case k => k_is)
        r_is_paper := by refine' Lk.raw_l KX G ?a ?l ?c ?k; (case a => k_is); (case l => k_is); (case c => k_is); (case k => k_is)
        r_odd_tie := by refine' Lk.raw_l KX G ?a ?l ?c ?k; (case a => k_is); (case l => k_is); (case c => k_is); (case k => k_is)
        r_tree_of := by refine' Lk.raw_l KX G ?a ?l ?c ?k; (case a => k_is); (case l => k_is); (case c => k_is); (case k => k_is)
        r_odd_turns := by refine' Lk.raw_l KX G ?a ?l ?c ?k; (case a => k_is); (case l => k_is); (case c => k_is); (case k => k_is)
        r_piece_turns := by refine' Lk.raw_l KX G ?a ?l ?c ?k; (case a => k_is); (case l => k_is); (case c => k_is); (case k => k_is)
        r_lead := by refine' Lk.raw_l KX G ?a ?l ?c ?k; (case a => k_is); (case l => k_is); (case c => k_is); (case k => k_is)
        r_paper := by refine' Lk.raw_l KX G ?a ?l ?c ?k; (case a => k_is); (case l => k_is); (case c => k_is); (case k => k_is)
        r_reaches := by refine' Lk.raw_l KX G ?a ?l ?c ?k; (case a => k_is); (case l => k_is); (case c => k_is); (case k => k_is)
        r__law_ways_right := by refine' Lk.raw_l KX G ?a ?l ?c ?k; (case a => k_is); (case l => k_is); (case c => k_is); (case k => k_is)
        r_Web___eq__ := by refine' Lk.rawm_1 ?a ?i ?l ?c ?k; (case a => k_is); (case i => k_is); (case l => k_is); (case c => k_is); (case k => k_is)
        r_Web_neighbours := by refine' Lk.rawm_1 ?a ?i ?l ?c ?k; (case a => k_is); (case i => k_is); (case l => k_is); (case c => k_is); (case k => k_is)
        r_can := by refine' Lk.raw_l KX G ?a ?l ?c ?k; (case a => k_is); (case l => k_is); (case c => k_is); (case k => k_is)
        r_done_at := by refine' Lk.raw_l KX G ?a ?l ?c ?k; (case a => k_is); (case l => k_is); (case c => k_is); (case k => k_is)
        r_done := by refine' Lk.raw_l KX G ?a ?l ?c ?k; (case a => k_is); (case l => k_is); (case c => k_is); (case k => k_is)
        r_sides := by refine' Lk.raw_l KX G ?a ?l ?c ?k; (case a => k_is); (case l => k_is); (case c => k_is); (case k => k_is)
        r_is_two_sided := by refine' Lk.raw_l KX G ?a ?l ?c ?k; (case a => k_is); (case l => k_is); (case c => k_is); (case k => k_is)
        r_turns_of := by refine' Lk.raw_l KX G ?a ?l ?c ?k; (case a => k_is); (case l => k_is); (case c => k_is); (case k => k_is)
        r_walked := by refine' Lk.raw_l KX G ?a ?l ?c ?k; (case a => k_is); (case l => k_is); (case c => k_is); (case k => k_is)
        r__law_webs_right := by refine' Lk.raw_l KX G ?a ?l ?c ?k; (case a => k_is); (case l => k_is); (case c => k_is); (case k => k_is)
        r_law := by refine' Lk.raw_l KX G ?a ?l ?c ?k; (case a => k_is); (case l => k_is); (case c => k_is); (case k => k_is)
        m_Flow := by refine' Lk.mak_0 KX G ?a ?b ?c; (case a => k_is); (case b => k_is); (case c => k_is)
        c_Flow := by refine' Lk.cls_0 ?a ?b ?c ?d; (case a => k_is); (case b => k_is); (case c => k_is); (case d => k_is)
        m_Web := by refine' Lk.mak_1 KX G ?a ?b ?c; (case a => k_is); (case b => k_is); (case c => k_is)
        c_Web := by refine' Lk.cls_1 ?a ?b ?c ?d; (case a => k_is); (case b => k_is); (case c => k_is); (case d => k_is)
        n_Flow_web := by refine' Lk.noat_0 ?a; (case a => k_is)
        n_Flow_steps := by refine' Lk.noat_0 ?a; (case a => k_is)
        n_Flow_spare := by refine' Lk.noat_0 ?a; (case a => k_is)
        n_Flow_wanted := by refine' Lk.noat_0 ?a; (case a => k_is)
        n_Web_many := by refine' Lk.sltf_1 (Lk.cls_1 (by k_is) (by k_is) (by k_is) (by k_is)) ?a ?b ?c ?d ?e (by decide); (case a => k_is); (case b => k_is); (case c => k_is); (case d => k_is); (case e => k_is)
        n_Web_near := by refine' Lk.sltf_1 (Lk.cls_1 (by k_is) (by k_is) (by k_is) (by k_is)) ?a ?b ?c ?d ?e (by decide); (case a => k_is); (case b => k_is); (case c => k_is); (case d => k_is); (case e => k_is)
        n_Web_ties := by refine' Lk.sltf_1 (Lk.cls_1 (by k_is) (by k_is) (by k_is) (by k_is)) ?a ?b ?c ?d ?e (by decide); (case a => k_is); (case b => k_is); (case c => k_is); (case d => k_is); (case e => k_is)
        o_Web := by refine' Lk.owneq_1 ?a ?b; (case a => k_is); (case b => k_is)
        q_Web := by refine' Lk.kit_1 ?a ?b ?c ?d ?e ?f ?g; (case a => kit_is); (case b => kit_is); (case c => kit_is); (case d => kit_is); (case e => kit_is); (case f => kit_is); (case g => kit_is)
        s_Web_Flow := by exact Lk.isi_1_0 (Lk.sisi_0 (by k_is) (by k_is) (by k_is) (by k_is)) (Lk.cls_0 (by k_is) (by k_is) (by k_is) (by k_is)) (by kit_is)
        s_Web_Web := by exact Lk.isi_1_1 (Lk.sisi_1 (by k_is) (by k_is) (by k_is) (by k_is)) (Lk.cls_1 (by k_is) (by k_is) (by k_is) (by k_is)) (by kit_is)
      }

