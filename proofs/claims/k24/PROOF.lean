import PyProof.Rows.All
import Wide.All
import OpenK.AllK
import Wide.FinOn
import HandS.ForMost
import HandS.ForExc
import HandS.TryMany
import HandS.ExcInit
import HandS.ExcField
import HandS.ExcIs
import HandS.CallSlots
import HandS.IsInst
import HandS.Wide
import HandS.TupAny
import HandS.TupMul
import HandS.Deep
import HandS.Flow
import HandS.Nested
import KE.KExcSuper
import HandS.Ends
import PySem.Challenge.RW_ofthecode_k24_ways_counted
set_option Elab.async false
set_option linter.all false
set_option maxRecDepth 100000
set_option maxHeartbeats 4000000
/-! Vm1: values and objects of a small machine, how they stand for the layer's values, what stays true as the heap grows. -/
namespace Vm
open PySem PySem.Spec PyProof.Rows L2

/-- a value: tuples by what is in them, lists, dicts and instances by their number -/
inductive CV where
  | non | bl (b : Bool) | int (i : Int) | str (x : Str) | ty (n : String) | cls (k : Nat) | ref (n : Nat)
  | tup (xs : List CV) | kt (xs : List CV) | fl (xs : List CV)
/-- an object that may change -/
inductive CO where
  | lst (xs : List CV) | dK (kvs : List (Key × CV)) | dT (kvs : List (List Key × CV)) | ins (k : Nat) (fs : List (Str × CV))
  | fdK (kvs : List (Key × CV)) | fdT (kvs : List (List Key × CV))
abbrev CH := List CO
abbrev Env := List (Option CV)
inductive Rs (α : Type) where
  | ok (a : α) (h : CH) | ex (k : Nat) (fs : List (Str × CV)) (h : CH) | no
def Rs.bind {α β : Type} (x : Rs α) (f : α → CH → Rs β) : Rs β := match x with
  | .ok a h => f a h
  | .ex k fs h => .ex k fs h
  | .no => .no
/-- how a statement ends -/
inductive Fl where
  | nx (σ : Env) (h : CH) | rt (c : CV) (h : CH) | bk (σ : Env) (h : CH) | ct (σ : Env) (h : CH)
  | ex (k : Nat) (fs : List (Str × CV)) (σ : Env) (h : CH) | no
abbrev ME := Env → CH → Rs CV
abbrev MT := Env → CH → Rs Bool
abbrev MA := Env → CH → Rs (List CV)
abbrev MS := Env → CH → Fl

/-- the written part, where the classes stand -/
structure Gc where
  K : PySem.W.Frag
  C : Nat → Addr

def FrL (K : PySem.W.Frag) (H : Hp) (a : Addr) (xs : List V) : Prop :=
  (∃ o, H a = some (.frz o (.lst xs))) ∨
    ∃ (o : Obj) (its : Array Value) (n : Nat), K.lookup a = some o ∧ o.cls = .type "list" ∧ o.dict = none ∧ o.data = .seq its n ∧ its.size ≤ sizeLine ∧ Vals xs its.toList
/-- a tuple of the written part -/
def KTp (K : PySem.W.Frag) (a : Addr) (xs : List V) : Prop :=
  ∃ (o : Obj) (its : Array Value) (n : Nat), K.lookup a = some o ∧ o.cls = .type "tuple" ∧ o.data = .seq its n ∧ its.size ≤ sizeLine ∧ Vals xs its.toList
theorem KTp.sq {K : PySem.W.Frag} {H : Hp} {a : Addr} {xs : List V} (h : KTp K a xs) : SqT K H a xs := .inr h
theorem FrL.sq {K : PySem.W.Frag} {H : Hp} {a : Addr} {xs : List V} (h : FrL K H a xs) : SqL K H a xs := by
  rcases h with h | h
  · exact .inl (.inr h)
  · exact .inr h

mutual
def RelC (g : Gc) (m : List Addr) (H : Hp) : CV → V → Prop
  | .non, v => v = .non
  | .bl b, v => v = .bl b
  | .int i, v => v = .int i
  | .str x, v => v = .str x
  | .ty n, v => v = .ty n
  | .cls k, v => v = .ref (g.C k)
  | .ref n, v => ∃ a, v = .ref a ∧ m[n]? = some a
  | .tup cs, v => ∃ a vs, v = .ref a ∧ H a = some (.tup vs) ∧ RelCs g m H cs vs
  | .kt cs, v => ∃ a vs, v = .ref a ∧ KTp g.K a vs ∧ RelCs g m H cs vs
  | .fl cs, v => ∃ a vs, v = .ref a ∧ FrL g.K H a vs ∧ RelCs g m H cs vs
def RelCs (g : Gc) (m : List Addr) (H : Hp) : List CV → List V → Prop
  | [], vs => vs = []
  | c :: cs, vs => ∃ v r, vs = v :: r ∧ RelC g m H c v ∧ RelCs g m H cs r
end
def RelP {κ : Type} (g : Gc) (m : List Addr) (H : Hp) : List (κ × CV) → List (κ × V) → Prop
  | [], vs => vs = []
  | p :: ps, vs => ∃ v r, vs = (p.1, v) :: r ∧ RelC g m H p.2 v ∧ RelP g m H ps r

/-- what never changes -/
structure TK (H H' : Hp) : Prop where
  t : ∀ a xs, H a = some (.tup xs) → H' a = some (.tup xs)
  f : ∀ a o u, H a = some (.frz o u) → H' a = some (.frz o u)
  x : ∀ a fs, H a = some (.xd fs) → H' a = some (.xd fs)
  e : ∀ a φ, H a = some (.ext φ) → H' a = some (.ext φ)
  s : ∀ a o, H a = some o → ∃ o', H' a = some o'
theorem TK.refl (H : Hp) : TK H H := ⟨fun _ _ h => h, fun _ _ _ h => h, fun _ _ h => h, fun _ _ h => h, fun _ o h => ⟨o, h⟩⟩
theorem TK.trans {H H1 H2 : Hp} (a : TK H H1) (b : TK H1 H2) : TK H H2 :=
  ⟨fun c xs h => b.t c xs (a.t c xs h), fun c o u h => b.f c o u (a.f c o u h), fun c fs h => b.x c fs (a.x c fs h), fun c fs h => b.e c fs (a.e c fs h), fun c o h => let ⟨o1, h1⟩ := a.s c o h; b.s c o1 h1⟩
/-- a new object -/
theorem TK.new {H : Hp} {p : Addr} {o : HO} (h : H p = none) : TK H (upd H p o) :=
  ⟨fun a xs e => by rw [upd_ne (ne_of_none e h)]; exact e, fun a o u e => by rw [upd_ne (ne_of_none e h)]; exact e, fun a xs e => by rw [upd_ne (ne_of_none e h)]; exact e, fun a xs e => by rw [upd_ne (ne_of_none e h)]; exact e,
    fun a xs e => ⟨xs, by rw [upd_ne (ne_of_none e h)]; exact e⟩⟩
def Mov : HO → Prop
  | .tup _ => False
  | .frz _ _ => False
  | .xd _ => False
  | .ext _ => False
  | _ => True
theorem upd_some {H : Hp} {p a : Addr} {o u : HO} (h : H a = some u) : ∃ o', upd H p o a = some o' := by
  by_cases hp : a = p
  · exact ⟨o, by rw [hp]; exact upd_same⟩
  · exact ⟨u, by rw [upd_ne hp]; exact h⟩
theorem TK.put {H : Hp} {p : Addr} {o u : HO} (h : H p = some u) (hm : Mov u) : TK H (upd H p o) := by
  have go : ∀ a w, H a = some w → ¬ Mov w → a ≠ p := fun a w e nw z => by
    subst z
    rw [h] at e
    cases e
    exact nw hm
  exact ⟨fun a xs e => by rw [upd_ne (go a _ e (fun z => z))]; exact e, fun a o u e => by rw [upd_ne (go a _ e (fun z => z))]; exact e, fun a xs e => by rw [upd_ne (go a _ e (fun z => z))]; exact e, fun a xs e => by rw [upd_ne (go a _ e (fun z => z))]; exact e, fun a o e => upd_some e⟩

structure Ext (m : List Addr) (H : Hp) (m' : List Addr) (H' : Hp) : Prop where
  pre : m <+: m'
  tk : TK H H'
  /-- what is not ours stays -/
  fr : ∀ a u, H a = some u → a ∉ m → H' a = some u
  /-- what is ours anew was not told -/
  nw : ∀ a, a ∈ m' → a ∈ m ∨ H a = none
theorem Ext.refl (m : List Addr) (H : Hp) : Ext m H m H := ⟨List.prefix_refl m, TK.refl H, fun _ _ h _ => h, fun _ h => .inl h⟩
theorem Ext.trans {m m1 m2 : List Addr} {H H1 H2 : Hp} (a : Ext m H m1 H1) (b : Ext m1 H1 m2 H2) : Ext m H m2 H2 := by
  refine ⟨a.pre.trans b.pre, a.tk.trans b.tk, fun c u h n => ?_, fun c h => ?_⟩
  · refine b.fr c u (a.fr c u h n) fun z => ?_
    rcases a.nw c z with y | y
    · exact n y
    · rw [h] at y
      cases y
  · rcases b.nw c h with y | y
    · exact a.nw c y
    · cases q : H c with
      | none => exact .inr rfl
      | some u =>
        by_cases z : c ∈ m
        · exact .inl z
        · rw [a.fr c u q z] at y
          cases y
theorem ext_alloc {m : List Addr} {H : Hp} {p : Addr} {ho : HO} (hp : H p = none) : Ext m H (m ++ [p]) (upd H p ho) := by
  refine ⟨List.prefix_append m [p], TK.new hp, fun a u h _ => by rw [upd_ne (ne_of_none h hp)]; exact h, fun a h => ?_⟩
  rcases List.mem_append.mp h with y | y
  · exact .inl y
  · have : a = p := by simpa using y
    rw [this]
    exact .inr hp
theorem ext_beside {m : List Addr} {H : Hp} {p : Addr} {ho : HO} (hp : H p = none) : Ext m H m (upd H p ho) :=
  ⟨List.prefix_refl m, TK.new hp, fun a u h _ => by rw [upd_ne (ne_of_none h hp)]; exact h, fun a h => .inl h⟩
theorem Ext.get {m m' : List Addr} {H H' : Hp} (e : Ext m H m' H') {n : Nat} {a : Addr} (h : m[n]? = some a) : m'[n]? = some a := by
  obtain ⟨t, rfl⟩ := e.pre
  rw [List.getElem?_append_left (List.getElem?_eq_some_iff.mp h).1]
  exact h
/-- what a value rests on -/
structure TK0 (H H' : Hp) : Prop where
  t : ∀ a xs, H a = some (.tup xs) → H' a = some (.tup xs)
  f : ∀ a o u, H a = some (.frz o (.lst u)) → H' a = some (.frz o (.lst u))
  x : ∀ a fs, H a = some (.xd fs) → H' a = some (.xd fs)
theorem TK.k0 {H H' : Hp} (k : TK H H') : TK0 H H' := ⟨k.t, fun a o u => k.f a o _, k.x⟩
structure E0 (m : List Addr) (H : Hp) (m' : List Addr) (H' : Hp) : Prop where
  pre : m <+: m'
  tk : TK0 H H'
theorem Ext.e0 {m m' : List Addr} {H H' : Hp} (e : Ext m H m' H') : E0 m H m' H' := ⟨e.pre, e.tk.k0⟩
theorem E0.get {m m' : List Addr} {H H' : Hp} (e : E0 m H m' H') {n : Nat} {a : Addr} (h : m[n]? = some a) : m'[n]? = some a := by
  obtain ⟨t, rfl⟩ := e.pre
  rw [List.getElem?_append_left (List.getElem?_eq_some_iff.mp h).1]
  exact h
theorem frL_tk0 {K : PySem.W.Frag} {H H' : Hp} {a : Addr} {xs : List V} (t : TK0 H H') (h : FrL K H a xs) : FrL K H' a xs := by
  rcases h with ⟨o, h⟩ | h
  · exact .inl ⟨o, t.f _ _ _ h⟩
  · exact .inr h
theorem frL_tk {K : PySem.W.Frag} {H H' : Hp} {a : Addr} {xs : List V} (t : TK H H') (h : FrL K H a xs) : FrL K H' a xs := by
  rcases h with ⟨o, h⟩ | h
  · exact .inl ⟨o, t.f _ _ _ h⟩
  · exact .inr h
section
variable {g : Gc} {m m' : List Addr} {H H' : Hp}
mutual
theorem RelC.mono0 (e : E0 m H m' H') : ∀ {c : CV} {v : V}, RelC g m H c v → RelC g m' H' c v
  | .non, _, h => h
  | .bl _, _, h => h
  | .int _, _, h => h
  | .str _, _, h => h
  | .ty _, _, h => h
  | .cls _, _, h => h
  | .ref n, v, h => by
    simp only [RelC] at h ⊢
    obtain ⟨a, ev, hn⟩ := h
    exact ⟨a, ev, e.get hn⟩
  | .tup cs, v, h => by
    simp only [RelC] at h ⊢
    obtain ⟨a, vs, ev, hs, hr⟩ := h
    exact ⟨a, vs, ev, e.tk.t _ _ hs, RelCs.mono0 e hr⟩
  | .kt cs, v, h => by
    simp only [RelC] at h ⊢
    obtain ⟨a, vs, ev, hs, hr⟩ := h
    exact ⟨a, vs, ev, hs, RelCs.mono0 e hr⟩
  | .fl cs, v, h => by
    simp only [RelC] at h ⊢
    obtain ⟨a, vs, ev, hs, hr⟩ := h
    exact ⟨a, vs, ev, frL_tk0 e.tk hs, RelCs.mono0 e hr⟩
theorem RelCs.mono0 (e : E0 m H m' H') : ∀ {cs : List CV} {vs : List V}, RelCs g m H cs vs → RelCs g m' H' cs vs
  | [], _, h => by
    simp only [RelCs] at h ⊢
    exact h
  | c :: cs, vs, h => by
    simp only [RelCs] at h ⊢
    obtain ⟨v, r, ev, h1, h2⟩ := h
    exact ⟨v, r, ev, RelC.mono0 e h1, RelCs.mono0 e h2⟩
end
theorem RelC.mono (e : Ext m H m' H') {c : CV} {v : V} (h : RelC g m H c v) : RelC g m' H' c v := h.mono0 e.e0
theorem RelCs.mono (e : Ext m H m' H') {c : List CV} {v : List V} (h : RelCs g m H c v) : RelCs g m' H' c v := h.mono0 e.e0
theorem RelP.mono0 {κ : Type} (e : E0 m H m' H') : ∀ {ps : List (κ × CV)} {vs : List (κ × V)}, RelP g m H ps vs → RelP g m' H' ps vs
  | [], _, h => h
  | p :: ps, vs, h => by
    obtain ⟨v, r, ev, h1, h2⟩ := h
    exact ⟨v, r, ev, h1.mono0 e, RelP.mono0 e h2⟩
theorem RelP.mono {κ : Type} (e : Ext m H m' H') {ps : List (κ × CV)} {vs : List (κ × V)} (h : RelP g m H ps vs) : RelP g m' H' ps vs := h.mono0 e.e0
end
section
variable {g : Gc} {m : List Addr} {H : Hp}
theorem rel_int {i : Int} {v : V} (h : RelC g m H (.int i) v) : v = .int i := by simpa only [RelC] using h
theorem rel_bl {i : Bool} {v : V} (h : RelC g m H (.bl i) v) : v = .bl i := by simpa only [RelC] using h
theorem rel_str {i : Str} {v : V} (h : RelC g m H (.str i) v) : v = .str i := by simpa only [RelC] using h
theorem rel_non {v : V} (h : RelC g m H .non v) : v = .non := by simpa only [RelC] using h
theorem rel_ty {n : String} {v : V} (h : RelC g m H (.ty n) v) : v = .ty n := by simpa only [RelC] using h
theorem rel_cls {k : Nat} {v : V} (h : RelC g m H (.cls k) v) : v = .ref (g.C k) := by simpa only [RelC] using h
theorem rel_ref {n : Nat} {v : V} (h : RelC g m H (.ref n) v) : ∃ a, v = .ref a ∧ m[n]? = some a := by simpa only [RelC] using h
theorem rel_tup {cs : List CV} {v : V} (h : RelC g m H (.tup cs) v) : ∃ a vs, v = .ref a ∧ H a = some (.tup vs) ∧ RelCs g m H cs vs := by simpa only [RelC] using h
theorem rel_kt {cs : List CV} {v : V} (h : RelC g m H (.kt cs) v) : ∃ a vs, v = .ref a ∧ KTp g.K a vs ∧ RelCs g m H cs vs := by simpa only [RelC] using h
theorem rel_fl {cs : List CV} {v : V} (h : RelC g m H (.fl cs) v) : ∃ a vs, v = .ref a ∧ FrL g.K H a vs ∧ RelCs g m H cs vs := by simpa only [RelC] using h
theorem mk_int {i : Int} : RelC g m H (.int i) (.int i) := by simp only [RelC]
theorem mk_bl {i : Bool} : RelC g m H (.bl i) (.bl i) := by simp only [RelC]
theorem mk_str {i : Str} : RelC g m H (.str i) (.str i) := by simp only [RelC]
theorem mk_non : RelC g m H .non .non := by simp only [RelC]
theorem mk_ty {n : String} : RelC g m H (.ty n) (.ty n) := by simp only [RelC]
theorem mk_cls {k : Nat} : RelC g m H (.cls k) (.ref (g.C k)) := by simp only [RelC]
theorem mk_ref {n : Nat} {a : Addr} (h : m[n]? = some a) : RelC g m H (.ref n) (.ref a) := by
  simp only [RelC]
  exact ⟨a, rfl, h⟩
theorem mk_tup {cs : List CV} {a : Addr} {vs : List V} (h : H a = some (.tup vs)) (r : RelCs g m H cs vs) : RelC g m H (.tup cs) (.ref a) := by
  simp only [RelC]
  exact ⟨a, vs, rfl, h, r⟩
theorem mk_kt {cs : List CV} {a : Addr} {vs : List V} (h : KTp g.K a vs) (r : RelCs g m H cs vs) : RelC g m H (.kt cs) (.ref a) := by
  simp only [RelC]
  exact ⟨a, vs, rfl, h, r⟩
theorem mk_fl {cs : List CV} {a : Addr} {vs : List V} (h : FrL g.K H a vs) (r : RelCs g m H cs vs) : RelC g m H (.fl cs) (.ref a) := by
  simp only [RelC]
  exact ⟨a, vs, rfl, h, r⟩
theorem rels_nil {vs : List V} (h : RelCs g m H [] vs) : vs = [] := by simpa only [RelCs] using h
theorem rels_cons {c : CV} {cs : List CV} {vs : List V} (h : RelCs g m H (c :: cs) vs) : ∃ v r, vs = v :: r ∧ RelC g m H c v ∧ RelCs g m H cs r := by simpa only [RelCs] using h
theorem mks_nil : RelCs g m H [] [] := by simp only [RelCs]
theorem mks_cons {c : CV} {cs : List CV} {v : V} {vs : List V} (h : RelC g m H c v) (r : RelCs g m H cs vs) : RelCs g m H (c :: cs) (v :: vs) := by
  simp only [RelCs]
  exact ⟨v, vs, rfl, h, r⟩
theorem RelCs.len : ∀ {cs : List CV} {vs : List V}, RelCs g m H cs vs → cs.length = vs.length
  | [], _, h => by rw [rels_nil h]; rfl
  | c :: cs, vs, h => by
    obtain ⟨v, r, rfl, _, h2⟩ := rels_cons h
    rw [List.length_cons, List.length_cons, RelCs.len h2]
theorem RelCs.get : ∀ {cs : List CV} {vs : List V} {i : Nat} {c : CV}, RelCs g m H cs vs → cs[i]? = some c → ∃ v, vs[i]? = some v ∧ RelC g m H c v
  | [], _, _, _, _, e => by simp at e
  | c :: cs, vs, 0, c', h, e => by
    obtain ⟨v, r, rfl, h1, h2⟩ := rels_cons h
    simp at e
    subst e
    exact ⟨v, rfl, h1⟩
  | c :: cs, vs, i + 1, c', h, e => by
    obtain ⟨v, r, rfl, h1, h2⟩ := rels_cons h
    obtain ⟨w, e1, r1⟩ := RelCs.get (i := i) h2 (by simpa using e)
    exact ⟨w, by simpa using e1, r1⟩
theorem RelCs.app : ∀ {cs ds : List CV} {vs ws : List V}, RelCs g m H cs vs → RelCs g m H ds ws → RelCs g m H (cs ++ ds) (vs ++ ws)
  | [], _, _, _, h, k => by rw [rels_nil h]; exact k
  | c :: cs, ds, vs, ws, h, k => by
    obtain ⟨v, r, rfl, h1, h2⟩ := rels_cons h
    exact mks_cons h1 (RelCs.app h2 k)
theorem RelCs.one {c : CV} {v : V} (h : RelC g m H c v) : RelCs g m H [c] [v] := mks_cons h mks_nil
theorem RelCs.take : ∀ {cs : List CV} {vs : List V} (n : Nat), RelCs g m H cs vs → RelCs g m H (cs.take n) (vs.take n)
  | _, _, 0, _ => mks_nil
  | [], _, n + 1, h => by rw [rels_nil h]; exact mks_nil
  | c :: cs, vs, n + 1, h => by
    obtain ⟨v, r, rfl, h1, h2⟩ := rels_cons h
    exact mks_cons h1 (RelCs.take n h2)
theorem RelCs.drop : ∀ {cs : List CV} {vs : List V} (n : Nat), RelCs g m H cs vs → RelCs g m H (cs.drop n) (vs.drop n)
  | _, _, 0, h => h
  | [], _, n + 1, h => by rw [rels_nil h]; exact mks_nil
  | c :: cs, vs, n + 1, h => by
    obtain ⟨v, r, rfl, h1, h2⟩ := rels_cons h
    exact RelCs.drop n h2
theorem RelCs.set {c : CV} {v : V} (r : RelC g m H c v) : ∀ {cs : List CV} {vs : List V} (i : Nat), RelCs g m H cs vs → RelCs g m H (cs.set i c) (vs.set i v)
  | [], _, _, h => by rw [rels_nil h]; exact mks_nil
  | d :: cs, vs, 0, h => by
    obtain ⟨w, r', rfl, h1, h2⟩ := rels_cons h
    exact mks_cons r h2
  | d :: cs, vs, i + 1, h => by
    obtain ⟨w, r', rfl, h1, h2⟩ := rels_cons h
    exact mks_cons h1 (RelCs.set r i h2)
theorem RelCs.erase : ∀ {cs : List CV} {vs : List V} (i : Nat), RelCs g m H cs vs → RelCs g m H (cs.eraseIdx i) (vs.eraseIdx i)
  | [], _, _, h => by rw [rels_nil h]; exact mks_nil
  | d :: cs, vs, 0, h => by
    obtain ⟨w, r', rfl, h1, h2⟩ := rels_cons h
    exact h2
  | d :: cs, vs, i + 1, h => by
    obtain ⟨w, r', rfl, h1, h2⟩ := rels_cons h
    exact mks_cons h1 (RelCs.erase i h2)
theorem RelCs.dropLast {cs : List CV} {vs : List V} (h : RelCs g m H cs vs) : RelCs g m H cs.dropLast vs.dropLast := by
  rw [List.dropLast_eq_take, List.dropLast_eq_take, h.len]
  exact h.take _
theorem RelCs.rep {cs : List CV} {vs : List V} (h : RelCs g m H cs vs) : ∀ k : Nat, RelCs g m H (List.replicate k cs).flatten (List.replicate k vs).flatten
  | 0 => mks_nil
  | k + 1 => by
    rw [List.replicate_succ, List.replicate_succ, List.flatten_cons, List.flatten_cons]
    exact h.app (RelCs.rep h k)
theorem RelCs.reverse {cs : List CV} {vs : List V} (h : RelCs g m H cs vs) : RelCs g m H cs.reverse vs.reverse := by
  induction cs generalizing vs with
  | nil => rw [rels_nil h]; exact mks_nil
  | cons c cs ih =>
    obtain ⟨v, r, rfl, h1, h2⟩ := rels_cons h
    rw [List.reverse_cons, List.reverse_cons]
    exact (ih h2).app (.one h1)
theorem RelCs.ints : ∀ {ns : List Int} {vs : List V}, RelCs g m H (ns.map CV.int) vs → vs = ns.map V.int
  | [], _, h => rels_nil h
  | n :: ns, vs, h => by
    obtain ⟨v, r, rfl, h1, h2⟩ := rels_cons h
    rw [rel_int h1, RelCs.ints h2]
    rfl
theorem mks_ints : ∀ (ns : List Int), RelCs g m H (ns.map CV.int) (ns.map V.int)
  | [] => mks_nil
  | n :: ns => mks_cons mk_int (mks_ints ns)
end

/-- what an object stands for -/
def RelO (g : Gc) (m : List Addr) (H : Hp) : CO → Addr → Prop
  | .lst cs, a => ∃ vs, H a = some (.lst vs) ∧ RelCs g m H cs vs
  | .dK kvs, a => ∃ ws, H a = some (.dK ws) ∧ RelP g m H kvs ws
  | .dT kvs, a => ∃ ws, H a = some (.dT ws) ∧ RelP g m H kvs ws
  | .ins k fs, a => ∃ dx ws, H a = some (.ins (g.C k) dx ws) ∧ RelP g m H fs ws
  | .fdK kvs, a => ∃ o ws, H a = some (.frz o (.dK ws)) ∧ RelP g m H kvs ws
  | .fdT kvs, a => ∃ o ws, H a = some (.frz o (.dT ws)) ∧ RelP g m H kvs ws
structure HRel (g : Gc) (m : List Addr) (h : CH) (H : Hp) : Prop where
  nd : m.Nodup
  len : m.length = h.length
  ob : ∀ (n : Nat) (o : CO) (a : Addr), h[n]? = some o → m[n]? = some a → RelO g m H o a
section
variable {g : Gc} {m m' : List Addr} {H H' : Hp} {h h' : CH}
theorem RelO.got {o : CO} {a : Addr} (r : RelO g m H o a) : ∃ u, H a = some u := by
  cases o with
  | lst _ => obtain ⟨_, e, _⟩ := r; exact ⟨_, e⟩
  | dK _ => obtain ⟨_, e, _⟩ := r; exact ⟨_, e⟩
  | dT _ => obtain ⟨_, e, _⟩ := r; exact ⟨_, e⟩
  | ins _ _ => obtain ⟨_, _, e, _⟩ := r; exact ⟨_, e⟩
  | fdK _ => obtain ⟨_, _, e, _⟩ := r; exact ⟨_, e⟩
  | fdT _ => obtain ⟨_, _, e, _⟩ := r; exact ⟨_, e⟩
theorem RelO.noext {o : CO} {a : Addr} (r : RelO g m H o a) : ∃ u, H a = some u ∧ ∀ φ, u ≠ .ext φ := by
  cases o with
  | lst _ => obtain ⟨_, e, _⟩ := r; exact ⟨_, e, fun _ z => nomatch z⟩
  | dK _ => obtain ⟨_, e, _⟩ := r; exact ⟨_, e, fun _ z => nomatch z⟩
  | dT _ => obtain ⟨_, e, _⟩ := r; exact ⟨_, e, fun _ z => nomatch z⟩
  | ins _ _ => obtain ⟨_, _, e, _⟩ := r; exact ⟨_, e, fun _ z => nomatch z⟩
  | fdK _ => obtain ⟨_, _, e, _⟩ := r; exact ⟨_, e, fun _ z => nomatch z⟩
  | fdT _ => obtain ⟨_, _, e, _⟩ := r; exact ⟨_, e, fun _ z => nomatch z⟩
/-- the object at a as it was, the rest grown -/
theorem RelO.keep0 {o : CO} {a : Addr} (r : RelO g m H o a) (e : E0 m H m' H') (ha : H' a = H a) : RelO g m' H' o a := by
  cases o with
  | lst _ => obtain ⟨vs, q, rr⟩ := r; exact ⟨vs, ha.trans q, rr.mono0 e⟩
  | dK _ => obtain ⟨vs, q, rr⟩ := r; exact ⟨vs, ha.trans q, rr.mono0 e⟩
  | dT _ => obtain ⟨vs, q, rr⟩ := r; exact ⟨vs, ha.trans q, rr.mono0 e⟩
  | ins _ _ => obtain ⟨dx, vs, q, rr⟩ := r; exact ⟨dx, vs, ha.trans q, rr.mono0 e⟩
  | fdK _ => obtain ⟨o, vs, q, rr⟩ := r; exact ⟨o, vs, ha.trans q, rr.mono0 e⟩
  | fdT _ => obtain ⟨o, vs, q, rr⟩ := r; exact ⟨o, vs, ha.trans q, rr.mono0 e⟩
theorem RelO.keep {o : CO} {a : Addr} (r : RelO g m H o a) (e : Ext m H m' H') (ha : H' a = H a) : RelO g m' H' o a := r.keep0 e.e0 ha
theorem HRel.at (R : HRel g m h H) {n : Nat} {o : CO} (e : h[n]? = some o) : ∃ a, m[n]? = some a ∧ RelO g m H o a := by
  have hl : n < m.length := by rw [R.len]; exact (List.getElem?_eq_some_iff.mp e).1
  exact ⟨m[n], List.getElem?_eq_some_iff.mpr ⟨hl, rfl⟩, R.ob n o _ e (List.getElem?_eq_some_iff.mpr ⟨hl, rfl⟩)⟩
theorem HRel.obj (R : HRel g m h H) {n : Nat} {a : Addr} (e : m[n]? = some a) : ∃ o, h[n]? = some o ∧ RelO g m H o a := by
  have hl : n < h.length := by rw [← R.len]; exact (List.getElem?_eq_some_iff.mp e).1
  exact ⟨h[n], List.getElem?_eq_some_iff.mpr ⟨hl, rfl⟩, R.ob n _ a (List.getElem?_eq_some_iff.mpr ⟨hl, rfl⟩) e⟩
theorem HRel.notin (R : HRel g m h H) {p : Addr} (hp : H p = none) : p ∉ m := fun hm => by
  obtain ⟨n, e⟩ := List.mem_iff_getElem?.mp hm
  obtain ⟨o, _, r⟩ := R.obj e
  obtain ⟨u, q⟩ := r.got
  rw [hp] at q
  cases q
theorem HRel.ne (R : HRel g m h H) {p : Addr} (hp : H p = none) {n : Nat} {a : Addr} (e : m[n]? = some a) : a ≠ p := fun z => by
  subst z
  exact R.notin hp (List.mem_iff_getElem?.mpr ⟨n, e⟩)
/-- an object that is not one of ours: a tuple, an exception's dict, .. -/
theorem HRel.beside {p : Addr} {o : HO} (R : HRel g m h H) (hp : H p = none) : HRel g m h (upd H p o) :=
  ⟨R.nd, R.len, fun n ob a e1 e2 => (R.ob n ob a e1 e2).keep (ext_beside hp) (upd_ne (R.ne hp e2))⟩
/-- a new object of ours -/
theorem HRel.alloc {p : Addr} {o : CO} {ho : HO} (R : HRel g m h H) (hp : H p = none) (new : RelO g (m ++ [p]) (upd H p ho) o p) : HRel g (m ++ [p]) (h ++ [o]) (upd H p ho) := by
  have e : Ext m H (m ++ [p]) (upd H p ho) := ext_alloc hp
  refine ⟨?_, by rw [List.length_append, List.length_append, R.len]; rfl, fun n ob a e1 e2 => ?_⟩
  · rw [List.nodup_append]
    refine ⟨R.nd, by simp, fun a ha b hb => ?_⟩
    have : b = p := by simpa using hb
    subst this
    rintro rfl
    exact R.notin hp ha
  · by_cases hn : n < m.length
    · rw [List.getElem?_append_left hn] at e2
      rw [List.getElem?_append_left (by rw [← R.len]; exact hn)] at e1
      exact (R.ob n ob a e1 e2).keep e (upd_ne (R.ne hp e2))
    · have hn' : n = m.length := by
        have := (List.getElem?_eq_some_iff.mp e2).1
        rw [List.length_append, List.length_singleton] at this
        omega
      subst hn'
      rw [List.getElem?_append_right (Nat.le_refl _), Nat.sub_self] at e2
      rw [R.len, List.getElem?_append_right (Nat.le_refl _), Nat.sub_self] at e1
      simp at e1 e2
      subst e1
      subst e2
      exact new
theorem new_at (R : HRel g m h H) (p : Addr) : (m ++ [p])[h.length]? = some p := by
  rw [← R.len, List.getElem?_append_right (Nat.le_refl _), Nat.sub_self]
  rfl
/-- an object of ours is changed -/
theorem HRel.put0 {n : Nat} {a : Addr} {ho : HO} {o : CO} (R : HRel g m h H) (hn : m[n]? = some a) (ex : E0 m H m (upd H a ho)) (new : RelO g m (upd H a ho) o a) : HRel g m (h.set n o) (upd H a ho) := by
  refine ⟨R.nd, by rw [List.length_set]; exact R.len, fun k ob b e1 e2 => ?_⟩
  by_cases hk : n = k
  · subst hk
    rw [hn] at e2
    cases e2
    have hl : n < h.length := by rw [← R.len]; exact (List.getElem?_eq_some_iff.mp hn).1
    rw [List.getElem?_set_self hl] at e1
    cases e1
    exact new
  · rw [List.getElem?_set_ne hk] at e1
    have hne : b ≠ a := fun z => by
      subst z
      exact hk ((List.getElem_inj R.nd).mp ((List.getElem?_eq_some_iff.mp hn).2.trans (List.getElem?_eq_some_iff.mp e2).2.symm))
    exact (R.ob k ob b e1 e2).keep0 ex (upd_ne hne)
theorem HRel.put {n : Nat} {a : Addr} {u ho : HO} {o : CO} (R : HRel g m h H) (hn : m[n]? = some a) (ha : H a = some u) (mv : Mov u) (new : RelO g m (upd H a ho) o a) : HRel g m (h.set n o) (upd H a ho) :=
  R.put0 hn ⟨List.prefix_refl m, (TK.put ha mv).k0⟩ new
theorem ext_put {n : Nat} {a : Addr} {u ho : HO} (hn : m[n]? = some a) (ha : H a = some u) (mv : Mov u) : Ext m H m (upd H a ho) :=
  ⟨List.prefix_refl m, TK.put ha mv, fun b w h z => by rw [upd_ne (fun y => z (by rw [y]; exact List.mem_iff_getElem?.mpr ⟨n, hn⟩))]; exact h, fun b h => .inl h⟩
end

/-- the slots -/
def SRel (g : Gc) (m : List Addr) (H : Hp) (σc : Env) (σ : L2.St) : Prop :=
  σc.length = σ.length ∧ ∀ (i : Nat) (c : CV), σc[i]? = some (some c) → ∃ v, σ[i]? = some (some v) ∧ RelC g m H c v
theorem SRel.mono {g : Gc} {m m' : List Addr} {H H' : Hp} {σc : Env} {σ : L2.St} (e : Ext m H m' H') (h : SRel g m H σc σ) : SRel g m' H' σc σ :=
  ⟨h.1, fun i c q => let ⟨v, e1, r⟩ := h.2 i c q; ⟨v, e1, r.mono e⟩⟩
theorem SRel.mono0 {g : Gc} {m m' : List Addr} {H H' : Hp} {σc : Env} {σ : L2.St} (e : E0 m H m' H') (h : SRel g m H σc σ) : SRel g m' H' σc σ :=
  ⟨h.1, fun i c q => let ⟨v, e1, r⟩ := h.2 i c q; ⟨v, e1, r.mono0 e⟩⟩
theorem SRel.set {g : Gc} {m : List Addr} {H : Hp} {σc : Env} {σ : L2.St} {c : CV} {v : V} (h : SRel g m H σc σ) (r : RelC g m H c v) (i : Nat) : SRel g m H (σc.set i (some c)) (σ.set i (some v)) := by
  refine ⟨by rw [List.length_set, List.length_set]; exact h.1, fun j d e => ?_⟩
  by_cases hj : i = j
  · subst hj
    have hl : i < σc.length := by
      have := (List.getElem?_eq_some_iff.mp e).1
      rwa [List.length_set] at this
    rw [List.getElem?_set_self hl] at e
    cases e
    exact ⟨v, by rw [List.getElem?_set_self (by rw [← h.1]; exact hl)], r⟩
  · rw [List.getElem?_set_ne hj] at e ⊢
    exact h.2 j d e
theorem SRel.unset {g : Gc} {m : List Addr} {H : Hp} {σc : Env} {σ : L2.St} (h : SRel g m H σc σ) (i : Nat) (o : Option V) : SRel g m H (σc.set i none) (σ.set i o) := by
  refine ⟨by rw [List.length_set, List.length_set]; exact h.1, fun j d e => ?_⟩
  by_cases hj : i = j
  · subst hj
    have hl : i < σc.length := by
      have := (List.getElem?_eq_some_iff.mp e).1
      rwa [List.length_set] at this
    rw [List.getElem?_set_self hl] at e
    cases e
  · rw [List.getElem?_set_ne hj] at e ⊢
    exact h.2 j d e
/-- the exception that a suite holds: its slot, its address, its dict's address, its class, its fields -/
structure HX where
  i : Nat
  a : Addr
  d : Addr
  k : Nat
  fs : List (Str × CV)
/-- what is wished of an exception; what is held -/
structure Wd where
  w : WX
  hx : Option HX
def HxR (g : Gc) (hx : Option HX) (m : List Addr) (σ : L2.St) (H : Hp) : Prop :=
  ∀ e, hx = some e → σ[e.i]? = some (some (.ref e.a)) ∧ ∃ vs, H e.d = some (.xd vs) ∧ RelP g m H e.fs vs
/-- the machine's state stands for the layer's -/
structure Cf (g : Gc) (hx : Option HX) (m : List Addr) (σc : Env) (h : CH) (σ : L2.St) (H : Hp) : Prop where
  hr : HRel g m h H
  sr : SRel g m H σc σ
  xr : HxR g hx m σ H
theorem HxR.mono {g : Gc} {hx : Option HX} {m m' : List Addr} {σ : L2.St} {H H' : Hp} (e : Ext m H m' H') (h : HxR g hx m σ H) : HxR g hx m' σ H' := fun x ex =>
  let ⟨h1, vs, h2, h3⟩ := h x ex
  ⟨h1, vs, e.tk.x _ _ h2, h3.mono e⟩
theorem HxR.mono0 {g : Gc} {hx : Option HX} {m m' : List Addr} {σ : L2.St} {H H' : Hp} (e : E0 m H m' H') (h : HxR g hx m σ H) : HxR g hx m' σ H' := fun x ex =>
  let ⟨h1, vs, h2, h3⟩ := h x ex
  ⟨h1, vs, e.tk.x _ _ h2, h3.mono0 e⟩
theorem HxR.none {g : Gc} {m : List Addr} {σ : L2.St} {H : Hp} : HxR g none m σ H := fun _ e => nomatch e
theorem Cf.next {g : Gc} {hx : Option HX} {m m' : List Addr} {σc : Env} {h h' : CH} {σ : L2.St} {H H' : Hp} (c : Cf g hx m σc h σ H) (e : Ext m H m' H') (r : HRel g m' h' H') : Cf g hx m' σc h' σ H' := ⟨r, c.sr.mono e, c.xr.mono e⟩

theorem Cf.next0 {g : Gc} {hx : Option HX} {m m' : List Addr} {σc : Env} {h h' : CH} {σ : L2.St} {H H' : Hp} (c : Cf g hx m σc h σ H) (e : E0 m H m' H') (r : HRel g m' h' H') : Cf g hx m' σc h' σ H' := ⟨r, c.sr.mono0 e, c.xr.mono0 e⟩

/-! ### readings by the machine -/
abbrev Rl (α β : Type) := List Addr → Hp → α → β → Prop
def OkP {α β : Type} (R : Rl α β) (g : Gc) (m : List Addr) (H : Hp) (c : α) (h' : CH) (Q : β → Hp → Prop) : Prop :=
  ∀ m' H' v, Ext m H m' H' → HRel g m' h' H' → R m' H' c v → Q v H'
def ExP (g : Gc) (m : List Addr) (H : Hp) (k : Nat) (fs : List (Str × CV)) (h' : CH) (E : XK) : Prop :=
  ∀ m' H' dd vs, Ext m H m' H' → HRel g m' h' H' → H' dd = some (.xd vs) → RelP g m' H' fs vs → E (.ref (g.C k)) (some dd) H'
def PostG {α β : Type} (R : Rl α β) (g : Gc) (m : List Addr) (H : Hp) (r : Rs α) (Q : β → Hp → Prop) (E : XK) : Prop :=
  match r with
  | .ok c h' => OkP R g m H c h' Q
  | .ex k fs h' => ExP g m H k fs h' E
  | .no => False
def tg {α β : Type} (R : Rl α β) (g : Gc) (W : Wd) (f : Env → CH → Rs α) : L2.St → Hp → (β → Hp → Prop) → Prop := fun σ H Q =>
  ∃ m σc h, Cf g W.hx m σc h σ H ∧ PostG R g m H (f σc h) Q (fun cls d H' => W.w cls d σ H')
def Req {α : Type} : Rl α α := fun _ _ a b => a = b
abbrev te (g : Gc) (W : Wd) (f : ME) : TE := tg (RelC g) g W f
abbrev tt (g : Gc) (W : Wd) (f : MT) : TT := tg Req g W f
abbrev ta (g : Gc) (W : Wd) (f : MA) : TA := tg (RelCs g) g W f
theorem OkP.here {α β : Type} {R : Rl α β} {g : Gc} {m : List Addr} {H : Hp} {c : α} {h : CH} {Q : β → Hp → Prop} {v : β} (p : OkP R g m H c h Q) (r : HRel g m h H) (q : R m H c v) : Q v H := p m H v (.refl m H) r q
theorem OkP.go {α β : Type} {R : Rl α β} {g : Gc} {m m' : List Addr} {H H' : Hp} {c : α} {h : CH} {Q : β → Hp → Prop} (p : OkP R g m H c h Q) (e : Ext m H m' H') : OkP R g m' H' c h Q :=
  fun m2 H2 v e2 r q => p m2 H2 v (e.trans e2) r q
theorem ExP.go {g : Gc} {m m' : List Addr} {H H' : Hp} {k : Nat} {fs : List (Str × CV)} {h : CH} {E : XK} (p : ExP g m H k fs h E) (e : Ext m H m' H') : ExP g m' H' k fs h E :=
  fun m2 H2 dd vs e2 r x q => p m2 H2 dd vs (e.trans e2) r x q
theorem PostG.go {α β : Type} {R : Rl α β} {g : Gc} {m m' : List Addr} {H H' : Hp} {r : Rs α} {Q : β → Hp → Prop} {E : XK} (p : PostG R g m H r Q E) (e : Ext m H m' H') : PostG R g m' H' r Q E := by
  cases r with
  | ok c h => exact OkP.go p e
  | ex k fs h => exact ExP.go p e
  | no => exact p
/-- ONE STEP: what f gives, then what k makes of it -/
theorem tg_bind {α β γ δ : Type} {R1 : Rl α β} {R2 : Rl γ δ} {g : Gc} {W : Wd} {m : List Addr} {σc : Env} {h : CH} {σ : L2.St} {H : Hp} {f : Env → CH → Rs α} {k : α → CH → Rs γ} {Q : δ → Hp → Prop} {Q1 : β → Hp → Prop}
    (cf : Cf g W.hx m σc h σ H) (p : PostG R2 g m H ((f σc h).bind k) Q (fun cls d H' => W.w cls d σ H'))
    (st : ∀ a h1 m1 H1 x, f σc h = .ok a h1 → Ext m H m1 H1 → Cf g W.hx m1 σc h1 σ H1 → R1 m1 H1 a x → PostG R2 g m1 H1 (k a h1) Q (fun cls d H' => W.w cls d σ H') → Q1 x H1) : tg R1 g W f σ H Q1 := by
  refine ⟨m, σc, h, cf, ?_⟩
  cases e : f σc h with
  | ok a h1 =>
    rw [e] at p
    exact fun m1 H1 x e1 r1 q1 => st a h1 m1 H1 x e e1 (cf.next e1 r1) q1 (PostG.go (R := R2) p e1)
  | ex kk fs h1 =>
    rw [e] at p
    exact p
  | no =>
    rw [e] at p
    exact p.elim
theorem tg_imp {α β : Type} {R : Rl α β} {g : Gc} {W : Wd} {f : Env → CH → Rs α} {σ : L2.St} {H : Hp} {Q Q' : β → Hp → Prop} (h : tg R g W f σ H Q) (hq : ∀ v H', Q v H' → Q' v H') : tg R g W f σ H Q' := by
  obtain ⟨m, σc, hh, cf, p⟩ := h
  refine ⟨m, σc, hh, cf, ?_⟩
  cases e : f σc hh with
  | ok a h1 =>
    rw [e] at p
    exact fun m1 H1 x e1 r1 q1 => hq _ _ (p m1 H1 x e1 r1 q1)
  | ex kk fs h1 =>
    rw [e] at p
    exact p
  | no =>
    rw [e] at p
    exact p.elim
/-! statements -/
def PostS (g : Gc) (m : List Addr) (H : Hp) (r : Fl) (D : Ends) (W : Wd) : Prop :=
  match r with
  | .nx σc h' => ∀ m' H' σ', Ext m H m' H' → Cf g W.hx m' σc h' σ' H' → D.nx σ' H'
  | .rt c h' => ∀ m' H' v, Ext m H m' H' → HRel g m' h' H' → RelC g m' H' c v → D.rt v H'
  | .bk σc h' => ∀ m' H' σ', Ext m H m' H' → Cf g W.hx m' σc h' σ' H' → D.bk σ' H'
  | .ct σc h' => ∀ m' H' σ', Ext m H m' H' → Cf g W.hx m' σc h' σ' H' → D.ct σ' H'
  | .ex k fs σc h' => ∀ m' H' σ' dd vs, Ext m H m' H' → Cf g W.hx m' σc h' σ' H' → H' dd = some (.xd vs) → RelP g m' H' fs vs → W.w (.ref (g.C k)) (some dd) σ' H'
  | .no => False
def ts (g : Gc) (W : Wd) (f : MS) : TS := fun D σ H => ∃ m σc h, Cf g W.hx m σc h σ H ∧ PostS g m H (f σc h) D W
theorem PostS.go {g : Gc} {m m' : List Addr} {H H' : Hp} {r : Fl} {D : Ends} {W : Wd} (p : PostS g m H r D W) (e : Ext m H m' H') : PostS g m' H' r D W := by
  cases r with
  | nx σc h => exact fun m2 H2 σ2 e2 c => p m2 H2 σ2 (e.trans e2) c
  | rt c h => exact fun m2 H2 v e2 r q => p m2 H2 v (e.trans e2) r q
  | bk σc h => exact fun m2 H2 σ2 e2 c => p m2 H2 σ2 (e.trans e2) c
  | ct σc h => exact fun m2 H2 σ2 e2 c => p m2 H2 σ2 (e.trans e2) c
  | ex k fs σc h => exact fun m2 H2 σ2 dd vs e2 c x q => p m2 H2 σ2 dd vs (e.trans e2) c x q
  | no => exact p
/-- an expression within a statement -/
def Rs.st {α : Type} (x : Rs α) (σ : Env) (f : α → CH → Fl) : Fl := match x with
  | .ok a h => f a h
  | .ex k fs h => .ex k fs σ h
  | .no => .no
theorem ts_bind {α β : Type} {R1 : Rl α β} {g : Gc} {W : Wd} {m : List Addr} {σc : Env} {h : CH} {σ : L2.St} {H : Hp} {f : Env → CH → Rs α} {k : α → CH → Fl} {D : Ends} {Q1 : β → Hp → Prop}
    (cf : Cf g W.hx m σc h σ H) (p : PostS g m H ((f σc h).st σc k) D W)
    (st : ∀ a h1 m1 H1 x, f σc h = .ok a h1 → Ext m H m1 H1 → Cf g W.hx m1 σc h1 σ H1 → R1 m1 H1 a x → PostS g m1 H1 (k a h1) D W → Q1 x H1) : tg R1 g W f σ H Q1 := by
  refine ⟨m, σc, h, cf, ?_⟩
  cases e : f σc h with
  | ok a h1 =>
    rw [e] at p
    exact fun m1 H1 x e1 r1 q1 => st a h1 m1 H1 x e e1 (cf.next e1 r1) q1 (PostS.go p e1)
  | ex kk fs h1 =>
    rw [e] at p
    exact fun m1 H1 dd vs e1 r1 x q1 => p m1 H1 σ dd vs e1 (cf.next e1 r1) x q1
  | no =>
    rw [e] at p
    exact p.elim
/-! weaken a reading -/
theorem PE_imp {X : Cx} {e : Expr} {t t' : TE} (h : PE X e t) (i : ∀ σ H Q, t' σ H Q → t σ H Q) : PE X e t' := ⟨fun pins s σ H Q I q => h.run pins s σ H Q I (i σ H Q q)⟩
theorem PT_imp {X : Cx} {e : Expr} {t t' : TT} (h : PT X e t) (i : ∀ σ H Q, t' σ H Q → t σ H Q) : PT X e t' := ⟨fun pins s σ H Q I q => h.run pins s σ H Q I (i σ H Q q)⟩
theorem PW_imp {X : Cx} {e : Expr} {t t' : TT} (h : PW X e t) (i : ∀ σ H Q, t' σ H Q → t σ H Q) : PW X e t' := ⟨fun wh pins s σ H Q I q => h.run wh pins s σ H Q I (i σ H Q q)⟩
theorem PA_imp {X : Cx} {e : List Expr} {t t' : TA} (h : PA X e t) (i : ∀ σ H Q, t' σ H Q → t σ H Q) : PA X e t' := ⟨fun pos pins s σ H Q I q => h.run pos pins s σ H Q I (i σ H Q q)⟩
theorem PS_imp {X : Cx} {e : Stmt} {t t' : TS} (h : PS X e t) (i : ∀ D σ H, t' D σ H → t D σ H) : PS X e t' := ⟨fun pins s σ H D I q => h.run pins s σ H D I (i D σ H q)⟩
theorem PSs_imp {X : Cx} {e : List Stmt} {t t' : TS} (h : PSs X e t) (i : ∀ D σ H, t' D σ H → t D σ H) : PSs X e t' := ⟨fun pins s σ H D I q => h.run pins s σ H D I (i D σ H q)⟩
end Vm

/-! Vm2: what a def does by the machine (FnV: as the layer's FnOk, with the guards told), calls, the law's end. -/
namespace Vm
open PySem PySem.Spec PyProof.Rows L2

/-- room for k calls, nothing is being shown -/
structure Rm (k : Nat) (A : Around) : Prop where
  r : Room k A
  gd : A.guards = some []
theorem Rm.mono {j k : Nat} {A : Around} (h : Rm k A) (l : j ≤ k) : Rm j A := ⟨h.r.mono l, h.gd⟩
theorem Rm.deeper {k : Nat} {A : Around} (h : Rm (k + 1) A) (env : PySem.Env) : Rm k (A.deeper env) := ⟨h.r.deeper env, h.gd⟩

/-- what a def keeps -/
structure FnV (P : Program) (w : World) (K : PySem.W.Frag) (mg : Str → Option Value) (base : Heap) (k : Nat) (f : Addr) (fd : FuncData) (ps : List Str) (sp : Sp) : Prop where
  len : ∀ vs H Q E, sp vs H Q E → vs.length = ps.length
  go : ∀ (A : Around) (l : List PySem.Env) (s : Shared) (H : Hp) (args : Args) (us : List Value) (vs : List V) (Q : VK) (E : XK),
    Rm k A → Env0 P w K mg base A l s H → BindsTo s fd args (ps.zip us) → Vals vs us → sp vs H Q E →
      codeAny (model P w) A (.call (.ref f) args) (CR (L2.CX P w) l P w H s Q E) s
theorem FnV.mono {P : Program} {w : World} {K : PySem.W.Frag} {mg : Str → Option Value} {base : Heap} {j k : Nat} {f : Addr} {fd : FuncData} {ps : List Str} {sp : Sp}
    (F : FnV P w K mg base j f fd ps sp) (l : j ≤ k) : FnV P w K mg base k f fd ps sp :=
  ⟨F.len, fun A ls s H args us vs Q E hr => F.go A ls s H args us vs Q E (hr.mono l)⟩

/-- the machine's promise -/
def spV (g : Gc) (ev : List CV → CH → Rs CV) : Sp := fun vs H Q E => ∃ m cs h, HRel g m h H ∧ RelCs g m H cs vs ∧ PostG (RelC g) g m H (ev cs h) Q E
/-- a def by its body: n parameters, N names -/
def cDef (n N : Nat) (body : MS) : List CV → CH → Rs CV := fun cs h =>
  if cs.length = n then
    (match body (cs.map some ++ List.replicate (N - n) none) h with
      | .nx _ h' => .ok .non h'
      | .rt c h' => .ok c h'
      | .ex k fs _ h' => .ex k fs h'
      | .bk _ _ => .no
      | .ct _ _ => .no
      | .no => .no)
  else .no
theorem cDef_len {n N : Nat} {body : MS} {cs : List CV} {h : CH} {R : Rl CV V} {g : Gc} {m : List Addr} {H : Hp} {Q : VK} {E : XK} (p : PostG R g m H (cDef n N body cs h) Q E) : cs.length = n := by
  unfold cDef at p
  split at p
  · assumption
  · exact p.elim

theorem start_rel {g : Gc} {m : List Addr} {H : Hp} {cs : List CV} {vs : List V} {N : List Str} (r : RelCs g m H cs vs) : SRel g m H (cs.map some ++ List.replicate (N.length - cs.length) none) (L2.start N vs) := by
  unfold L2.start
  refine ⟨by simp [r.len], fun i c e => ?_⟩
  by_cases hi : i < cs.length
  · rw [List.getElem?_append_left (by simpa using hi), List.getElem?_map] at e
    cases q : cs[i]? with
    | none => rw [q] at e; cases e
    | some d =>
      rw [q] at e
      cases e
      obtain ⟨v, e1, r1⟩ := r.get q
      refine ⟨v, ?_, r1⟩
      rw [List.getElem?_append_left (by rw [List.length_map, ← r.len]; exact hi), List.getElem?_map, e1]
      rfl
  · rw [List.getElem?_append_right (by simpa using hi), List.getElem?_replicate] at e
    split at e <;> cases e

/-- the context of a def's body -/
abbrev bx (P : Program) (w : World) (K : PySem.W.Frag) (mg : Str → Option Value) (base : Heap) (N : List Str) (qual : Str) (scope : Scope) (f : Addr) (cd : Value) (A : Around) (l : List PySem.Env) (s : Shared) (H : Hp) (E : XK) : Cx :=
  cxOf (L2.CX P w) P w K mg base N qual scope f cd A l s H E
/-- a body's wish -/
abbrev wE (E : XK) : Wd := ⟨fun cls d _ H => E cls d H, none⟩

/-- what the machine's rules ask of where they stand -/
structure XOk (X : Cx) (W : Wd) (k : Nat) : Prop where
  tk : Takes X W.w
  rm : Rm k X.A
  calm : X.calm = true
  nd : X.N.Nodup
theorem XOk.hu {X : Cx} {W : Wd} {k : Nat} (o : XOk X W k) : X.A.units + 1 < cLine := hu_of o.rm.r

/-- THE RULE of a def -/
theorem fnV_of {P : Program} {w : World} {K : PySem.W.Frag} {mg : Str → Option Value} {base : Heap} {g : Gc} {x qual : Str} {st : Stmt} {f : Addr} {fd : FuncData} {N ps : List Str} {k : Nat} {body : MS}
    (F : Fun K x qual st f fd) (S : FnScope N ps (defScope st))
    (hb : ∀ (cdv : Value) (A : Around) (l : List PySem.Env) (s : Shared) (H : Hp) (E : XK), XOk (bx P w K mg base N qual (defScope st) f cdv A l s H E) (wE E) k →
      PassesOwn (model P w) (A.deeper (envOfC qual (defScope st) s.heap.objs.size f cdv)) (envOfC qual (defScope st) s.heap.objs.size f cdv) (bx P w K mg base N qual (defScope st) f cdv A l s H E).xe →
      PSs (bx P w K mg base N qual (defScope st) f cdv A l s H E) (defBody st) (ts g (wE E) body)) :
    FnV P w K mg base (k + 1) f fd ps (spV g (cDef ps.length N.length body)) := by
  obtain ⟨oc, od, kV, doc, pm, an, cdv, ct, osl, rfl, lk, hcd⟩ := F.ex
  have hlen : ∀ vs H Q E, spV g (cDef ps.length N.length body) vs H Q E → vs.length = ps.length := by
    rintro vs H Q E ⟨m, cs, h, hr, rc, p⟩
    rw [← rc.len, cDef_len p]
  refine ⟨hlen, fun A l s H args us vs Q E rm e0 hbd r hsp => ?_⟩
  have hl := hlen _ _ _ _ hsp
  have KX : K.In s.heap := e0.mod.kin.keeps fun b o e => (e0.bs b o e).1
  have nolim : s.heap.NoLimit := e0.mod.nolimit.keeps fun b o e => (e0.bs b o e).1
  have kinds : ∀ y ∈ ps.zip us, (defScope st).names.lookup y.1 = some .local ∨
      ((defScope st).names.lookup y.1 = some .cell ∧ ((cellsFrom (s.heap.objs.size + 1) (defScope st).names []).lookup y.1).isSome = true) := by
    rintro ⟨n, v⟩ hy
    rcases S.par n (List.of_mem_zip hy).1 with q | q
    · exact .inl q
    · exact .inr ⟨q, PySem.W.cellsFrom_some _ _ _ (.inl q)⟩
  refine codeAny_call_function rm.r.depth (KX _ _ lk) rfl S.co S.gen rfl
    (PySem.W.codeRec_of KX hcd) (hbd _ _ _ _ ?_)
  refine wpAny_newFunctionEnv_cells S.kind kinds
    fun env he s1 ic => ?_
  subst he
  refine ⟨nolim.keeps ic.toInCall.keep, codeAny_func ?_⟩
  have I : Inv (bx P w K mg base N qual (defScope st) f cdv A l s H E) [] (L2.start N vs) H s1 :=
    inv_start S rm.r.hd e0 hl r ic
  have rm' : Rm k (A.deeper (envOfC qual (defScope st) s.heap.objs.size f cdv)) := rm.deeper _
  have hB := hb cdv A l s H E ⟨takes_of rfl rfl rfl rfl, rm', rfl, S.nd⟩ PassesOwn.leaving
  obtain ⟨m, cs, h, hr, rc, p⟩ := hsp
  have hcn : cs.length = ps.length := cDef_len p
  unfold cDef at p
  rw [if_pos hcn] at p
  have q : ts g (wE E) body { nx := fun _ H' => Q .non H', rt := Q } (L2.start N vs) H := by
    refine ⟨m, cs.map some ++ List.replicate (N.length - ps.length) none, h, ⟨hr, by rw [← hcn]; exact start_rel rc, HxR.none⟩, ?_⟩
    generalize body (cs.map some ++ List.replicate (N.length - ps.length) none) h = z at p ⊢
    cases z with
    | nx σc h' => exact fun m' H' σ' e c => p m' H' .non e c.hr mk_non
    | rt c h' => exact fun m' H' v e hr' rv => p m' H' v e hr' rv
    | bk _ _ => exact p.elim
    | ct _ _ => exact p.elim
    | ex kk fs _ h' => exact fun m' H' σ' dd ws e c x1 x2 => p m' H' dd ws e c.hr x1 x2
    | no => exact p.elim
  refine wpAny_mono (hB.run [] s1 (L2.start N vs) H _ I q) (fun fl s' hs => ?_) (fun e s' hs => hs)
  have fin : ∀ {σ' : L2.St} {H' : Hp} {v : V} {u : Value}, Inv (bx P w K mg base N qual (defScope st) f cdv A l s H E) [] σ' H' s' → RelV v u → Q v H' →
      L2.CE l P w H s Q u s' := by
    intro σ' H' v u J rv qv
    exact ⟨v, H', J.os, J.bare, J.base, J.hok, rv, qv⟩
  cases fl with
  | next =>
    obtain ⟨σ', H', J, qv⟩ := hs
    exact fin (v := V.non) (u := Value.none) J rfl qv
  | ret u =>
    obtain ⟨v, σ', H', J, rv, qv⟩ := hs
    exact fin J rv qv
  | brk => exact (hs.choose_spec.choose_spec.2).elim
  | cont => exact (hs.choose_spec.choose_spec.2).elim

/-! ### calls -/
def cCall (ev : List CV → CH → Rs CV) (fa : MA) : ME := fun σ h => (fa σ h).bind ev
section
variable {X : Cx} {W : Wd} {g : Gc} {k j : Nat} {f : Addr} {fd : FuncData} {ps : List Str} {ev : List CV → CH → Rs CV} {x : Str} {p pos : Pos} {e : Expr} {es : List Expr} {fa : MA}
/-- the call itself, by values -/
theorem run_v {pins : List (Addr × Obj)} {σ : L2.St} {H : Hp} {s : Shared} {Q : VK} {us : List Value} {vs : List V} {sp : Sp} {E : XK}
    (F : FnV X.prog X.w X.K X.mg X.base j f fd ps sp) (hr : Rm j X.A) (hb : Binds X.K fd ps []) (hx : PassesAt (L2.CX X.prog X.w) X σ E)
    (I : Inv X pins σ H s) (r : Vals vs us) (h : sp vs H Q E) : wpAny (model X.prog X.w) X.A (call (.ref f) us) (EP X pins σ Q) X.xe s := by
  have hl : us.length = ps.length := (by rw [← r.length]; exact F.len _ _ _ _ h)
  have b := hb s us I.kIn (by rw [List.append_nil]; exact hl)
  rw [List.append_nil] at b
  refine wpAny_call (codeAny_mono (F.go X.A X.stack s H ⟨us, []⟩ us vs Q E hr I.env0 b r h)
    fun res s' hq => ?_)
  cases res with
  | error er => exact hx pins H s er s' I hq
  | ok fl =>
    cases fl with
    | ret u => exact I.after hq
    | next => exact hq.elim
    | brk => exact hq.elim
    | cont => exact hq.elim
theorem v_call (O : XOk X W k) (F : FnV X.prog X.w X.K X.mg X.base j f fd ps (spV g ev)) (hj : j ≤ k) (hg : Gl X x) (hm : X.mg x = some (.ref f)) (hk : PySem.W.keepIn X.K (.ref f) = true) (hb : Binds X.K fd ps [])
    (ha : PA X (e :: es) (ta g W fa)) (hdb : (x == ("__debug__" : Str)) = false := by decide)
    (he : starEach (e :: es) X.env = (false, eval e X.env) :: starEach es X.env := by rfl) (hpl : (backTo pos (starEach es X.env)).any (·.1) = false := by rfl) :
    PE X (.Call (.Name x p) (e :: es) [] pos) (te g W (cCall ev fa)) := by
  refine ⟨fun pins s σ H Q I h => ?_⟩
  obtain ⟨m, σc, hh, cf, pp⟩ := h
  have h1 : ta g W fa σ H (fun vs H1 => spV g ev vs H1 Q (WE W.w σ)) :=
    tg_bind (R2 := RelC g) cf pp fun cs h1 m1 H1 vs _ _ cf1 rc p1 => ⟨m1, cs, h1, cf1.hr, rc, p1⟩
  refine wpAny_Call_Name_kw (ld_glob I hg hm ?_ hdb)
  refine PySem.W.callWith_K (h₀ := X.base) I.ok.mod.kin hk
    (thn (ha.run pos pins s σ H _ I h1) fun us s1 ⟨vs, H1, I1, r, q⟩ => ⟨I1.kIn, ?_⟩) he hpl
  exact run_v F (O.rm.mono hj) hb (passAt O.tk σ) I1 r q
/-- f() -/
theorem v_call0 (O : XOk X W k) (F : FnV X.prog X.w X.K X.mg X.base j f fd ps (spV g ev)) (hj : j ≤ k) (hg : Gl X x) (hm : X.mg x = some (.ref f)) (hk : PySem.W.keepIn X.K (.ref f) = true) (hb : Binds X.K fd ps [])
    (hdb : (x == ("__debug__" : Str)) = false := by decide) :
    PE X (.Call (.Name x p) [] [] pos) (te g W (cCall ev fun _ h => .ok [] h)) := by
  refine ⟨fun pins s σ H Q I h => ?_⟩
  obtain ⟨m, σc, hh, cf, pp⟩ := h
  have h1 : spV g ev [] H Q (WE W.w σ) := ⟨m, [], hh, cf.hr, mks_nil, pp⟩
  refine wpAny_Call_Name_kw (ld_glob I hg hm ?_ hdb)
  exact PySem.W.callWith_K0 I.kIn hk
    (run_v (us := []) F (O.rm.mono hj) hb (passAt O.tk σ) I .nil h1)
end
end Vm

/-! Vm3: names, constants, operators, comparisons, tests, displays, slices, items. -/
namespace Vm
open PySem PySem.Spec PyProof.Rows L2

abbrev line : Nat := 16777216
theorem line_eq : sizeLine = line := sizeLine_eq

/-! ### names, constants -/
def cVar (i : Nat) : ME := fun σ h => match σ[i]? with
  | some (some c) => .ok c h
  | _ => .no
def cC (c : CV) : ME := fun _ h => .ok c h
section
variable {X : Cx} {W : Wd} {g : Gc} {pos : Pos}
theorem v_var (i : Nat) {x : Str} (hN : X.N[i]? = some x := by rfl) (hv : Vis X.env.scope x := by first | exact Or.inl rfl | exact Or.inr (Or.inl rfl) | exact Or.inr (Or.inr rfl))
    (hd : (x == ("__debug__" : Str)) = false := by decide) (hcd : (x == ("__classdict__" : Str)) = false := by decide) : PE X (.Name x pos) (te g W (cVar i)) := by
  refine PE_imp (pe_var hN hv hd hcd) fun σ H Q ⟨m, σc, h, cf, p⟩ => ?_
  unfold cVar at p
  cases e : σc[i]? with
  | none => rw [e] at p; exact p.elim
  | some o =>
    rw [e] at p
    cases o with
    | none => exact p.elim
    | some c =>
      obtain ⟨v, e1, r⟩ := cf.sr.2 i c e
      exact ⟨v, e1, OkP.here p cf.hr r⟩
theorem c_imp {c : CV} {v : V} {σ : L2.St} {H : Hp} {Q : VK} (r : ∀ m H, RelC g m H c v) (h : te g W (cC c) σ H Q) : Q v H := by
  obtain ⟨m, σc, hh, cf, p⟩ := h
  exact OkP.here p cf.hr (r m H)
theorem v_int {i : Int} {j : Nat} : PE X (.Constant (.int i) j pos) (te g W (cC (.int i))) := PE_imp pe_int fun _ _ _ h => c_imp (fun _ _ => mk_int) h
theorem v_bl {b : Bool} {j : Nat} : PE X (.Constant (.bool b) j pos) (te g W (cC (.bl b))) := PE_imp pe_bl fun _ _ _ h => c_imp (fun _ _ => mk_bl) h
theorem v_non {j : Nat} : PE X (.Constant .none j pos) (te g W (cC .non)) := PE_imp pe_non fun _ _ _ h => c_imp (fun _ _ => mk_non) h
theorem v_str {x : Str} {j : Nat} : PE X (.Constant (.str x) j pos) (te g W (cC (.str x))) := PE_imp pe_str fun _ _ _ h => c_imp (fun _ _ => mk_str) h
/-- a module's constant, a class -/
theorem v_glob {x : Str} {c : CV} {v : V} {u : Value} (hg : Gl X x) (hm : X.mg x = some u) (r : RelV v u) (rc : ∀ m H, RelC g m H c v) (hd : (x == ("__debug__" : Str)) = false := by decide) :
    PE X (.Name x pos) (te g W (cC c)) := PE_imp (pe_glob hg hm r hd) fun _ _ _ h => c_imp rc h
/-- a built-in class as a value -/
theorem v_ty {x : Str} {n : String} (hg : Gl X x) (hm : X.mg x = none) (hv : bootBuiltins x = some (.type n)) (hn : x ≠ "__name__" := by decide) (hd : (x == ("__debug__" : Str)) = false := by decide) :
    PE X (.Name x pos) (te g W (cC (.ty n))) := PE_imp (pe_bltn (v := .ty n) hg hm hv rfl hn hd) fun _ _ _ h => c_imp (fun _ _ => mk_ty) h
end

/-! ### operators by values -/
abbrev RC := CV → CV → CH → Option (CV × CH)
def Rs.of {α : Type} (o : Option (α × CH)) : Rs α := match o with
  | some (c, h) => .ok c h
  | none => .no
theorem of_post {α β : Type} {R : Rl α β} {g : Gc} {m : List Addr} {H : Hp} {o : Option (α × CH)} {Q : β → Hp → Prop} {E : XK} (p : PostG R g m H (Rs.of o) Q E) : ∃ c h, o = some (c, h) ∧ OkP R g m H c h Q := by
  cases o with
  | none => exact p.elim
  | some q => exact ⟨q.1, q.2, rfl, p⟩
def cOp (rc : RC) (fa fb : ME) : ME := fun σ h => (fa σ h).bind fun a h1 => (fb σ h1).bind fun b h2 => Rs.of (rc a b h2)
def RcOk (g : Gc) (r : R2) (rc : RC) : Prop :=
  ∀ (m : List Addr) (h : CH) (H : Hp) (x y : V) (a b c : CV) (h' : CH) (Q : VK), HRel g m h H → RelC g m H a x → RelC g m H b y → rc a b h = some (c, h') → OkP (RelC g) g m H c h' Q → r x y H Q
theorem op_imp {g : Gc} {W : Wd} {r : R2} {rc : RC} {fa fb : ME} {σ : L2.St} {H : Hp} {Q : VK} (hrc : RcOk g r rc) (h : te g W (cOp rc fa fb) σ H Q) : tOp r (te g W fa) (te g W fb) σ H Q := by
  obtain ⟨m, σc, hh, cf, p⟩ := h
  refine tg_bind (R2 := RelC g) cf p fun a h1 m1 H1 x _ e1 cf1 ra p1 => ?_
  refine tg_bind (R2 := RelC g) cf1 p1 fun b h2 m2 H2 y _ e2 cf2 rb p2 => ?_
  obtain ⟨c, h3, e, ok⟩ := of_post p2
  exact hrc m2 h2 H2 x y a b c h3 Q cf2.hr (ra.mono e2) rb e ok
theorem RcOk.or {g : Gc} {r r' : R2} {rc rc' : RC} (h : RcOk g r rc) (h' : RcOk g r' rc') : RcOk g (fun x y H Q => r x y H Q ∨ r' x y H Q) (fun a b h => (rc a b h).or (rc' a b h)) := by
  intro m hh H x y a b c h2 Q R ra rb e ok
  cases q : rc a b hh with
  | some z =>
    dsimp only at e
    rw [q] at e
    exact .inl (h m hh H x y a b c h2 Q R ra rb (q.trans e) ok)
  | none =>
    dsimp only at e
    rw [q] at e
    exact .inr (h' m hh H x y a b c h2 Q R ra rb e ok)
section
variable {X : Cx} {W : Wd} {g : Gc} {pos : Pos} {a b : Expr} {fa fb : ME} {rc : RC} {r : R2}
theorem v_op {op : Operator} (ho : OpR X (binaryOp op) r) (hrc : RcOk g r rc) (ha : PE X a (te g W fa)) (hb : PE X b (te g W fb)) : PE X (.BinOp a op b pos) (te g W (cOp rc fa fb)) :=
  PE_imp (pe_op ho ha hb) fun _ _ _ h => op_imp hrc h
end

def rcI (p : Int → Int → Bool) (f : Int → Int → CV) : RC := fun a b h => match a, b with
  | .int i, .int j => if p i j = true then some (f i j, h) else none
  | _, _ => none
theorem rcI_shape {p : Int → Int → Bool} {f : Int → Int → CV} {a b c : CV} {h h' : CH} (e : rcI p f a b h = some (c, h')) : ∃ i j, a = .int i ∧ b = .int j ∧ p i j = true ∧ c = f i j ∧ h' = h := by
  cases a <;> cases b <;> simp [rcI] at e
  obtain ⟨h1, h2, h3⟩ := e
  exact ⟨_, _, rfl, rfl, h1, h2.symm, h3.symm⟩
theorem rcI_ok {g : Gc} {C : Int → Int → Prop} {p : Int → Int → Bool} {f : Int → Int → CV} {gv : Int → Int → V} (hp : ∀ i j, p i j = true → C i j) (hr : ∀ m H i j, p i j = true → RelC g m H (f i j) (gv i j)) : RcOk g (rI C gv) (rcI p f) := by
  intro m h H x y a b c h' Q R ra rb e ok
  obtain ⟨i, j, rfl, rfl, hc, rfl, rfl⟩ := rcI_shape e
  rw [rel_int ra, rel_int rb]
  exact ⟨i, j, rfl, rfl, hp i j hc, OkP.here ok R (hr m H i j hc)⟩
theorem rcI0_ok {g : Gc} {f : Int → Int → CV} {gv : Int → Int → V} (hr : ∀ m H i j, RelC g m H (f i j) (gv i j)) : RcOk g (rI0 gv) (rcI (fun _ _ => true) f) := by
  intro m h H x y a b c h' Q R ra rb e ok
  obtain ⟨i, j, rfl, rfl, hc, rfl, rfl⟩ := rcI_shape e
  rw [rel_int ra, rel_int rb]
  exact ⟨i, j, rfl, rfl, OkP.here ok R (hr m H i j)⟩

/-! + -/
def rcAddS : RC := fun a b h => match a, b with
  | .str x, .str y => if x.length + y.length ≤ line then some (.str (x ++ y), h) else none
  | _, _ => none
def rcAddT : RC := fun a b h => match a, b with
  | .tup xs, .tup ys => if xs.length + ys.length ≤ line then some (.tup (xs ++ ys), h) else none
  | _, _ => none
def rcAddL : RC := fun a b h => match a, b with
  | .ref n, .ref k => (match h[n]?, h[k]? with
    | some (.lst xs), some (.lst ys) => if xs.length + ys.length ≤ line then some (.ref h.length, h ++ [.lst (xs ++ ys)]) else none
    | _, _ => none)
  | _, _ => none
def rcAdd : RC := fun a b h => (rcI (fun _ _ => true) (fun i j => .int (i + j)) a b h).or ((rcAddS a b h).or ((rcAddT a b h).or (rcAddL a b h)))
theorem lst_at {g : Gc} {m : List Addr} {h : CH} {H : Hp} {n : Nat} {xs : List CV} {v : V} (R : HRel g m h H) (e : h[n]? = some (.lst xs)) (r : RelC g m H (.ref n) v) : ∃ a vs, v = .ref a ∧ m[n]? = some a ∧ H a = some (.lst vs) ∧ RelCs g m H xs vs := by
  obtain ⟨a, ev, ma⟩ := rel_ref r
  obtain ⟨vs, q, rr⟩ := R.ob n _ a e ma
  exact ⟨a, vs, ev, ma, q, rr⟩
theorem rcAddS_ok {g : Gc} : RcOk g (fun x y H Q => ∃ i j, x = .str i ∧ y = .str j ∧ i.length + j.length ≤ sizeLine ∧ Q (.str (i ++ j)) H) rcAddS := by
  intro m h H x y a b c h' Q R ra rb e ok
  cases a <;> cases b <;> simp [rcAddS] at e
  obtain ⟨h1, rfl, rfl⟩ := e
  rw [rel_str ra, rel_str rb]
  exact ⟨_, _, rfl, rfl, by rw [line_eq]; exact h1, OkP.here ok R mk_str⟩
/-- a new tuple -/
theorem OkP.tup {g : Gc} {m : List Addr} {h : CH} {H : Hp} {cs : List CV} {vs : List V} {Q : VK} {p : Addr} (ok : OkP (RelC g) g m H (.tup cs) h Q) (R : HRel g m h H) (r : RelCs g m H cs vs) (hp : H p = none) : Q (.ref p) (upd H p (.tup vs)) :=
  ok m _ _ (ext_beside hp) (R.beside hp) (mk_tup upd_same (r.mono (ext_beside hp)))
/-- a new list -/
theorem OkP.lst {g : Gc} {m : List Addr} {h : CH} {H : Hp} {cs : List CV} {vs : List V} {Q : VK} {p : Addr} (ok : OkP (RelC g) g m H (.ref h.length) (h ++ [.lst cs]) Q) (R : HRel g m h H) (r : RelCs g m H cs vs) (hp : H p = none) : Q (.ref p) (upd H p (.lst vs)) :=
  ok (m ++ [p]) _ _ (ext_alloc hp) (R.alloc hp ⟨vs, upd_same, r.mono (ext_alloc hp)⟩) (mk_ref (new_at R p))
theorem cs_nil {g : Gc} {m : List Addr} {H : Hp} {cs : List CV} (r : RelCs g m H cs []) : cs = [] := by
  have := r.len
  exact List.eq_nil_of_length_eq_zero (by simpa using this)
theorem rcAddT_ok {g : Gc} : RcOk g (rCatA g.K) rcAddT := by
  intro m h H x y a b c h' Q R ra rb e ok
  cases a <;> cases b <;> simp [rcAddT] at e
  rename_i xs ys
  obtain ⟨h1, rfl, rfl⟩ := e
  obtain ⟨pa, vs, rfl, sa, rva⟩ := rel_tup ra
  obtain ⟨pb, ws, rfl, sb, rvb⟩ := rel_tup rb
  refine ⟨pa, pb, vs, ws, rfl, rfl, .of sa, .of sb, by rw [line_eq, ← rva.len, ← rvb.len]; exact h1, fun z => ?_, fun _ z => ?_, fun _ _ p hp => ?_⟩
  · subst z
    rw [cs_nil rva, List.nil_append] at ok
    exact OkP.here ok R rb
  · subst z
    rw [cs_nil rvb, List.append_nil] at ok
    exact OkP.here ok R ra
  · exact ok.tup R (rva.app rvb) hp
theorem rcAddL_ok {g : Gc} : RcOk g rCat rcAddL := by
  intro m h H x y a b c h' Q R ra rb e ok
  cases a <;> cases b <;> simp [rcAddL] at e
  rename_i n k
  split at e
  · rename_i xs ys e1 e2
    obtain ⟨h1, rfl, rfl⟩ : xs.length + ys.length ≤ line ∧ CV.ref h.length = c ∧ h ++ [CO.lst (xs ++ ys)] = h' := by
      split at e
      · rename_i hl
        simpa [hl] using e
      · cases e
    obtain ⟨pa, vs, rfl, _, qa, rva⟩ := lst_at R e1 ra
    obtain ⟨pb, ws, rfl, _, qb, rvb⟩ := lst_at R e2 rb
    exact ⟨pa, pb, vs, ws, rfl, rfl, qa, qb, by rw [line_eq, ← rva.len, ← rvb.len]; exact h1, fun p hp => ok.lst R (rva.app rvb) hp⟩
  · cases e
theorem rcAdd_ok {g : Gc} : RcOk g (fun x y H Q => (rI0 fun i j => .int (i + j)) x y H Q ∨ ((∃ i j, x = .str i ∧ y = .str j ∧ i.length + j.length ≤ sizeLine ∧ Q (.str (i ++ j)) H) ∨ (rCatA g.K x y H Q ∨ rCat x y H Q))) rcAdd :=
  RcOk.or (rcI0_ok fun _ _ _ _ => mk_int) (RcOk.or rcAddS_ok (RcOk.or rcAddT_ok rcAddL_ok))
/-! - * // % ** & | << >> -/
def rcSub : RC := rcI (fun _ _ => true) fun i j => .int (i - j)
def mulOk (i j : Int) : Bool := decide ((-(2 ^ 64) < i ∧ i < 2 ^ 64) ∨ (-(2 ^ 64) < j ∧ j < 2 ^ 64)) || decide (i.natAbs.log2 + j.natAbs.log2 < 1000000)
def rcMulI : RC := rcI mulOk fun i j => .int (i * j)
def rcMulT : RC := fun a b h => match a, b with
  | .tup xs, .int k => if xs ≠ [] ∧ 2 ≤ k ∧ k ≤ 1000 ∧ xs.length ≤ 1000 then some (.tup (List.replicate k.toNat xs).flatten, h) else none
  | _, _ => none
def rcMulL : RC := fun a b h => match a, b with
  | .ref n, .int k => (match h[n]? with
    | some (.lst xs) => if -(2 ^ 63) ≤ k ∧ k < 2 ^ 63 ∧ xs.length * k.toNat ≤ line then some (.ref h.length, h ++ [.lst (List.replicate k.toNat xs).flatten]) else none
    | _ => none)
  | _, _ => none
def rcMul : RC := fun a b h => (rcMulI a b h).or ((rcMulT a b h).or (rcMulL a b h))
theorem rcMulI_ok {g : Gc} : RcOk g (fun x y H Q => rI CMul (fun i j => .int (i * j)) x y H Q ∨ rI CMulW (fun i j => .int (i * j)) x y H Q) rcMulI := by
  intro m h H x y a b c h' Q R ra rb e ok
  obtain ⟨i, j, rfl, rfl, hc, rfl, rfl⟩ := rcI_shape e
  rw [rel_int ra, rel_int rb]
  unfold mulOk at hc
  rw [Bool.or_eq_true] at hc
  rcases hc with hc | hc
  · have hc' := of_decide_eq_true hc
    exact .inl ⟨i, j, rfl, rfl, hc', OkP.here ok R mk_int⟩
  · have hc' := of_decide_eq_true hc
    exact .inr ⟨i, j, rfl, rfl, hc', OkP.here ok R mk_int⟩
theorem rcMulT_ok {g : Gc} : RcOk g (rRepT g.K) rcMulT := by
  intro m h H x y a b c h' Q R ra rb e ok
  cases a <;> cases b <;> simp [rcMulT] at e
  rename_i xs k
  obtain ⟨⟨h1, h2, h3, h4⟩, rfl, rfl⟩ := e
  obtain ⟨pa, vs, rfl, sa, rva⟩ := rel_tup ra
  rw [rel_int rb]
  refine ⟨pa, k, vs, rfl, rfl, .of sa, fun z => h1 ?_, h2, h3, by rw [← rva.len]; exact h4, fun p hp => ok.tup R (rva.rep _) hp⟩
  subst z
  exact cs_nil rva
theorem rcMulL_ok {g : Gc} : RcOk g rRep rcMulL := by
  intro m h H x y a b c h' Q R ra rb e ok
  cases a <;> cases b <;> simp only [rcMulL] at e <;> try (cases e; done)
  rename_i n k
  split at e
  · rename_i xs e1
    split at e
    · rename_i hl
      obtain ⟨rfl, rfl⟩ : CV.ref h.length = c ∧ h ++ [CO.lst (List.replicate k.toNat xs).flatten] = h' := by simpa using e
      obtain ⟨pa, vs, rfl, _, qa, rva⟩ := lst_at R e1 ra
      rw [rel_int rb]
      exact ⟨pa, k, vs, rfl, rfl, qa, hl.1, hl.2.1, by rw [line_eq, ← rva.len]; exact hl.2.2, fun p hp => ok.lst R (rva.rep _) hp⟩
    · cases e
  · cases e
def divOk (i j : Int) : Bool := decide (0 < j ∧ j.natAbs.log2 < 9000)
theorem div_ok {i j : Int} (h : divOk i j = true) : CDivW i j := by
  have h' : 0 < j ∧ j.natAbs.log2 < 9000 := of_decide_eq_true h
  exact h'
def rcDiv : RC := rcI divOk fun i j => .int (i / j)
def rcMod : RC := rcI (fun _ j => decide (0 < j)) fun i j => .int (i % j)
def powOk (i j : Int) : Bool := decide (0 ≤ j ∧ j ≤ 1000000 ∧ i.natAbs < 2 ^ 64)
theorem pow_ok {i j : Int} (h : powOk i j = true) : CPow i j := by
  have h' : 0 ≤ j ∧ j ≤ 1000000 ∧ i.natAbs < 2 ^ 64 := of_decide_eq_true h
  exact h'
def rcPow : RC := rcI powOk fun i j => .int (i ^ j.toNat)
def rcAnd : RC := rcI (fun _ _ => true) fun i j => .int (Builtin.bitAnd i j)
def rcOr : RC := rcI (fun _ _ => true) fun i j => .int (Builtin.bitOr i j)
def rcShl : RC := rcI powOk fun i j => .int (i * 2 ^ j.toNat)
def rcShr : RC := rcI (fun _ j => decide (0 ≤ j)) fun i j => .int (i / 2 ^ j.toNat)
section
variable {X : Cx} {W : Wd} {g : Gc} {pos : Pos} {a b : Expr} {fa fb : ME}
theorem v_add (gk : g.K = X.K) (ha : PE X a (te g W fa)) (hb : PE X b (te g W fb)) : PE X (.BinOp a .Add b pos) (te g W (cOp rcAdd fa fb)) :=
  v_op (OpR.or op_add (OpR.or op_add_str (OpR.or (by rw [gk]; exact op_catA) op_cat))) rcAdd_ok ha hb
theorem v_sub (ha : PE X a (te g W fa)) (hb : PE X b (te g W fb)) : PE X (.BinOp a .Sub b pos) (te g W (cOp rcSub fa fb)) :=
  v_op op_sub (rcI0_ok fun _ _ _ _ => mk_int) ha hb
theorem v_mul (gk : g.K = X.K) (ha : PE X a (te g W fa)) (hb : PE X b (te g W fb)) : PE X (.BinOp a .Mult b pos) (te g W (cOp rcMul fa fb)) :=
  v_op (OpR.or (OpR.or op_mul op_mulW) (OpR.or (by rw [gk]; exact op_repT) op_rep)) (RcOk.or rcMulI_ok (RcOk.or rcMulT_ok rcMulL_ok)) ha hb
theorem v_div (ha : PE X a (te g W fa)) (hb : PE X b (te g W fb)) : PE X (.BinOp a .FloorDiv b pos) (te g W (cOp rcDiv fa fb)) :=
  v_op op_fdivW (rcI_ok (fun _ _ h => div_ok h) fun _ _ _ _ _ => mk_int) ha hb
theorem v_mod (ha : PE X a (te g W fa)) (hb : PE X b (te g W fb)) : PE X (.BinOp a .Mod b pos) (te g W (cOp rcMod fa fb)) :=
  v_op op_mod (rcI_ok (fun _ _ h => of_decide_eq_true h) fun _ _ _ _ _ => mk_int) ha hb
theorem v_pow (ha : PE X a (te g W fa)) (hb : PE X b (te g W fb)) : PE X (.BinOp a .Pow b pos) (te g W (cOp rcPow fa fb)) :=
  v_op op_pow (rcI_ok (fun _ _ h => pow_ok h) fun _ _ _ _ _ => mk_int) ha hb
theorem v_band (ha : PE X a (te g W fa)) (hb : PE X b (te g W fb)) : PE X (.BinOp a .BitAnd b pos) (te g W (cOp rcAnd fa fb)) :=
  v_op op_and (rcI0_ok fun _ _ _ _ => mk_int) ha hb
theorem v_bor (ha : PE X a (te g W fa)) (hb : PE X b (te g W fb)) : PE X (.BinOp a .BitOr b pos) (te g W (cOp rcOr fa fb)) :=
  v_op op_or (rcI0_ok fun _ _ _ _ => mk_int) ha hb
theorem v_shl (ha : PE X a (te g W fa)) (hb : PE X b (te g W fb)) : PE X (.BinOp a .LShift b pos) (te g W (cOp rcShl fa fb)) :=
  v_op op_shl (rcI_ok (fun _ _ h => pow_ok h) fun _ _ _ _ _ => mk_int) ha hb
theorem v_shr (ha : PE X a (te g W fa)) (hb : PE X b (te g W fb)) : PE X (.BinOp a .RShift b pos) (te g W (cOp rcShr fa fb)) :=
  v_op op_shr (rcI_ok (fun _ _ h => of_decide_eq_true h) fun _ _ _ _ _ => mk_int) ha hb
end
def cNeg (fa : ME) : ME := fun σ h => (fa σ h).bind fun a h1 => match a with
  | .int i => .ok (.int (-i)) h1
  | _ => .no
theorem v_neg {X : Cx} {W : Wd} {g : Gc} {pos : Pos} {a : Expr} {fa : ME} (ha : PE X a (te g W fa)) : PE X (.UnaryOp .USub a pos) (te g W (cNeg fa)) := by
  refine PE_imp (pe_un un_neg ha) fun σ H Q ⟨m, σc, h, cf, p⟩ => ?_
  refine tg_bind (R2 := RelC g) cf p fun a h1 m1 H1 x _ e1 cf1 ra p1 => ?_
  cases a <;> first | exact p1.elim | skip
  rw [rel_int ra]
  exact ⟨_, rfl, OkP.here p1 cf1.hr mk_int⟩

/-! ### displays -/
def cNil : MA := fun _ h => .ok [] h
def cCons (fa : ME) (fs : MA) : MA := fun σ h => (fa σ h).bind fun a h1 => (fs σ h1).bind fun as h2 => .ok (a :: as) h2
def cTup (fs : MA) : ME := fun σ h => (fs σ h).bind fun as h1 => if as.length ≤ line then .ok (.tup as) h1 else .no
def cLst (fs : MA) : ME := fun σ h => (fs σ h).bind fun as h1 => if as.length ≤ line then .ok (.ref h1.length) (h1 ++ [.lst as]) else .no
section
variable {X : Cx} {W : Wd} {g : Gc} {pos : Pos} {e : Expr} {es : List Expr} {fa : ME} {fs : MA}
theorem va_nil : PA X [] (ta g W cNil) := PA_imp pa_nil fun σ H Q ⟨m, σc, h, cf, p⟩ => OkP.here p cf.hr mks_nil
theorem va_cons (ha : PE X e (te g W fa)) (hs : PA X es (ta g W fs)) (hst : starEach (e :: es) X.env = (false, eval e X.env) :: starEach es X.env := by rfl) : PA X (e :: es) (ta g W (cCons fa fs)) := by
  refine PA_imp (pa_cons ha hs hst) fun σ H Q ⟨m, σc, h, cf, p⟩ => ?_
  refine tg_bind (R2 := RelCs g) cf p fun a h1 m1 H1 x _ e1 cf1 ra p1 => ?_
  refine tg_bind (R2 := RelCs g) cf1 p1 fun as h2 m2 H2 xs _ e2 cf2 ras p2 => ?_
  exact OkP.here p2 cf2.hr (mks_cons (ra.mono e2) ras)
theorem v_tup {k : Nat} (h : PA X es (ta g W fs)) : PE X (.Tuple es k pos) (te g W (cTup fs)) := by
  refine PE_imp (pe_tup h) fun σ H Q ⟨m, σc, h, cf, p⟩ => ?_
  refine tg_bind (R2 := RelC g) cf p fun as h1 m1 H1 xs _ e1 cf1 ras p1 => ?_
  split at p1
  · rename_i hl
    exact ⟨by rw [line_eq, ← ras.len]; exact hl, fun q hq => OkP.tup p1 cf1.hr ras hq⟩
  · exact p1.elim
theorem v_lst (h : PA X es (ta g W fs)) : PE X (.List es pos) (te g W (cLst fs)) := by
  refine PE_imp (pe_lst h) fun σ H Q ⟨m, σc, h, cf, p⟩ => ?_
  refine tg_bind (R2 := RelC g) cf p fun as h1 m1 H1 xs _ e1 cf1 ras p1 => ?_
  split at p1
  · rename_i hl
    exact ⟨by rw [line_eq, ← ras.len]; exact hl, fun q hq => OkP.lst p1 cf1.hr ras hq⟩
  · exact p1.elim
end
end Vm

/-! Vm4: comparisons, tests, items, slices, built-in calls and methods. -/
namespace Vm
open PySem PySem.Spec PyProof.Rows L2

/-! ### data -/
def dAll (f : CV → Option PyData) : List CV → Option (List PyData)
  | [] => some []
  | c :: cs => match f c, dAll f cs with
    | some d, some ds => some (d :: ds)
    | _, _ => none
def cvD : Nat → CH → CV → Option PyData
  | 0, _, c => (match c with
    | .non => some .none
    | .bl b => some (.bool b)
    | .int i => some (.int i)
    | .str x => some (.str x)
    | _ => none)
  | n + 1, h, c => (match c with
    | .non => some .none
    | .bl b => some (.bool b)
    | .int i => some (.int i)
    | .str x => some (.str x)
    | .tup xs => (dAll (cvD n h) xs).map .tuple
    | .kt xs => (dAll (cvD n h) xs).map .tuple
    | .fl xs => (dAll (cvD n h) xs).map .list
    | .ref k => (match h[k]? with
      | some (.lst xs) => (dAll (cvD n h) xs).map .list
      | _ => none)
    | _ => none)
section
variable {g : Gc} {m : List Addr} {H : Hp} {h : CH}
theorem dAll_dp {f : CV → Option PyData} (hf : ∀ c d v, f c = some d → RelC g m H c v → Dp g.K H v d) : ∀ {cs : List CV} {ds : List PyData} {vs : List V}, dAll f cs = some ds → RelCs g m H cs vs → DpAll g.K H vs ds
  | [], ds, vs, e, r => by
    cases e
    rw [rels_nil r]
    exact .nil
  | c :: cs, ds, vs, e, r => by
    obtain ⟨v, rr, rfl, h1, h2⟩ := rels_cons r
    unfold dAll at e
    split at e
    · rename_i d ds' e1 e2
      cases e
      exact .cons (hf c d v e1 h1) (dAll_dp hf e2 h2)
    · cases e
theorem cvD_dp (R : HRel g m h H) : ∀ {n : Nat} {c : CV} {d : PyData} {v : V}, cvD n h c = some d → RelC g m H c v → Dp g.K H v d := by
  intro n
  induction n with
  | zero =>
    intro c d v e r
    cases c <;> simp [cvD] at e <;> subst e
    · rw [rel_non r]; exact .non
    · rw [rel_bl r]; exact .bl _
    · rw [rel_int r]; exact .int _
    · rw [rel_str r]; exact .str _
  | succ n ih =>
    intro c d v e r
    have go : ∀ {cs : List CV} {ds : List PyData} {vs : List V}, dAll (cvD n h) cs = some ds → RelCs g m H cs vs → DpAll g.K H vs ds := fun e r => dAll_dp (fun c d v e r => ih e r) e r
    cases c with
    | non => simp [cvD] at e; subst e; rw [rel_non r]; exact .non
    | bl b => simp [cvD] at e; subst e; rw [rel_bl r]; exact .bl _
    | int i => simp [cvD] at e; subst e; rw [rel_int r]; exact .int _
    | str x => simp [cvD] at e; subst e; rw [rel_str r]; exact .str _
    | ty _ => simp [cvD] at e
    | cls _ => simp [cvD] at e
    | tup xs =>
      simp [cvD] at e
      obtain ⟨ds, e1, rfl⟩ := e
      obtain ⟨a, vs, rfl, sa, rr⟩ := rel_tup r
      exact .tup (.of sa) (go e1 rr)
    | kt xs =>
      simp [cvD] at e
      obtain ⟨ds, e1, rfl⟩ := e
      obtain ⟨a, vs, rfl, sa, rr⟩ := rel_kt r
      exact .tup sa.sq (go e1 rr)
    | fl xs =>
      simp [cvD] at e
      obtain ⟨ds, e1, rfl⟩ := e
      obtain ⟨a, vs, rfl, sa, rr⟩ := rel_fl r
      exact .lst sa.sq (go e1 rr)
    | ref k =>
      simp only [cvD] at e
      split at e
      · rename_i xs ek
        obtain ⟨ds, e1, rfl⟩ := Option.map_eq_some_iff.mp e
        obtain ⟨a, vs, rfl, _, sa, rr⟩ := lst_at R ek r
        exact .lst (.of sa) (go e1 rr)
      · cases e
end

/-! ### == and != -/
def eqS : CV → CV → Option Bool
  | .int i, .int j => some (i == j)
  | .str x, .str y => some (x == y)
  | .bl x, .bl y => some (x == y)
  | .non, .non => some true
  | .non, .int _ => some false
  | .int _, .non => some false
  | .non, .str _ => some false
  | .str _, .non => some false
  | .non, .bl _ => some false
  | .bl _, .non => some false
  | .int _, .str _ => some false
  | .str _, .int _ => some false
  | _, _ => none
def eqD (h : CH) (a b : CV) : Option Bool := match cvD 66 h a, cvD 66 h b with
  | some d, some e => if SeqAt.shaped d && SeqAt.shaped e then some (PyData.eqv d e) else none
  | _, _ => none
def rcEqS (ng : Bool) : RC := fun a b h => (eqS a b).map fun k => (.bl (xor ng k), h)
def rcEqD (ng : Bool) : RC := fun a b h => (eqD h a b).map fun k => (.bl (xor ng k), h)
def rcEq (ng : Bool) : RC := fun a b h => (rcEqS ng a b h).or (rcEqD ng a b h)
theorem eqS_rel {g : Gc} {m : List Addr} {H : Hp} {a b : CV} {x y : V} {k : Bool} (e : eqS a b = some k) (ra : RelC g m H a x) (rb : RelC g m H b y) : scal x y = true ∧ decide (x = y) = k := by
  cases a <;> cases b <;> simp only [eqS, Option.some.injEq, reduceCtorEq] at e <;> subst e <;>
    simp only [RelC] at ra rb <;> subst ra <;> subst rb <;> first
      | exact ⟨rfl, dec_int⟩ | exact ⟨rfl, dec_bl⟩ | exact ⟨rfl, dec_str⟩ | exact ⟨rfl, by simp⟩
theorem rcEqS_ok {g : Gc} : RcOk g rEq (rcEqS false) := by
  intro m h H x y a b c h' Q R ra rb e ok
  obtain ⟨k, e1, e2⟩ := Option.map_eq_some_iff.mp e
  cases e2
  obtain ⟨s1, s2⟩ := eqS_rel e1 ra rb
  refine ⟨s1, ?_⟩
  rw [s2]
  rw [Bool.false_xor] at ok
  exact OkP.here ok R mk_bl
theorem rcNeS_ok {g : Gc} : RcOk g rNe (rcEqS true) := by
  intro m h H x y a b c h' Q R ra rb e ok
  obtain ⟨k, e1, e2⟩ := Option.map_eq_some_iff.mp e
  cases e2
  obtain ⟨s1, s2⟩ := eqS_rel e1 ra rb
  refine ⟨s1, ?_⟩
  rw [s2]
  rw [Bool.true_xor] at ok
  exact OkP.here ok R mk_bl
theorem eqD_rel {g : Gc} {m : List Addr} {H : Hp} {h : CH} {a b : CV} {x y : V} {k : Bool} (R : HRel g m h H) (e : eqD h a b = some k) (ra : RelC g m H a x) (rb : RelC g m H b y) :
    ∃ d e, Dp g.K H x d ∧ Dp g.K H y e ∧ SeqAt.shaped d = true ∧ SeqAt.shaped e = true ∧ PyData.eqv d e = k := by
  unfold eqD at e
  split at e
  · rename_i d e' e1 e2
    split at e
    · rename_i hs
      cases e
      rw [Bool.and_eq_true] at hs
      exact ⟨d, e', cvD_dp R e1 ra, cvD_dp R e2 rb, hs.1, hs.2, rfl⟩
    · cases e
  · cases e
theorem rcEqD_ok {g : Gc} : RcOk g (rEqD g.K) (rcEqD false) := by
  intro m h H x y a b c h' Q R ra rb e ok
  obtain ⟨k, e1, e2⟩ := Option.map_eq_some_iff.mp e
  cases e2
  obtain ⟨d, e', d1, d2, s1, s2, q⟩ := eqD_rel R e1 ra rb
  refine ⟨d, e', d1, d2, s1, s2, ?_⟩
  rw [q]
  rw [Bool.false_xor] at ok
  exact OkP.here ok R mk_bl
theorem rcNeD_ok {g : Gc} : RcOk g (rNeD g.K) (rcEqD true) := by
  intro m h H x y a b c h' Q R ra rb e ok
  obtain ⟨k, e1, e2⟩ := Option.map_eq_some_iff.mp e
  cases e2
  obtain ⟨d, e', d1, d2, s1, s2, q⟩ := eqD_rel R e1 ra rb
  refine ⟨d, e', d1, d2, s1, s2, ?_⟩
  rw [q]
  rw [Bool.true_xor] at ok
  exact OkP.here ok R mk_bl

/-! ### order, is, in -/
def rcLt : RC := rcI (fun _ _ => true) fun i j => .bl (decide (i < j))
def rcLe : RC := rcI (fun _ _ => true) fun i j => .bl (decide (i ≤ j))
def rcGt : RC := rcI (fun _ _ => true) fun i j => .bl (decide (j < i))
def rcGe : RC := rcI (fun _ _ => true) fun i j => .bl (decide (j ≤ i))
def isN : CV → Option Bool
  | .non => some true
  | .ty _ => none
  | _ => some false
def rcIsN (ng : Bool) : RC := fun a b h => match b with
  | .non => (isN a).map fun k => (.bl (xor ng k), h)
  | _ => none
theorem isN_rel {g : Gc} {m : List Addr} {H : Hp} {a : CV} {x : V} {k : Bool} (e : isN a = some k) (ra : RelC g m H a x) : decide (x = .non) = k := by
  cases a <;> simp [isN] at e <;> subst e <;> simp only [RelC] at ra
  · subst ra; simp
  · subst ra; simp
  · subst ra; simp
  · subst ra; simp
  · subst ra; simp
  · obtain ⟨_, rfl, _⟩ := ra; simp
  · obtain ⟨_, _, rfl, _⟩ := ra; simp
  · obtain ⟨_, _, rfl, _⟩ := ra; simp
  · obtain ⟨_, _, rfl, _⟩ := ra; simp
theorem rcIs_ok {g : Gc} : RcOk g (fun x y H Q => y = .non ∧ Q (.bl (decide (x = .non))) H) (rcIsN false) := by
  intro m h H x y a b c h' Q R ra rb e ok
  cases b <;> simp only [rcIsN, reduceCtorEq] at e
  obtain ⟨k, e1, e2⟩ := Option.map_eq_some_iff.mp e
  cases e2
  refine ⟨rel_non rb, ?_⟩
  rw [isN_rel e1 ra]
  rw [Bool.false_xor] at ok
  exact OkP.here ok R mk_bl
theorem rcIsNot_ok {g : Gc} : RcOk g (fun x y H Q => y = .non ∧ Q (.bl (!decide (x = .non))) H) (rcIsN true) := by
  intro m h H x y a b c h' Q R ra rb e ok
  cases b <;> simp only [rcIsN, reduceCtorEq] at e
  obtain ⟨k, e1, e2⟩ := Option.map_eq_some_iff.mp e
  cases e2
  refine ⟨rel_non rb, ?_⟩
  rw [isN_rel e1 ra]
  rw [Bool.true_xor] at ok
  exact OkP.here ok R mk_bl
/-- the flat values, as the layer's -/
def flC : CV → Option V
  | .non => some .non
  | .bl b => some (.bl b)
  | .int i => some (.int i)
  | .str x => some (.str x)
  | _ => none
def flAll : List CV → Option (List V)
  | [] => some []
  | c :: cs => match flC c, flAll cs with
    | some v, some vs => some (v :: vs)
    | _, _ => none
theorem flC_rel {g : Gc} {m : List Addr} {H : Hp} {a : CV} {x v : V} (e : flC a = some v) (ra : RelC g m H a x) : x = v ∧ flatV x = true := by
  cases a <;> simp [flC] at e <;> subst e <;> simp only [RelC] at ra <;> subst ra <;> exact ⟨rfl, rfl⟩
theorem flAll_rel {g : Gc} {m : List Addr} {H : Hp} : ∀ {cs : List CV} {vs xs : List V}, flAll cs = some vs → RelCs g m H cs xs → xs = vs ∧ xs.all flatV = true
  | [], vs, xs, e, r => by
    cases e
    rw [rels_nil r]
    exact ⟨rfl, rfl⟩
  | c :: cs, vs, xs, e, r => by
    obtain ⟨v, rr, rfl, h1, h2⟩ := rels_cons r
    unfold flAll at e
    split at e
    · rename_i d ds e1 e2
      cases e
      obtain ⟨q1, q2⟩ := flC_rel e1 h1
      obtain ⟨q3, q4⟩ := flAll_rel e2 h2
      subst q1
      subst q3
      exact ⟨rfl, by rw [List.all_cons, q2, q4]; rfl⟩
    · cases e
def sqC (h : CH) : CV → Option (List CV)
  | .tup xs => some xs
  | .kt xs => some xs
  | .fl xs => some xs
  | .ref k => (match h[k]? with
    | some (.lst xs) => some xs
    | _ => none)
  | _ => none
/-- a list or a tuple that is read -/
theorem sqC_rel {g : Gc} {m : List Addr} {H : Hp} {h : CH} {a : CV} {x : V} {cs : List CV} (R : HRel g m h H) (e : sqC h a = some cs) (ra : RelC g m H a x) : ∃ p vs, x = .ref p ∧ (SqL g.K H p vs ∨ SqT g.K H p vs) ∧ RelCs g m H cs vs := by
  cases a <;> simp only [sqC, Option.some.injEq, reduceCtorEq] at e
  · split at e
    · rename_i xs ek
      cases e
      obtain ⟨p, vs, rfl, _, sa, rr⟩ := lst_at R ek ra
      exact ⟨p, vs, rfl, .inl (.of sa), rr⟩
    · cases e
  · subst e
    obtain ⟨p, vs, rfl, sa, rr⟩ := rel_tup ra
    exact ⟨p, vs, rfl, .inr (.of sa), rr⟩
  · subst e
    obtain ⟨p, vs, rfl, sa, rr⟩ := rel_kt ra
    exact ⟨p, vs, rfl, .inr sa.sq, rr⟩
  · subst e
    obtain ⟨p, vs, rfl, sa, rr⟩ := rel_fl ra
    exact ⟨p, vs, rfl, .inl sa.sq, rr⟩
def inF (h : CH) (a b : CV) : Option Bool := match sqC h b with
  | some cs => (match flC a, flAll cs with
    | some x, some xs => some (inV x xs)
    | _, _ => none)
  | none => none
def rcInF (ng : Bool) : RC := fun a b h => (inF h a b).map fun k => (.bl (xor ng k), h)
theorem inF_rel {g : Gc} {m : List Addr} {H : Hp} {h : CH} {a b : CV} {x y : V} {k : Bool} (R : HRel g m h H) (e : inF h a b = some k) (ra : RelC g m H a x) (rb : RelC g m H b y) :
    ∃ p xs, y = .ref p ∧ (SqL g.K H p xs ∨ SqT g.K H p xs) ∧ flatV x = true ∧ xs.all flatV = true ∧ inV x xs = k := by
  unfold inF at e
  split at e
  · rename_i cs es
    obtain ⟨p, vs, rfl, sq, rr⟩ := sqC_rel R es rb
    split at e
    · rename_i x' xs' e1 e2
      cases e
      obtain ⟨q1, q2⟩ := flC_rel e1 ra
      obtain ⟨q3, q4⟩ := flAll_rel e2 rr
      subst q1
      subst q3
      exact ⟨p, _, rfl, sq, q2, q4, rfl⟩
    · cases e
  · cases e
theorem rcInF_ok {g : Gc} {ng : Bool} : RcOk g (rIn g.K ng) (rcInF ng) := by
  intro m h H x y a b c h' Q R ra rb e ok
  obtain ⟨k, e1, e2⟩ := Option.map_eq_some_iff.mp e
  cases e2
  obtain ⟨p, xs, ey, sq, f1, f2, q⟩ := inF_rel R e1 ra rb
  refine ⟨p, xs, ey, sq, f1, f2, ?_⟩
  rw [q]
  cases ng
  · rw [Bool.false_xor] at ok
    exact OkP.here ok R mk_bl
  · rw [Bool.true_xor] at ok
    exact OkP.here ok R mk_bl
/-- one sign in a text -/
def inS (a b : CV) : Option Bool := match a, b with
  | .str ⟨⟨[c]⟩⟩, .str z => some (decide (c ∈ z.cps.toList))
  | _, _ => none
def rcInS (ng : Bool) : RC := fun a b h => (inS a b).map fun k => (.bl (xor ng k), h)
theorem inS_shape {a b : CV} {k : Bool} (e : inS a b = some k) : ∃ (c : Nat) (z : Str), a = .str ⟨#[c]⟩ ∧ b = .str z ∧ decide (c ∈ z.cps.toList) = k := by
  unfold inS at e
  split at e
  · cases e
    exact ⟨_, _, rfl, rfl, rfl⟩
  · cases e
theorem rcInS_ok {g : Gc} : RcOk g (fun x y H Q => ∃ (c : Nat) (z : Str), x = .str ⟨#[c]⟩ ∧ y = .str z ∧ Q (.bl (decide (c ∈ z.cps.toList))) H) (rcInS false) := by
  intro m h H x y a b c h' Q R ra rb e ok
  obtain ⟨k, e1, e2⟩ := Option.map_eq_some_iff.mp e
  cases e2
  obtain ⟨c, z, rfl, rfl, q⟩ := inS_shape e1
  rw [rel_str ra, rel_str rb]
  refine ⟨c, z, rfl, rfl, ?_⟩
  rw [q]
  rw [Bool.false_xor] at ok
  exact OkP.here ok R mk_bl
theorem rcNotInS_ok {g : Gc} : RcOk g (fun x y H Q => ∃ (c : Nat) (z : Str), x = .str ⟨#[c]⟩ ∧ y = .str z ∧ Q (.bl (!decide (c ∈ z.cps.toList))) H) (rcInS true) := by
  intro m h H x y a b c h' Q R ra rb e ok
  obtain ⟨k, e1, e2⟩ := Option.map_eq_some_iff.mp e
  cases e2
  obtain ⟨c, z, rfl, rfl, q⟩ := inS_shape e1
  rw [rel_str ra, rel_str rb]
  refine ⟨c, z, rfl, rfl, ?_⟩
  rw [q]
  rw [Bool.true_xor] at ok
  exact OkP.here ok R mk_bl
def rcIn (ng : Bool) : RC := fun a b h => (rcInF ng a b h).or (rcInS ng a b h)

/-- an operator of comparison and the machine's -/
structure CmOk (X : Cx) (g : Gc) (op : CmpOp) (rc : RC) : Prop where
  ex : ∃ r, OpR X (compareOp op) r ∧ RcOk g r rc
section
variable {X : Cx} {g : Gc} {k : Nat}
theorem cm_eq (gk : g.K = X.K) (hr : Rm k X.A) : CmOk X g .Eq (rcEq false) :=
  ⟨fun x y H Q => rEq x y H Q ∨ rEqD X.K x y H Q, OpR.or op_eq (op_eqD hr.r.units), RcOk.or rcEqS_ok (by rw [← gk]; exact rcEqD_ok)⟩
theorem cm_ne (gk : g.K = X.K) (hr : Rm k X.A) : CmOk X g .NotEq (rcEq true) :=
  ⟨fun x y H Q => rNe x y H Q ∨ rNeD X.K x y H Q, OpR.or op_ne (op_neD hr.r.units), RcOk.or rcNeS_ok (by rw [← gk]; exact rcNeD_ok)⟩
theorem cm_lt : CmOk X g .Lt rcLt := ⟨_, op_lt, rcI0_ok fun _ _ _ _ => mk_bl⟩
theorem cm_le : CmOk X g .LtE rcLe := ⟨_, op_le, rcI0_ok fun _ _ _ _ => mk_bl⟩
theorem cm_gt : CmOk X g .Gt rcGt := ⟨_, op_gt, rcI0_ok fun _ _ _ _ => mk_bl⟩
theorem cm_ge : CmOk X g .GtE rcGe := ⟨_, op_ge, rcI0_ok fun _ _ _ _ => mk_bl⟩
theorem cm_is : CmOk X g .Is (rcIsN false) := ⟨_, op_isN, rcIs_ok⟩
theorem cm_isnot : CmOk X g .IsNot (rcIsN true) := ⟨_, op_notN, rcIsNot_ok⟩
theorem cm_in (gk : g.K = X.K) : CmOk X g .In (rcIn false) :=
  ⟨fun x y H Q => rIn X.K false x y H Q ∨ _, OpR.or op_in_seq op_in_sign, RcOk.or (by rw [← gk]; exact rcInF_ok) rcInS_ok⟩
theorem cm_notin (gk : g.K = X.K) : CmOk X g .NotIn (rcIn true) :=
  ⟨fun x y H Q => rIn X.K true x y H Q ∨ _, OpR.or op_notIn_seq op_notIn_sign, RcOk.or (by rw [← gk]; exact rcInF_ok) rcNotInS_ok⟩
end
/-- a value that is a truth value -/
def cTst (f : ME) : MT := fun σ h => (f σ h).bind fun a h1 => match a with
  | .bl b => .ok b h1
  | _ => .no
def cChain (r1 r2 : RC) (fa fb fc : ME) : ME := fun σ h => (fa σ h).bind fun a h1 => (fb σ h1).bind fun b h2 => (Rs.of (r1 a b h2)).bind fun z h3 => match z with
  | .bl true => (fc σ h3).bind fun c h4 => Rs.of (r2 b c h4)
  | .bl false => .ok (.bl false) h3
  | _ => .no
section
variable {X : Cx} {W : Wd} {g : Gc} {pos : Pos} {a b c : Expr} {fa fb fc : ME} {rc rc' : RC} {op op' : CmpOp}
theorem v_cmp (ho : CmOk X g op rc) (ha : PE X a (te g W fa)) (hb : PE X b (te g W fb)) (hm : behindInMarks op b = false := by rfl) : PE X (.Compare a [op] [b] pos) (te g W (cOp rc fa fb)) := by
  obtain ⟨r, h1, h2⟩ := ho.ex
  exact PE_imp (pe_cmpR h1 ha hb hm) fun _ _ _ h => op_imp h2 h
theorem tst_imp {f : ME} {t : TE} {σ : L2.St} {H : Hp} {Q : Bool → Hp → Prop} (ht : ∀ σ H Q, te g W f σ H Q → t σ H Q) (h : tt g W (cTst f) σ H Q) : t σ H fun x H' => ∃ k, x = .bl k ∧ Q k H' := by
  obtain ⟨m, σc, hh, cf, p⟩ := h
  refine ht σ H _ (tg_bind (R2 := Req) cf p fun a h1 m1 H1 x _ e1 cf1 ra p1 => ?_)
  cases a <;> first | exact p1.elim | skip
  rw [rel_bl ra]
  exact ⟨_, rfl, OkP.here p1 cf1.hr rfl⟩
theorem t_cmp (ho : CmOk X g op rc) (ha : PE X a (te g W fa)) (hb : PE X b (te g W fb)) (hm : behindInMarks op b = false := by rfl) : PT X (.Compare a [op] [b] pos) (tt g W (cTst (cOp rc fa fb))) := by
  obtain ⟨r, h1, h2⟩ := ho.ex
  exact PT_imp (pt_cmpR h1 ha hb hm) fun _ _ _ h => tst_imp (fun _ _ _ h => op_imp h2 h) h
theorem t_val {e : Expr} {f : ME} (h : PE X e (te g W f)) (he : ∀ whole, isTrue e X.env whole = (do let v ← whole; standAt e.pos; holding [v] (truthy v)) := by intro _; rfl) : PT X e (tt g W (cTst f)) :=
  PT_imp (pt_val h he) fun _ _ _ q => tst_imp (fun _ _ _ h => h) q
theorem chain_imp {r r' : R2} {σ : L2.St} {H : Hp} {Q : VK} (h2 : RcOk g r rc) (h2' : RcOk g r' rc') (h : te g W (cChain rc rc' fa fb fc) σ H Q) : tChain r r' (te g W fa) (te g W fb) (te g W fc) σ H Q := by
  obtain ⟨m, σc, hh, cf, p⟩ := h
  refine tg_bind (R2 := RelC g) cf p fun a h1 m1 H1 x _ e1 cf1 ra p1 => ?_
  refine tg_bind (R2 := RelC g) cf1 p1 fun b h2_ m2 H2 y _ e2 cf2 rb p2 => ?_
  cases ez : rc a b h2_ with
  | none => rw [ez] at p2; exact p2.elim
  | some q =>
    obtain ⟨z, h3⟩ := q
    rw [ez] at p2
    refine h2 m2 h2_ H2 x y a b z h3 _ cf2.hr (ra.mono e2) rb ez fun m3 H3 v e3 R3 rz => ?_
    have cf3 := cf2.next e3 R3
    cases z with
    | bl k =>
      refine ⟨k, rel_bl rz, ?_⟩
      cases k with
      | false =>
        rw [if_neg Bool.false_ne_true]
        exact OkP.here (OkP.go (R := RelC g) p2 e3) R3 mk_bl
      | true =>
        rw [if_pos rfl]
        refine tg_bind (R2 := RelC g) cf3 (PostG.go (R := RelC g) p2 e3) fun c h4 m4 H4 w _ e4 cf4 rcc p4 => ?_
        obtain ⟨d, h5, e5, ok⟩ := of_post p4
        exact h2' m4 h4 H4 y w b c d h5 Q cf4.hr (rb.mono (e3.trans e4)) rcc e5 ok
    | _ => exact p2.elim
theorem v_chain (ho : CmOk X g op rc) (ho' : CmOk X g op' rc') (ha : PE X a (te g W fa)) (hb : PE X b (te g W fb)) (hc : PE X c (te g W fc))
    (hm : lastMarks [op, op'] [b, c] = false := by with_unfolding_all rfl) : PE X (.Compare a [op, op'] [b, c] pos) (te g W (cChain rc rc' fa fb fc)) := by
  obtain ⟨r, h1, h2⟩ := ho.ex
  obtain ⟨r', h1', h2'⟩ := ho'.ex
  exact PE_imp (pe_chain h1 h1' ha hb hc hm) fun _ _ _ h => chain_imp h2 h2' h
theorem t_chain (ho : CmOk X g op rc) (ho' : CmOk X g op' rc') (ha : PE X a (te g W fa)) (hb : PE X b (te g W fb)) (hc : PE X c (te g W fc))
    (hm : lastMarks [op, op'] [b, c] = false := by with_unfolding_all rfl) : PT X (.Compare a [op, op'] [b, c] pos) (tt g W (cTst (cChain rc rc' fa fb fc))) := by
  obtain ⟨r, h1, h2⟩ := ho.ex
  obtain ⟨r', h1', h2'⟩ := ho'.ex
  exact PT_imp (pt_chain h1 h1' ha hb hc hm) fun _ _ _ h => tst_imp (fun _ _ _ h => chain_imp h2 h2' h) h
end
/-! and, or, not -/
def cAnd (f u : MT) : MT := fun σ h => (f σ h).bind fun b h1 => if b = true then u σ h1 else .ok false h1
def cOr (f u : MT) : MT := fun σ h => (f σ h).bind fun b h1 => if b = true then .ok true h1 else u σ h1
def cNot (f : MT) : MT := fun σ h => (f σ h).bind fun b h1 => .ok (!b) h1
def cAndV (f u : ME) : ME := fun σ h => (f σ h).bind fun a h1 => match a with
  | .bl true => u σ h1
  | .bl false => .ok (.bl false) h1
  | _ => .no
def cOrV (f u : ME) : ME := fun σ h => (f σ h).bind fun a h1 => match a with
  | .bl true => .ok (.bl true) h1
  | .bl false => u σ h1
  | _ => .no
def cNotV (f : ME) : ME := fun σ h => (f σ h).bind fun a h1 => match a with
  | .bl b => .ok (.bl (!b)) h1
  | _ => .no
def cIf (t : MT) (f u : ME) : ME := fun σ h => (t σ h).bind fun b h1 => if b = true then f σ h1 else u σ h1
section
variable {X : Cx} {W : Wd} {g : Gc} {pos : Pos} {a b c : Expr} {rest : List Expr} {ft fu : MT} {fa fb : ME}
theorem w_and1 (ha : PT X a (tt g W ft)) : PW X (.BoolOp .And [a] pos) (tt g W ft) := pw_and1 ha
theorem w_or1 (ha : PT X a (tt g W ft)) : PW X (.BoolOp .Or [a] pos) (tt g W ft) := pw_or1 ha
theorem w_and (ha : PT X a (tt g W ft)) (hb : PW X (.BoolOp .And (b :: rest) pos) (tt g W fu)) : PW X (.BoolOp .And (a :: b :: rest) pos) (tt g W (cAnd ft fu)) := by
  refine PW_imp (pw_and ha hb) fun σ H Q ⟨m, σc, h, cf, p⟩ => ?_
  refine tg_bind (R2 := Req) cf p fun b h1 m1 H1 x _ e1 cf1 rb p1 => ?_
  subst rb
  cases b with
  | true => exact ⟨m1, σc, h1, cf1, p1⟩
  | false => exact OkP.here p1 cf1.hr rfl
theorem w_or (ha : PT X a (tt g W ft)) (hb : PW X (.BoolOp .Or (b :: rest) pos) (tt g W fu)) : PW X (.BoolOp .Or (a :: b :: rest) pos) (tt g W (cOr ft fu)) := by
  refine PW_imp (pw_or ha hb) fun σ H Q ⟨m, σc, h, cf, p⟩ => ?_
  refine tg_bind (R2 := Req) cf p fun b h1 m1 H1 x _ e1 cf1 rb p1 => ?_
  subst rb
  cases b with
  | true => exact OkP.here p1 cf1.hr rfl
  | false => exact ⟨m1, σc, h1, cf1, p1⟩
theorem t_not (ha : PT X a (tt g W ft)) : PT X (.UnaryOp .Not a pos) (tt g W (cNot ft)) := by
  refine PT_imp (pt_not ha) fun σ H Q ⟨m, σc, h, cf, p⟩ => ?_
  refine tg_bind (R2 := Req) cf p fun b h1 m1 H1 x _ e1 cf1 rb p1 => ?_
  subst rb
  exact OkP.here p1 cf1.hr rfl
theorem v_one {op : BoolOp} (ha : PE X a (te g W fa)) : PE X (.BoolOp op [a] pos) (te g W fa) := pe_one ha
theorem v_and (ha : PE X a (te g W fa)) (hb : PE X (.BoolOp .And (b :: rest) pos) (te g W fb)) : PE X (.BoolOp .And (a :: b :: rest) pos) (te g W (cAndV fa fb)) := by
  refine PE_imp (pe_and ha hb) fun σ H Q ⟨m, σc, h, cf, p⟩ => ?_
  refine tg_bind (R2 := RelC g) cf p fun a h1 m1 H1 x _ e1 cf1 ra p1 => ?_
  cases a <;> first | exact p1.elim | skip
  rename_i k _
  refine ⟨k, rel_bl ra, ?_⟩
  cases k with
  | true => exact ⟨m1, σc, h1, cf1, p1⟩
  | false => exact OkP.here p1 cf1.hr mk_bl
theorem v_or (ha : PE X a (te g W fa)) (hb : PE X (.BoolOp .Or (b :: rest) pos) (te g W fb)) : PE X (.BoolOp .Or (a :: b :: rest) pos) (te g W (cOrV fa fb)) := by
  refine PE_imp (pe_or ha hb) fun σ H Q ⟨m, σc, h, cf, p⟩ => ?_
  refine tg_bind (R2 := RelC g) cf p fun a h1 m1 H1 x _ e1 cf1 ra p1 => ?_
  cases a <;> first | exact p1.elim | skip
  rename_i k _
  refine ⟨k, rel_bl ra, ?_⟩
  cases k with
  | true => exact OkP.here p1 cf1.hr mk_bl
  | false => exact ⟨m1, σc, h1, cf1, p1⟩
theorem v_not (ha : PE X a (te g W fa)) : PE X (.UnaryOp .Not a pos) (te g W (cNotV fa)) := by
  refine PE_imp (pe_not ha) fun σ H Q ⟨m, σc, h, cf, p⟩ => ?_
  refine tg_bind (R2 := RelC g) cf p fun a h1 m1 H1 x _ e1 cf1 ra p1 => ?_
  cases a <;> first | exact p1.elim | skip
  exact ⟨_, rel_bl ra, OkP.here p1 cf1.hr mk_bl⟩
theorem v_if (hc : PT X c (tt g W ft)) (ha : PE X a (te g W fa)) (hb : PE X b (te g W fb)) : PE X (.IfExp c a b pos) (te g W (cIf ft fa fb)) := by
  refine PE_imp (pe_ifExp hc ha hb) fun σ H Q ⟨m, σc, h, cf, p⟩ => ?_
  refine tg_bind (R2 := RelC g) cf p fun b h1 m1 H1 x _ e1 cf1 rb p1 => ?_
  subst rb
  cases b with
  | true => exact ⟨m1, σc, h1, cf1, p1⟩
  | false => exact ⟨m1, σc, h1, cf1, p1⟩
end
end Vm

/-! Vm5: items, slices, dicts, built-in calls, methods. -/
namespace Vm
open PySem PySem.Spec PyProof.Rows L2

theorem PE_or {X : Cx} {e : Expr} {t t' : TE} (h : PE X e t) (h' : PE X e t') : PE X e (fun σ H Q => t σ H Q ∨ t' σ H Q) :=
  ⟨fun pins s σ H Q I q => q.elim (h.run pins s σ H Q I) (h'.run pins s σ H Q I)⟩
theorem PS_or {X : Cx} {e : Stmt} {t t' : TS} (h : PS X e t) (h' : PS X e t') : PS X e (fun D σ H => t D σ H ∨ t' D σ H) :=
  ⟨fun pins s σ H D I q => q.elim (h.run pins s σ H D I) (h'.run pins s σ H D I)⟩

/-! ### dicts as lists of pairs -/
section
variable {κ : Type} [DecidableEq κ]
def valC (kvs : List (κ × CV)) (k : κ) : Option CV := (kvs.find? fun kv => decide (kv.1 = k)).map (·.2)
def putC (kvs : List (κ × CV)) (k : κ) (v : CV) : List (κ × CV) :=
  if (kvs.any fun kv => decide (kv.1 = k)) = true then kvs.map (fun kv => if kv.1 = k then (kv.1, v) else kv) else kvs ++ [(k, v)]
def dropC (kvs : List (κ × CV)) (k : κ) : List (κ × CV) := kvs.filter fun kv => decide (kv.1 ≠ k)
variable {g : Gc} {m : List Addr} {H : Hp}
theorem RelP.len : ∀ {ps : List (κ × CV)} {vs : List (κ × V)}, RelP g m H ps vs → ps.length = vs.length
  | [], _, h => by rw [show _ = [] from h]; rfl
  | p :: ps, vs, h => by
    obtain ⟨v, r, rfl, h1, h2⟩ := h
    rw [List.length_cons, List.length_cons, RelP.len h2]
theorem RelP.val (k : κ) : ∀ {ps : List (κ × CV)} {vs : List (κ × V)}, RelP g m H ps vs → (∀ c, valC ps k = some c → ∃ v, valV vs k = some v ∧ RelC g m H c v) ∧ (valC ps k = none → valV vs k = none)
  | [], _, h => by
    rw [show _ = [] from h]
    exact ⟨fun c e => by simp [valC] at e, fun _ => rfl⟩
  | p :: ps, vs, h => by
    obtain ⟨v, r, rfl, h1, h2⟩ := h
    obtain ⟨i1, i2⟩ := RelP.val k h2
    by_cases e : p.1 = k
    · rw [valV_pos (p := (p.1, v)) e]
      have z : valC (p :: ps) k = some p.2 := by simp [valC, List.find?_cons, e]
      rw [z]
      exact ⟨fun c q => by cases q; exact ⟨v, rfl, h1⟩, fun q => by cases q⟩
    · rw [valV_neg (p := (p.1, v)) e]
      have z : valC (p :: ps) k = valC ps k := by simp [valC, List.find?_cons, e]
      rw [z]
      exact ⟨i1, i2⟩
theorem RelP.any (k : κ) : ∀ {ps : List (κ × CV)} {vs : List (κ × V)}, RelP g m H ps vs → (ps.any fun kv => decide (kv.1 = k)) = vs.any fun kv => decide (kv.1 = k)
  | [], _, h => by rw [show _ = [] from h]; rfl
  | p :: ps, vs, h => by
    obtain ⟨v, r, rfl, h1, h2⟩ := h
    rw [List.any_cons, List.any_cons, RelP.any k h2]
theorem RelP.app : ∀ {ps qs : List (κ × CV)} {vs ws : List (κ × V)}, RelP g m H ps vs → RelP g m H qs ws → RelP g m H (ps ++ qs) (vs ++ ws)
  | [], _, _, _, h, q => by rw [show _ = [] from h]; exact q
  | p :: ps, _, _, _, h, q => by
    obtain ⟨v, r, rfl, h1, h2⟩ := h
    exact ⟨v, _, rfl, h1, RelP.app h2 q⟩
theorem RelP.repl {k : κ} {c : CV} {v : V} (rc : RelC g m H c v) : ∀ {ps : List (κ × CV)} {vs : List (κ × V)}, RelP g m H ps vs →
    RelP g m H (ps.map fun kv => if kv.1 = k then (kv.1, c) else kv) (vs.map fun kv => if kv.1 = k then (kv.1, v) else kv)
  | [], _, h => by rw [show _ = [] from h]; rfl
  | p :: ps, _, h => by
    obtain ⟨w, r, rfl, h1, h2⟩ := h
    by_cases e : p.1 = k
    · simp only [List.map_cons, e, if_true]
      exact ⟨v, _, rfl, rc, RelP.repl rc h2⟩
    · simp only [List.map_cons, e, if_false]
      exact ⟨w, _, rfl, h1, RelP.repl rc h2⟩
theorem RelP.put {k : κ} {c : CV} {v : V} (rc : RelC g m H c v) {ps : List (κ × CV)} {vs : List (κ × V)} (h : RelP g m H ps vs) : RelP g m H (putC ps k c) (putK vs k v) := by
  unfold putC putK
  rw [RelP.any k h]
  split
  · exact RelP.repl rc h
  · exact RelP.app h ⟨v, [], rfl, rc, rfl⟩
theorem RelP.drop {k : κ} : ∀ {ps : List (κ × CV)} {vs : List (κ × V)}, RelP g m H ps vs → RelP g m H (dropC ps k) (dropK vs k)
  | [], _, h => by rw [show _ = [] from h]; rfl
  | p :: ps, _, h => by
    obtain ⟨w, r, rfl, h1, h2⟩ := h
    unfold dropC dropK
    by_cases e : p.1 = k
    · rw [List.filter_cons, List.filter_cons, if_neg (by simp [e]), if_neg (by simp [e])]
      exact RelP.drop h2
    · rw [List.filter_cons, List.filter_cons, if_pos (by simp [e]), if_pos (by simp [e])]
      exact ⟨w, _, rfl, h1, RelP.drop h2⟩
end
/-- keys -/
def keyC : CV → Option Key
  | .int i => some (.inl i)
  | .str x => some (.inr x)
  | _ => none
def keyAll : List CV → Option (List Key)
  | [] => some []
  | c :: cs => match keyC c, keyAll cs with
    | some k, some ks => some (k :: ks)
    | _, _ => none
def keyT : CV → Option (List Key)
  | .tup cs => keyAll cs
  | _ => none
section
variable {g : Gc} {m : List Addr} {H : Hp} {h : CH}
theorem keyC_rel {a : CV} {x : V} {k : Key} (e : keyC a = some k) (r : RelC g m H a x) : x = kV k := by
  cases a <;> simp [keyC] at e <;> subst e
  · exact rel_int r
  · exact rel_str r
theorem keyAll_rel : ∀ {cs : List CV} {ks : List Key} {vs : List V}, keyAll cs = some ks → RelCs g m H cs vs → vs = ks.map kV
  | [], _, _, e, r => by
    cases e
    exact rels_nil r
  | c :: cs, ks, vs, e, r => by
    obtain ⟨v, rr, rfl, h1, h2⟩ := rels_cons r
    unfold keyAll at e
    split at e
    · rename_i k ks' e1 e2
      cases e
      rw [keyC_rel e1 h1, keyAll_rel e2 h2]
      rfl
    · cases e
theorem keyT_rel {a : CV} {x : V} {k : List Key} (e : keyT a = some k) (r : RelC g m H a x) : ∃ b, x = .ref b ∧ H b = some (.tup (k.map kV)) := by
  cases a <;> simp [keyT] at e
  obtain ⟨b, vs, rfl, hb, rr⟩ := rel_tup r
  rw [keyAll_rel e rr] at hb
  exact ⟨b, rfl, hb⟩
/-- what a dict holds at a key: none: no dict, or no key -/
def dGet (h : CH) (n : Nat) (b : CV) : Option (Option CV) := match h[n]? with
  | some (.dK kvs) => (keyC b).map fun k => valC kvs k
  | some (.fdK kvs) => (keyC b).map fun k => valC kvs k
  | some (.dT kvs) => (keyT b).map fun k => valC kvs k
  | some (.fdT kvs) => (keyT b).map fun k => valC kvs k
  | _ => none
theorem dGet_rel {n : Nat} {b : CV} {x y : V} {o : Option CV} (R : HRel g m h H) (e : dGet h n b = some o) (ra : RelC g m H (.ref n) x) (rb : RelC g m H b y) :
    ∃ a o', x = .ref a ∧ m[n]? = some a ∧ DGet H a y o' ∧ IsD H a ∧ (∀ c, o = some c → ∃ v, o' = some v ∧ RelC g m H c v) ∧ (o = none → o' = none) := by
  unfold dGet at e
  obtain ⟨a, rfl, ma⟩ := rel_ref ra
  have goK : ∀ kvs ws, Rd H a (.dK ws) → RelP g m H kvs ws → (keyC b).map (fun k => valC kvs k) = some o →
      ∃ a' o', V.ref a = .ref a' ∧ m[n]? = some a' ∧ DGet H a' y o' ∧ IsD H a' ∧ (∀ c, o = some c → ∃ v, o' = some v ∧ RelC g m H c v) ∧ (o = none → o' = none) := fun kvs ws q rp e => by
    obtain ⟨k, ek, eo⟩ := Option.map_eq_some_iff.mp e
    rw [keyC_rel ek rb]
    obtain ⟨i1, i2⟩ := rp.val k
    exact ⟨a, _, rfl, ma, .inl ⟨ws, k, q, rfl, rfl⟩, .inl ⟨_, q⟩, fun c z => i1 c (eo.trans z), fun z => i2 (eo.trans z)⟩
  have goT : ∀ kvs ws, Rd H a (.dT ws) → RelP g m H kvs ws → (keyT b).map (fun k => valC kvs k) = some o →
      ∃ a' o', V.ref a = .ref a' ∧ m[n]? = some a' ∧ DGet H a' y o' ∧ IsD H a' ∧ (∀ c, o = some c → ∃ v, o' = some v ∧ RelC g m H c v) ∧ (o = none → o' = none) := fun kvs ws q rp e => by
    obtain ⟨k, ek, eo⟩ := Option.map_eq_some_iff.mp e
    obtain ⟨b', rfl, hb⟩ := keyT_rel ek rb
    obtain ⟨i1, i2⟩ := rp.val k
    exact ⟨a, _, rfl, ma, .inr ⟨ws, k, b', q, rfl, hb, rfl⟩, .inr ⟨_, q⟩, fun c z => i1 c (eo.trans z), fun z => i2 (eo.trans z)⟩
  split at e
  · obtain ⟨ws, q, rp⟩ := R.ob n _ a (by assumption) ma
    exact goK _ ws (.inl q) rp e
  · obtain ⟨ob, ws, q, rp⟩ := R.ob n _ a (by assumption) ma
    exact goK _ ws (.inr ⟨ob, q⟩) rp e
  · obtain ⟨ws, q, rp⟩ := R.ob n _ a (by assumption) ma
    exact goT _ ws (.inl q) rp e
  · obtain ⟨ob, ws, q, rp⟩ := R.ob n _ a (by assumption) ma
    exact goT _ ws (.inr ⟨ob, q⟩) rp e
  · cases e
def dPut (h : CH) (n : Nat) (b c : CV) : Option CH := match h[n]? with
  | some (.dK kvs) => (match keyC b with
    | some k => if kvs.length < line then some (h.set n (.dK (putC kvs k c))) else none
    | none => none)
  | some (.dT kvs) => (match keyT b with
    | some k => if kvs.length < line then some (h.set n (.dT (putC kvs k c))) else none
    | none => none)
  | _ => none
theorem dPut_rel {n : Nat} {b c : CV} {x y v : V} {h' : CH} (R : HRel g m h H) (e : dPut h n b c = some h') (ra : RelC g m H (.ref n) x) (rb : RelC g m H b y) (rc : RelC g m H c v) :
    ∃ a H', x = .ref a ∧ DPut H a y v H' ∧ Ext m H m H' ∧ HRel g m h' H' := by
  unfold dPut at e
  obtain ⟨a, rfl, ma⟩ := rel_ref ra
  split at e
  · rename_i kvs en
    obtain ⟨ws, q, rp⟩ := R.ob n _ a en ma
    split at e
    · rename_i k ek
      split at e
      · rename_i hl
        cases e
        rw [keyC_rel ek rb]
        have ex : Ext m H m (upd H a (.dK (putK ws k v))) := ext_put ma q True.intro
        exact ⟨a, _, rfl, .k q (by rw [line_eq, ← rp.len]; exact hl), ex, R.put ma q True.intro ⟨_, upd_same, (rp.mono ex).put (rc.mono ex)⟩⟩
      · cases e
    · cases e
  · rename_i kvs en
    obtain ⟨ws, q, rp⟩ := R.ob n _ a en ma
    split at e
    · rename_i k ek
      split at e
      · rename_i hl
        cases e
        obtain ⟨b', rfl, hb⟩ := keyT_rel ek rb
        have ex : Ext m H m (upd H a (.dT (putK ws k v))) := ext_put ma q True.intro
        exact ⟨a, _, rfl, .t q hb (by rw [line_eq, ← rp.len]; exact hl), ex, R.put ma q True.intro ⟨_, upd_same, (rp.mono ex).put (rc.mono ex)⟩⟩
      · cases e
    · cases e
  · cases e
end

/-! ### items -/
def sqIx (h : CH) (a b : CV) : Option CV := match b with
  | .int i => (match a with
    | .str z => if z.length ≤ line then (atI z.cps.toList i).map fun c => .str ⟨#[c]⟩ else none
    | a => (sqC h a).bind fun xs => atI xs i)
  | _ => none
def rcIxS : RC := fun a b h => (sqIx h a b).map fun c => (c, h)
def rcIxD : RC := fun a b h => match a with
  | .ref n => (match dGet h n b with
    | some (some c) => some (c, h)
    | _ => none)
  | _ => none
def rcIx : RC := fun a b h => (rcIxS a b h).or (rcIxD a b h)
theorem at_rel {g : Gc} {m : List Addr} {H : Hp} {cs : List CV} {vs : List V} {i : Int} {c : CV} (r : RelCs g m H cs vs) (e : atI cs i = some c) : ∃ v, atI vs i = some v ∧ RelC g m H c v := by
  unfold atI at e ⊢
  rw [← r.len]
  cases q : ixN cs.length i with
  | none => rw [q] at e; cases e
  | some j =>
    rw [q] at e
    exact r.get e
theorem rcIxS_ok {g : Gc} : RcOk g (rIx g.K) rcIxS := by
  intro m h H x y a b c h' Q R ra rb e ok
  obtain ⟨c', e1, e2⟩ := Option.map_eq_some_iff.mp e
  cases e2
  unfold sqIx at e1
  split at e1
  · rename_i i
    rw [rel_int rb]
    split at e1
    · rename_i z
      split at e1
      · rename_i hl
        obtain ⟨d, e3, e4⟩ := Option.map_eq_some_iff.mp e1
        cases e4
        rw [rel_str ra]
        exact .inr (.inr ⟨z, i, d, rfl, rfl, by rw [line_eq]; exact hl, e3, OkP.here ok R mk_str⟩)
      · cases e1
    · cases q : sqC h a with
      | none => rw [q] at e1; cases e1
      | some xs =>
        rw [q] at e1
        obtain ⟨p, vs, rfl, sq, rr⟩ := sqC_rel R q ra
        obtain ⟨v, e5, rv⟩ := at_rel rr e1
        rcases sq with sq | sq
        · exact .inl ⟨p, vs, i, v, rfl, rfl, sq, e5, OkP.here ok R rv⟩
        · exact .inr (.inl ⟨p, vs, i, v, rfl, rfl, sq, e5, OkP.here ok R rv⟩)
  · cases e1
def cIx (fa fb : ME) : ME := cOp rcIx fa fb
section
variable {X : Cx} {W : Wd} {g : Gc} {pos : Pos} {a b : Expr} {fa fb : ME}
theorem v_ix {k : Nat} (gk : g.K = X.K) (hr : Rm k X.A) (ha : PE X a (te g W fa)) (hb : PE X b (te g W fb)) (h1 : PlainIx b := by exact fun _ _ => rfl) (h2 : NoSl b := by exact fun _ _ => rfl) :
    PE X (.Subscript a b pos) (te g W (cIx fa fb)) := by
  refine PE_imp (PE_or (pe_ix ix_seq ha hb h1) (pe_dget (hu_of hr.r) ha hb h2)) fun σ H Q ⟨m, σc, h, cf, p⟩ => ?_
  -- which of the two
  by_cases kd : ∃ a1 h1 b1 h2 q, fa σc h = .ok a1 h1 ∧ fb σc h1 = .ok b1 h2 ∧ rcIxS a1 b1 h2 = some q
  · obtain ⟨a1, h1, b1, h2, q, ea, eb, eq⟩ := kd
    refine .inl (tg_bind (R2 := RelC g) cf p fun a h1' m1 H1 x e0 e1 cf1 ra p1 => ?_)
    rw [ea] at e0
    cases e0
    refine tg_bind (R2 := RelC g) cf1 p1 fun b h2' m2 H2 y e0 e2 cf2 rb p2 => ?_
    rw [eb] at e0
    cases e0
    obtain ⟨c, h3, e, ok⟩ := of_post p2
    unfold rcIx at e
    rw [eq] at e
    have e' : rcIxS a1 b1 h2 = some (c, h3) := eq.trans e
    have := rcIxS_ok m2 h2 H2 x y a1 b1 c h3 Q cf2.hr (ra.mono e2) rb e' ok
    rw [gk] at this
    exact this
  · refine .inr (tg_bind (R2 := RelC g) cf p fun a h1' m1 H1 x ea e1 cf1 ra p1 => ?_)
    refine tg_bind (R2 := RelC g) cf1 p1 fun b h2' m2 H2 y eb e2 cf2 rb p2 => ?_
    obtain ⟨c, h3, e, ok⟩ := of_post p2
    unfold rcIx at e
    have z : rcIxS a b h2' = none := by
      cases q : rcIxS a b h2' with
      | none => rfl
      | some q' => exact (kd ⟨_, _, _, _, _, ea, eb, q⟩).elim
    rw [z, Option.none_or] at e
    unfold rcIxD at e
    split at e
    · rename_i n
      split at e
      · rename_i c' eg
        cases e
        obtain ⟨q, o', ex, _, dg, _, i1, _⟩ := dGet_rel cf2.hr eg (ra.mono e2) rb
        obtain ⟨v, ev, rv⟩ := i1 _ rfl
        subst ev
        exact ⟨q, v, ex, dg, OkP.here ok cf2.hr rv⟩
      · cases e
    · cases e
end
/-! k in d, and in all else -/
def inD (h : CH) (a b : CV) : Option Bool := match b with
  | .ref n => (dGet h n a).map fun o => o.isSome
  | _ => none
def rcInD (ng : Bool) : RC := fun a b h => (inD h a b).map fun k => (.bl (xor ng k), h)
def rcInA (ng : Bool) : RC := fun a b h => (rcIn ng a b h).or (rcInD ng a b h)
theorem inD_rel {g : Gc} {m : List Addr} {H : Hp} {h : CH} {a b : CV} {x y : V} {k : Bool} (R : HRel g m h H) (e : inD h a b = some k) (ra : RelC g m H a x) (rb : RelC g m H b y) :
    ∃ p o, y = .ref p ∧ DGet H p x o ∧ o.isSome = k := by
  unfold inD at e
  split at e
  · rename_i n
    obtain ⟨o, e1, e2⟩ := Option.map_eq_some_iff.mp e
    obtain ⟨p, o', ey, _, dg, _, i1, i2⟩ := dGet_rel R e1 rb ra
    refine ⟨p, o', ey, dg, ?_⟩
    cases o with
    | none => rw [i2 rfl]; exact e2
    | some c =>
      obtain ⟨v, ev, _⟩ := i1 c rfl
      rw [ev]
      exact e2
  · cases e
section
variable {X : Cx} {W : Wd} {g : Gc} {pos : Pos} {a b : Expr} {fa fb : ME}
theorem in_pe {k : Nat} {ng : Bool} {op : CmpOp} (t : TE) (ht : PE X (.Compare a [op] [b] pos) (te g W (cOp (rcIn ng) fa fb))) (hd : PE X (.Compare a [op] [b] pos) t)
    (hi : ∀ σ H Q, te g W (cOp (rcInD ng) fa fb) σ H Q → t σ H Q) : PE X (.Compare a [op] [b] pos) (te g W (cOp (rcInA ng) fa fb)) := by
  refine PE_imp (PE_or ht hd) fun σ H Q ⟨m, σc, h, cf, p⟩ => ?_
  by_cases kd : ∃ a1 h1 b1 h2 q, fa σc h = .ok a1 h1 ∧ fb σc h1 = .ok b1 h2 ∧ rcIn ng a1 b1 h2 = some q
  · obtain ⟨a1, h1, b1, h2, q, ea, eb, eq⟩ := kd
    refine .inl ⟨m, σc, h, cf, ?_⟩
    unfold cOp at p ⊢
    rw [ea] at p ⊢
    unfold Rs.bind at p ⊢
    simp only [eb] at p ⊢
    unfold rcInA at p
    rw [eq] at p ⊢
    exact p
  · refine .inr (hi _ _ _ ⟨m, σc, h, cf, ?_⟩)
    unfold cOp at p ⊢
    cases ea : fa σc h with
    | no => rw [ea] at p; exact p.elim
    | ex kk fs h1 => rw [ea] at p; exact p
    | ok a1 h1 =>
      rw [ea] at p
      unfold Rs.bind at p ⊢
      cases eb : fb σc h1 with
      | no => simp only [eb] at p; exact p.elim
      | ex kk fs h2 => simp only [eb] at p ⊢; exact p
      | ok b1 h2 =>
        simp only [eb] at p ⊢
        have z : rcIn ng a1 b1 h2 = none := by
          cases q : rcIn ng a1 b1 h2 with
          | none => rfl
          | some q' => exact (kd ⟨_, _, _, _, _, ea, eb, q⟩).elim
        unfold rcInA at p
        rw [z, Option.none_or] at p
        exact p
theorem v_in {k : Nat} (gk : g.K = X.K) (hr : Rm k X.A) (ha : PE X a (te g W fa)) (hb : PE X b (te g W fb)) (hm : behindInMarks .In b = false := by rfl) :
    PE X (.Compare a [.In] [b] pos) (te g W (cOp (rcInA false) fa fb)) := by
  refine in_pe (k := k) _ (v_cmp (cm_in gk) ha hb hm) (pe_cmp (pc_din (hu_of hr.r) ha hb) hm) fun σ H Q h => ?_
  refine op_imp (r := fun y x H2 Q => ∃ a o, x = V.ref a ∧ DGet H2 a y o ∧ Q (.bl o.isSome) H2) (fun m h H x y a b c h' Q R ra rb e ok => ?_) h
  obtain ⟨k, e1, e2⟩ := Option.map_eq_some_iff.mp e
  cases e2
  obtain ⟨p, o, ey, dg, q⟩ := inD_rel R e1 ra rb
  refine ⟨p, o, ey, dg, ?_⟩
  rw [q]
  rw [Bool.false_xor] at ok
  exact OkP.here ok R mk_bl
theorem v_notin {k : Nat} (gk : g.K = X.K) (hr : Rm k X.A) (ha : PE X a (te g W fa)) (hb : PE X b (te g W fb)) (hm : behindInMarks .NotIn b = false := by rfl) :
    PE X (.Compare a [.NotIn] [b] pos) (te g W (cOp (rcInA true) fa fb)) := by
  refine in_pe (k := k) _ (v_cmp (cm_notin gk) ha hb hm) (pe_cmp (pc_dnotin (hu_of hr.r) ha hb) hm) fun σ H Q h => ?_
  refine op_imp (r := fun y x H2 Q => ∃ a o, x = V.ref a ∧ DGet H2 a y o ∧ Q (.bl (!o.isSome)) H2) (fun m h H x y a b c h' Q R ra rb e ok => ?_) h
  obtain ⟨k, e1, e2⟩ := Option.map_eq_some_iff.mp e
  cases e2
  obtain ⟨p, o, ey, dg, q⟩ := inD_rel R e1 ra rb
  refine ⟨p, o, ey, dg, ?_⟩
  rw [q]
  rw [Bool.true_xor] at ok
  exact OkP.here ok R mk_bl
/-- a comparison that is a truth value, as a test: whatever the comparison -/
theorem t_of {op : CmpOp} {f : ME} (h : PE X (.Compare a [op] [b] pos) (te g W f)) (h2 : PT X (.Compare a [op] [b] pos) (tt g W (cTst f))) : PT X (.Compare a [op] [b] pos) (tt g W (cTst f)) := h2
end
theorem PT_or {X : Cx} {e : Expr} {t t' : TT} (h : PT X e t) (h' : PT X e t') : PT X e (fun σ H Q => t σ H Q ∨ t' σ H Q) :=
  ⟨fun pins s σ H Q I q => q.elim (h.run pins s σ H Q I) (h'.run pins s σ H Q I)⟩
section
variable {X : Cx} {W : Wd} {g : Gc} {pos : Pos} {a b : Expr} {fa fb : ME}
theorem in_pt {ng : Bool} {op : CmpOp} (t : TT) (ht : PT X (.Compare a [op] [b] pos) (tt g W (cTst (cOp (rcIn ng) fa fb)))) (hd : PT X (.Compare a [op] [b] pos) t)
    (hi : ∀ σ H Q, tt g W (cTst (cOp (rcInD ng) fa fb)) σ H Q → t σ H Q) : PT X (.Compare a [op] [b] pos) (tt g W (cTst (cOp (rcInA ng) fa fb))) := by
  refine PT_imp (PT_or ht hd) fun σ H Q ⟨m, σc, h, cf, p⟩ => ?_
  by_cases kd : ∃ a1 h1 b1 h2 q, fa σc h = .ok a1 h1 ∧ fb σc h1 = .ok b1 h2 ∧ rcIn ng a1 b1 h2 = some q
  · obtain ⟨a1, h1, b1, h2, q, ea, eb, eq⟩ := kd
    refine .inl ⟨m, σc, h, cf, ?_⟩
    unfold cTst cOp at p ⊢
    rw [ea] at p ⊢
    unfold Rs.bind at p ⊢
    simp only [eb] at p ⊢
    unfold rcInA at p
    rw [eq] at p ⊢
    exact p
  · refine .inr (hi _ _ _ ⟨m, σc, h, cf, ?_⟩)
    unfold cTst cOp at p ⊢
    cases ea : fa σc h with
    | no => rw [ea] at p; exact p.elim
    | ex kk fs h1 => rw [ea] at p; exact p
    | ok a1 h1 =>
      rw [ea] at p
      unfold Rs.bind at p ⊢
      cases eb : fb σc h1 with
      | no => simp only [eb] at p; exact p.elim
      | ex kk fs h2 => simp only [eb] at p ⊢; exact p
      | ok b1 h2 =>
        simp only [eb] at p ⊢
        have z : rcIn ng a1 b1 h2 = none := by
          cases q : rcIn ng a1 b1 h2 with
          | none => rfl
          | some q' => exact (kd ⟨_, _, _, _, _, ea, eb, q⟩).elim
        unfold rcInA at p
        rw [z, Option.none_or] at p
        exact p
theorem t_in {k : Nat} (gk : g.K = X.K) (hr : Rm k X.A) (ha : PE X a (te g W fa)) (hb : PE X b (te g W fb)) (hm : behindInMarks .In b = false := by rfl) :
    PT X (.Compare a [.In] [b] pos) (tt g W (cTst (cOp (rcInA false) fa fb))) := by
  refine in_pt _ (t_cmp (cm_in gk) ha hb hm) (pt_cmp (pc_din (hu_of hr.r) ha hb) hm) fun σ H Q h => ?_
  refine tst_imp (fun σ H Q h => ?_) h
  refine op_imp (r := fun y x H2 Q => ∃ a o, x = V.ref a ∧ DGet H2 a y o ∧ Q (.bl o.isSome) H2) (fun m h H x y a b c h' Q R ra rb e ok => ?_) h
  obtain ⟨k, e1, e2⟩ := Option.map_eq_some_iff.mp e
  cases e2
  obtain ⟨p, o, ey, dg, q⟩ := inD_rel R e1 ra rb
  refine ⟨p, o, ey, dg, ?_⟩
  rw [q]
  rw [Bool.false_xor] at ok
  exact OkP.here ok R mk_bl
theorem t_notin {k : Nat} (gk : g.K = X.K) (hr : Rm k X.A) (ha : PE X a (te g W fa)) (hb : PE X b (te g W fb)) (hm : behindInMarks .NotIn b = false := by rfl) :
    PT X (.Compare a [.NotIn] [b] pos) (tt g W (cTst (cOp (rcInA true) fa fb))) := by
  refine in_pt _ (t_cmp (cm_notin gk) ha hb hm) (pt_cmp (pc_dnotin (hu_of hr.r) ha hb) hm) fun σ H Q h => ?_
  refine tst_imp (fun σ H Q h => ?_) h
  refine op_imp (r := fun y x H2 Q => ∃ a o, x = V.ref a ∧ DGet H2 a y o ∧ Q (.bl (!o.isSome)) H2) (fun m h H x y a b c h' Q R ra rb e ok => ?_) h
  obtain ⟨k, e1, e2⟩ := Option.map_eq_some_iff.mp e
  cases e2
  obtain ⟨p, o, ey, dg, q⟩ := inD_rel R e1 ra rb
  refine ⟨p, o, ey, dg, ?_⟩
  rw [q]
  rw [Bool.true_xor] at ok
  exact OkP.here ok R mk_bl
end

/-! ### slices -/
abbrev MO := Env → CH → Rs (Option Int)
abbrev to (g : Gc) (W : Wd) (f : MO) : TO := tg Req g W f
def cNo : MO := fun _ h => .ok none h
def cPart (fa : ME) : MO := fun σ h => (fa σ h).bind fun a h1 => match a with
  | .int i => .ok (some i) h1
  | _ => .no
def cutC (xs : List CV) (lo hi : Option Int) : List CV := (xs.drop (HT.sIx xs.length 0 lo)).take (HT.sIx xs.length xs.length hi - HT.sIx xs.length 0 lo)
def slC (a : CV) (lo hi : Option Int) (h : CH) : Option (CV × CH) := match a with
  | .tup xs => some (.tup (cutC xs lo hi), h)
  | .fl xs => some (.ref h.length, h ++ [.lst (cutC xs lo hi)])
  | .ref n => (match h[n]? with
    | some (.lst xs) => some (.ref h.length, h ++ [.lst (cutC xs lo hi)])
    | _ => none)
  | .str z => if z.length ≤ line then some (.str (cutS z lo hi), h) else none
  | _ => none
def cSl (fa : ME) (fl fh : MO) : ME := fun σ h => (fa σ h).bind fun a h1 => (fl σ h1).bind fun lo h2 => (fh σ h2).bind fun hi h3 => Rs.of (slC a lo hi h3)
theorem cut_rel {g : Gc} {m : List Addr} {H : Hp} {cs : List CV} {vs : List V} (lo hi : Option Int) (r : RelCs g m H cs vs) : RelCs g m H (cutC cs lo hi) (cutV vs lo hi) := by
  unfold cutC cutV
  rw [r.len]
  exact (r.drop _).take _
section
variable {X : Cx} {W : Wd} {g : Gc} {pos p2 : Pos} {a : Expr} {lo hi : Option Expr} {e : Expr} {fa : ME} {fl fh : MO}
theorem o_none : PO X none (to g W cNo) := by
  refine ⟨fun pins s σ H Q I h => ?_⟩
  obtain ⟨m, σc, hh, cf, p⟩ := h
  exact po_none.run pins s σ H Q I (OkP.here p cf.hr rfl)
theorem o_some (h : PE X e (te g W fa)) : PO X (some e) (to g W (cPart fa)) := by
  refine ⟨fun pins s σ H Q I hq => ?_⟩
  obtain ⟨m, σc, hh, cf, p⟩ := hq
  refine (po_some h).run pins s σ H Q I (tg_bind (R2 := Req) cf p fun a h1 m1 H1 x _ e1 cf1 ra p1 => ?_)
  cases a <;> first | exact p1.elim | skip
  exact ⟨_, rel_int ra, OkP.here p1 cf1.hr rfl⟩
theorem v_sl (gk : g.K = X.K) (ha : PE X a (te g W fa)) (hl : PO X lo (to g W fl)) (hh : PO X hi (to g W fh)) : PE X (.Subscript a (.Slice lo hi none p2) pos) (te g W (cSl fa fl fh)) := by
  refine PE_imp (pe_slice (sl_list.or (sl_tupA.or sl_str)) ha hl hh) fun σ H Q ⟨m, σc, h, cf, p⟩ => ?_
  refine tg_bind (R2 := RelC g) cf p fun a h1 m1 H1 x _ e1 cf1 ra p1 => ?_
  refine tg_bind (R2 := RelC g) cf1 p1 fun l h2 m2 H2 l' _ e2 cf2 rl p2 => ?_
  refine tg_bind (R2 := RelC g) cf2 p2 fun u h3 m3 H3 u' _ e3 cf3 ru p3 => ?_
  cases rl
  cases ru
  have ra3 := ra.mono (e2.trans e3)
  have R := cf3.hr
  obtain ⟨c, h4, e, ok⟩ := of_post p3
  unfold slC at e
  split at e
  · cases e
    obtain ⟨q, vs, rfl, sq, rr⟩ := rel_tup ra3
    refine .inr (.inl ⟨q, vs, rfl, .of sq, fun ⟨z1, z2⟩ => ?_, fun _ p hp => ok.tup R (cut_rel l u rr) hp⟩)
    have z : cutC _ l u = _ := (by
      unfold cutC
      rw [rr.len, z1, z2, List.drop_zero, Nat.sub_zero, ← rr.len, List.take_length])
    rw [z] at ok
    exact OkP.here ok R ra3
  · cases e
    obtain ⟨q, vs, rfl, sq, rr⟩ := rel_fl ra3
    exact .inl ⟨q, vs, rfl, by rw [← gk]; exact sq.sq, fun p hp => ok.lst R (cut_rel l u rr) hp⟩
  · split at e
    · rename_i xs ek
      cases e
      obtain ⟨q, vs, rfl, _, sq, rr⟩ := lst_at R ek ra3
      exact .inl ⟨q, vs, rfl, .of sq, fun p hp => ok.lst R (cut_rel l u rr) hp⟩
    · cases e
  · rename_i z _
    split at e
    · rename_i hl
      cases e
      exact .inr (.inr ⟨z, rel_str ra3, by rw [line_eq]; exact hl, OkP.here ok R mk_str⟩)
    · cases e
  · cases e
end
end Vm

/-! Vm6: built-in calls, methods. -/
namespace Vm
open PySem PySem.Spec PyProof.Rows L2

abbrev RK := List CV → CH → Option (CV × CH)
def RkOk (g : Gc) (r : List V → Hp → VK → Prop) (rk : RK) : Prop :=
  ∀ (m : List Addr) (h : CH) (H : Hp) (xs : List V) (as : List CV) (c : CV) (h' : CH) (Q : VK), HRel g m h H → RelCs g m H as xs → rk as h = some (c, h') → OkP (RelC g) g m H c h' Q → r xs H Q
theorem RkOk.or {g : Gc} {r r' : List V → Hp → VK → Prop} {rk rk' : RK} (h : RkOk g r rk) (h' : RkOk g r' rk') : RkOk g (fun xs H Q => r xs H Q ∨ r' xs H Q) (fun as h => (rk as h).or (rk' as h)) := by
  intro m hh H xs as c h2 Q R ra e ok
  cases q : rk as hh with
  | some z =>
    dsimp only at e
    rw [q] at e
    exact .inl (h m hh H xs as c h2 Q R ra (q.trans e) ok)
  | none =>
    dsimp only at e
    rw [q] at e
    exact .inr (h' m hh H xs as c h2 Q R ra e ok)
def cBi (rk : RK) (fs : MA) : ME := fun σ h => (fs σ h).bind fun as h1 => Rs.of (rk as h1)
/-- a built-in function and the machine's -/
structure BiOk (X : Cx) (g : Gc) (f : Value) (rk : RK) : Prop where
  ex : ∃ r, CallR X f r ∧ RkOk g r rk
theorem bi_imp {g : Gc} {W : Wd} {r : List V → Hp → VK → Prop} {rk : RK} {fs : MA} {σ : L2.St} {H : Hp} {Q : VK} (hrc : RkOk g r rk) (h : te g W (cBi rk fs) σ H Q) : tCB r (ta g W fs) σ H Q := by
  obtain ⟨m, σc, hh, cf, p⟩ := h
  refine tg_bind (R2 := RelC g) cf p fun as h1 m1 H1 xs _ e1 cf1 ra p1 => ?_
  obtain ⟨c, h3, e, ok⟩ := of_post p1
  exact hrc m1 h1 H1 xs as c h3 Q cf1.hr ra e ok
section
variable {X : Cx} {W : Wd} {g : Gc} {pos p : Pos} {x : Str} {e : Expr} {es : List Expr} {fs : MA} {rk : RK} {id T : String}
theorem v_bi (hc : BiOk X g (.builtin id) rk) (hg : Gl X x) (hm : X.mg x = none) (hv : bootBuiltins x = some (.builtin id)) (ha : PA X (e :: es) (ta g W fs)) (hn : x ≠ "__name__" := by decide) (hdb : (x == ("__debug__" : Str)) = false := by decide)
    (hs : starEach (e :: es) X.env = (false, eval e X.env) :: starEach es X.env := by rfl) (hp : (backTo pos (starEach es X.env)).any (·.1) = false := by rfl) : PE X (.Call (.Name x p) (e :: es) [] pos) (te g W (cBi rk fs)) := by
  obtain ⟨r, h1, h2⟩ := hc.ex
  exact PE_imp (pe_callB h1 hg hm hv ha hn hdb hs hp) fun _ _ _ h => bi_imp h2 h
theorem v_biT (hc : BiOk X g (.type T) rk) (hg : Gl X x) (hm : X.mg x = none) (hv : bootBuiltins x = some (.type T)) (ha : PA X (e :: es) (ta g W fs)) (hn : x ≠ "__name__" := by decide) (hdb : (x == ("__debug__" : Str)) = false := by decide)
    (hs : starEach (e :: es) X.env = (false, eval e X.env) :: starEach es X.env := by rfl) (hp : (backTo pos (starEach es X.env)).any (·.1) = false := by rfl) : PE X (.Call (.Name x p) (e :: es) [] pos) (te g W (cBi rk fs)) := by
  obtain ⟨r, h1, h2⟩ := hc.ex
  exact PE_imp (pe_callTy h1 hg hm hv ha hn hdb hs hp) fun _ _ _ h => bi_imp h2 h
end
/-! shapes of argument lists -/
section
variable {g : Gc} {m : List Addr} {H : Hp}
theorem as1 {a : CV} {xs : List V} (r : RelCs g m H [a] xs) : ∃ x, xs = [x] ∧ RelC g m H a x := by
  obtain ⟨x, t, rfl, h1, h2⟩ := rels_cons r
  rw [rels_nil h2]
  exact ⟨x, rfl, h1⟩
theorem as2 {a b : CV} {xs : List V} (r : RelCs g m H [a, b] xs) : ∃ x y, xs = [x, y] ∧ RelC g m H a x ∧ RelC g m H b y := by
  obtain ⟨x, t, rfl, h1, h2⟩ := rels_cons r
  obtain ⟨y, rfl, h3⟩ := as1 h2
  exact ⟨x, y, rfl, h1, h3⟩
end

/-! ### len -/
def lenC (h : CH) : CV → Option Nat
  | .str z => if z.length ≤ line then some z.length else none
  | a => (sqC h a).map List.length
def rkLen : RK := fun as h => match as with
  | [a] => (lenC h a).map fun (n : Nat) => (CV.int (n : Int), h)
  | _ => none
def rkLenD : RK := fun as h => match as with
  | [.ref n] => (match h[n]? with
    | some (.dK kvs) => some (.int kvs.length, h)
    | _ => none)
  | _ => none
theorem rkLen_ok {g : Gc} : RkOk g (fun xs H Q => ∃ x n, xs = [x] ∧ LenV g.K x H n ∧ Q (.int n) H) rkLen := by
  intro m h H xs as c h' Q R ra e ok
  unfold rkLen at e
  split at e
  · rename_i a
    obtain ⟨n, e1, e2⟩ := Option.map_eq_some_iff.mp e
    cases e2
    obtain ⟨x, rfl, rx⟩ := as1 ra
    refine ⟨x, n, rfl, ?_, OkP.here ok R mk_int⟩
    unfold lenC at e1
    split at e1
    · split at e1
      · rename_i hl
        cases e1
        rw [rel_str rx]
        exact ⟨by rw [line_eq]; exact hl, rfl⟩
      · cases e1
    · obtain ⟨cs, e3, rfl⟩ := Option.map_eq_some_iff.mp e1
      obtain ⟨p, vs, rfl, sq, rr⟩ := sqC_rel R e3 rx
      rcases sq with sq | sq
      · exact .inl ⟨vs, sq, rr.len⟩
      · exact .inr ⟨vs, sq, rr.len⟩
  · cases e
theorem rkLenD_ok {g : Gc} : RkOk g (fun xs H Q => ∃ a kvs, xs = [V.ref a] ∧ H a = some (.dK kvs) ∧ Q (.int kvs.length) H) rkLenD := by
  intro m h H xs as c h' Q R ra e ok
  unfold rkLenD at e
  split at e
  · split at e
    · rename_i n _ kvs en
      cases e
      obtain ⟨x, rfl, rx⟩ := as1 ra
      obtain ⟨a, rfl, ma⟩ := rel_ref rx
      obtain ⟨ws, q, rp⟩ := R.ob n _ a en ma
      exact ⟨a, ws, rfl, q, OkP.here ok R (by rw [rp.len]; exact mk_int)⟩
    · cases e
  · cases e
theorem bi_len {X : Cx} {g : Gc} (gk : g.K = X.K) : BiOk X g (.builtin "len") (fun as h => (rkLen as h).or (rkLenD as h)) :=
  ⟨_, CallR.or call_len call_lenD, RkOk.or (by rw [← gk]; exact rkLen_ok) rkLenD_ok⟩
/-! ### int, tuple, list -/
def rkInt : RK := fun as h => match as with
  | [.int i] => some (.int i, h)
  | [.bl k] => some (.int (if k then 1 else 0), h)
  | _ => none
theorem bi_int {X : Cx} {g : Gc} : BiOk X g (.type "int") rkInt := by
  refine ⟨_, call_int1, ?_⟩
  intro m h H xs as c h' Q R ra e ok
  unfold rkInt at e
  split at e
  · cases e
    obtain ⟨x, rfl, rx⟩ := as1 ra
    rw [rel_int rx]
    exact .inl ⟨_, rfl, OkP.here ok R mk_int⟩
  · cases e
    obtain ⟨x, rfl, rx⟩ := as1 ra
    rw [rel_bl rx]
    exact .inr ⟨_, rfl, OkP.here ok R mk_int⟩
  · cases e
def rkTup : RK := fun as h => match as with
  | [.tup xs] => some (.tup xs, h)
  | [.kt xs] => some (.kt xs, h)
  | [.fl xs] => some (.tup xs, h)
  | [.ref n] => (match h[n]? with
    | some (.lst xs) => some (.tup xs, h)
    | _ => none)
  | _ => none
theorem bi_tuple {X : Cx} {g : Gc} (gk : g.K = X.K) : BiOk X g (.type "tuple") rkTup := by
  refine ⟨_, call_tuple_of, ?_⟩
  rw [← gk]
  intro m h H xs as c h' Q R ra e ok
  unfold rkTup at e
  split at e
  · cases e
    obtain ⟨x, rfl, rx⟩ := as1 ra
    obtain ⟨p, vs, rfl, sq, rr⟩ := rel_tup rx
    exact ⟨p, vs, rfl, .inr ⟨.of sq, OkP.here ok R rx⟩⟩
  · cases e
    obtain ⟨x, rfl, rx⟩ := as1 ra
    obtain ⟨p, vs, rfl, sq, rr⟩ := rel_kt rx
    exact ⟨p, vs, rfl, .inr ⟨sq.sq, OkP.here ok R rx⟩⟩
  · cases e
    obtain ⟨x, rfl, rx⟩ := as1 ra
    obtain ⟨p, vs, rfl, sq, rr⟩ := rel_fl rx
    exact ⟨p, vs, rfl, .inl ⟨sq.sq, fun l hl => ok.tup R rr hl⟩⟩
  · split at e
    · rename_i n xs en
      cases e
      obtain ⟨x, rfl, rx⟩ := as1 ra
      obtain ⟨p, vs, rfl, _, sq, rr⟩ := lst_at R en rx
      exact ⟨p, vs, rfl, .inl ⟨.of sq, fun l hl => ok.tup R rr hl⟩⟩
    · cases e
  · cases e
def rkList : RK := fun as h => match as with
  | [a] => (sqC h a).map fun xs => (.ref h.length, h ++ [.lst xs])
  | _ => none
theorem bi_list {X : Cx} {g : Gc} (gk : g.K = X.K) : BiOk X g (.type "list") rkList := by
  refine ⟨_, call_list_of, ?_⟩
  rw [← gk]
  intro m h H xs as c h' Q R ra e ok
  unfold rkList at e
  split at e
  · obtain ⟨cs, e1, e2⟩ := Option.map_eq_some_iff.mp e
    cases e2
    obtain ⟨x, rfl, rx⟩ := as1 ra
    obtain ⟨p, vs, rfl, sq, rr⟩ := sqC_rel R e1 rx
    exact ⟨p, vs, rfl, sq, fun l hl => ok.lst R rr hl⟩
  · cases e
/-! ### sum, all, any, min, max -/
def intsC : List CV → Option (List Int)
  | [] => some []
  | .int i :: cs => (intsC cs).map (i :: ·)
  | _ :: _ => none
def blsC : List CV → Option (List Bool)
  | [] => some []
  | .bl i :: cs => (blsC cs).map (i :: ·)
  | _ :: _ => none
theorem intsC_map : ∀ (ns : List Int), intsC (ns.map CV.int) = some ns
  | [] => rfl
  | n :: ns => by rw [List.map_cons]; unfold intsC; rw [intsC_map ns]; rfl
theorem blsC_map : ∀ (ns : List Bool), blsC (ns.map CV.bl) = some ns
  | [] => rfl
  | n :: ns => by rw [List.map_cons]; unfold blsC; rw [blsC_map ns]; rfl
theorem intsC_eq : ∀ {cs : List CV} {ns : List Int}, intsC cs = some ns → cs = ns.map CV.int
  | [], ns, e => by cases e; rfl
  | c :: cs, ns, e => by
    unfold intsC at e
    split at e
    · rename_i q
      cases q
    · rename_i i cs' q
      obtain ⟨ns', e1, rfl⟩ := Option.map_eq_some_iff.mp e
      injection q with q1 q2
      subst q1 q2
      rw [intsC_eq e1]
      rfl
    · cases e
theorem blsC_eq : ∀ {cs : List CV} {ns : List Bool}, blsC cs = some ns → cs = ns.map CV.bl
  | [], ns, e => by cases e; rfl
  | c :: cs, ns, e => by
    unfold blsC at e
    split at e
    · rename_i q
      cases q
    · rename_i i cs' q
      obtain ⟨ns', e1, rfl⟩ := Option.map_eq_some_iff.mp e
      injection q with q1 q2
      subst q1 q2
      rw [blsC_eq e1]
      rfl
    · cases e
theorem rels_bls {g : Gc} {m : List Addr} {H : Hp} : ∀ {ns : List Bool} {vs : List V}, RelCs g m H (ns.map CV.bl) vs → vs = ns.map V.bl
  | [], _, h => rels_nil h
  | n :: ns, vs, h => by
    obtain ⟨v, r, rfl, h1, h2⟩ := rels_cons h
    rw [rel_bl h1, rels_bls h2]
    rfl
/-- a list as it is read -/
def lsC (h : CH) : CV → Option (List CV)
  | .fl xs => some xs
  | .ref k => (match h[k]? with
    | some (.lst xs) => some xs
    | _ => none)
  | _ => none
theorem lsC_rel {g : Gc} {m : List Addr} {H : Hp} {h : CH} {a : CV} {x : V} {cs : List CV} (R : HRel g m h H) (e : lsC h a = some cs) (ra : RelC g m H a x) : ∃ p vs, x = .ref p ∧ SqL g.K H p vs ∧ RelCs g m H cs vs := by
  cases a <;> simp only [lsC, Option.some.injEq, reduceCtorEq] at e
  · split at e
    · rename_i xs ek
      cases e
      obtain ⟨p, vs, rfl, _, sa, rr⟩ := lst_at R ek ra
      exact ⟨p, vs, rfl, .of sa, rr⟩
    · cases e
  · subst e
    obtain ⟨p, vs, rfl, sa, rr⟩ := rel_fl ra
    exact ⟨p, vs, rfl, sa.sq, rr⟩
def rkSum : RK := fun as h => match as with
  | [a] => ((lsC h a).bind intsC).map fun ns => (.int ns.sum, h)
  | _ => none
def rkAll : RK := fun as h => match as with
  | [a] => ((lsC h a).bind blsC).map fun ns => (.bl (ns.all id), h)
  | _ => none
def rkAny : RK := fun as h => match as with
  | [a] => ((lsC h a).bind blsC).map fun ns => (.bl (ns.any id), h)
  | _ => none
theorem bi_sum {X : Cx} {g : Gc} (gk : g.K = X.K) (hc : X.calm = true) : BiOk X g (.builtin "sum") rkSum := by
  refine ⟨_, cr_sum hc, ?_⟩
  rw [← gk]
  intro m h H xs as c h' Q R ra e ok
  unfold rkSum at e
  split at e
  · obtain ⟨ns, e1, e2⟩ := Option.map_eq_some_iff.mp e
    cases e2
    obtain ⟨cs, e3, e4⟩ := Option.bind_eq_some_iff.mp e1
    obtain ⟨x, rfl, rx⟩ := as1 ra
    obtain ⟨p, vs, rfl, sq, rr⟩ := lsC_rel R e3 rx
    rw [intsC_eq e4] at rr
    rw [rr.ints] at sq
    exact ⟨p, ns, rfl, sq, OkP.here ok R mk_int⟩
  · cases e
theorem bi_all {X : Cx} {g : Gc} (gk : g.K = X.K) (hc : X.calm = true) : BiOk X g (.builtin "all") rkAll := by
  refine ⟨_, cr_all hc, ?_⟩
  rw [← gk]
  intro m h H xs as c h' Q R ra e ok
  unfold rkAll at e
  split at e
  · obtain ⟨ns, e1, e2⟩ := Option.map_eq_some_iff.mp e
    cases e2
    obtain ⟨cs, e3, e4⟩ := Option.bind_eq_some_iff.mp e1
    obtain ⟨x, rfl, rx⟩ := as1 ra
    obtain ⟨p, vs, rfl, sq, rr⟩ := lsC_rel R e3 rx
    rw [blsC_eq e4] at rr
    rw [rels_bls rr] at sq
    exact ⟨p, ns, rfl, sq, OkP.here ok R mk_bl⟩
  · cases e
theorem bi_any {X : Cx} {g : Gc} (gk : g.K = X.K) (hc : X.calm = true) : BiOk X g (.builtin "any") rkAny := by
  refine ⟨_, cr_any hc, ?_⟩
  rw [← gk]
  intro m h H xs as c h' Q R ra e ok
  unfold rkAny at e
  split at e
  · obtain ⟨ns, e1, e2⟩ := Option.map_eq_some_iff.mp e
    cases e2
    obtain ⟨cs, e3, e4⟩ := Option.bind_eq_some_iff.mp e1
    obtain ⟨x, rfl, rx⟩ := as1 ra
    obtain ⟨p, vs, rfl, sq, rr⟩ := lsC_rel R e3 rx
    rw [blsC_eq e4] at rr
    rw [rels_bls rr] at sq
    exact ⟨p, ns, rfl, sq, OkP.here ok R mk_bl⟩
  · cases e
def rkMax : RK := fun as h => match as with
  | [.int i, .int j] => some (.int (if j > i then j else i), h)
  | _ => none
def rkMin : RK := fun as h => match as with
  | [.int i, .int j] => some (.int (if j < i then j else i), h)
  | _ => none
theorem bi_max {X : Cx} {g : Gc} (hc : X.calm = true) : BiOk X g (.builtin "max") rkMax := by
  refine ⟨_, call_max2 hc, ?_⟩
  intro m h H xs as c h' Q R ra e ok
  unfold rkMax at e
  split at e
  · cases e
    obtain ⟨x, y, rfl, rx, ry⟩ := as2 ra
    rw [rel_int rx, rel_int ry]
    exact ⟨_, _, rfl, OkP.here ok R mk_int⟩
  · cases e
theorem bi_min {X : Cx} {g : Gc} (hc : X.calm = true) : BiOk X g (.builtin "min") rkMin := by
  refine ⟨_, call_min2 hc, ?_⟩
  intro m h H xs as c h' Q R ra e ok
  unfold rkMin at e
  split at e
  · cases e
    obtain ⟨x, y, rfl, rx, ry⟩ := as2 ra
    rw [rel_int rx, rel_int ry]
    exact ⟨_, _, rfl, OkP.here ok R mk_int⟩
  · cases e
/-! ### repr -/
def reprOk (d : PyData) : Bool := d.showable && (d.canLay0 && (decide (d.depth ≤ 64) && decide (d.shown.length ≤ line)))
def rRepr (K : PySem.W.Frag) : List V → Hp → VK → Prop := fun xs H Q => ∃ x d, xs = [x] ∧ Dp K H x d ∧ reprOk d = true ∧ Q (.str d.shown) H
theorem call_repr {X : Cx} {k : Nat} (rm : Rm k X.A) : CallR X (.builtin "repr") (rRepr X.K) := by
  intro pins s σ H xs us Q I r h
  obtain ⟨x, d, rfl, dp, hd, q⟩ := h
  obtain ⟨u, rfl, ru⟩ := vals1 r
  unfold reprOk at hd
  simp only [Bool.and_eq_true, decide_eq_true_eq] at hd
  obtain ⟨h1, h2, h3, h4⟩ := hd
  have fin : ∀ (h' : Heap) (tk u : Nat), (∀ b o, s.heap.get? b = some o → h'.get? b = some o) → EP X pins σ Q (.str d.shown u) { s with heap := h', toks := tk } :=
    fun h' tk u kk => ⟨.str d.shown, H, I.kept kk, ⟨_, rfl⟩, q⟩
  have hz : d.shown.length ≤ sizeLine := by rw [line_eq]; exact h4
  cases dp with
  | non => cases ru; exact P.repr_of_none (fin _ _ _ fun _ _ z => z)
  | bl b => cases ru; exact P.repr_of_bool (fin _ _ _ fun _ _ z => z)
  | int i =>
    obtain ⟨t, rfl⟩ := ru
    have h1' : i.natAbs.log2 < 1920 := by simpa [PyData.showable] using h1
    exact P.repr_of_int h1' (fin _ _ _ fun _ _ z => z)
  | str z =>
    obtain ⟨t, rfl⟩ := ru
    exact P.repr_of_str (fin _ _ _ fun _ _ z => z) (by simpa [PyData.shown] using hz)
  | @lst a vs ds sq da =>
    obtain ⟨as, rd⟩ := Dp.reads I _ _ _ (.lst sq da) ru
    cases ru
    exact repr_of_reads' rd h1 (PyData.noDict_hsm (PyData.hasDict_of_canLay _ h2)) rm.gd (by have := rm.r.un; omega) (fun _ _ z => z) (fun h' u tk kk => fin h' tk u kk) hz
  | @tup a vs ds sq da =>
    obtain ⟨as, rd⟩ := Dp.reads I _ _ _ (.tup sq da) ru
    cases ru
    exact repr_of_reads' rd h1 (PyData.noDict_hsm (PyData.hasDict_of_canLay _ h2)) rm.gd (by have := rm.r.un; omega) (fun _ _ z => z) (fun h' u tk kk => fin h' tk u kk) hz
def rkRepr : RK := fun as h => match as with
  | [a] => (cvD 66 h a).bind fun d => if reprOk d = true then some (.str d.shown, h) else none
  | _ => none
theorem bi_repr {X : Cx} {g : Gc} {k : Nat} (gk : g.K = X.K) (rm : Rm k X.A) : BiOk X g (.builtin "repr") rkRepr := by
  refine ⟨_, call_repr rm, ?_⟩
  rw [← gk]
  intro m h H xs as c h' Q R ra e ok
  unfold rkRepr at e
  split at e
  · obtain ⟨d, e1, e2⟩ := Option.bind_eq_some_iff.mp e
    split at e2
    · rename_i hd
      cases e2
      obtain ⟨x, rfl, rx⟩ := as1 ra
      exact ⟨x, d, rfl, cvD_dp R e1 rx, hd, OkP.here ok R mk_str⟩
    · cases e2
  · cases e
/-! ### isinstance -/
def tyN (h : CH) : CV → Option String
  | .non => some "NoneType"
  | .bl _ => some "bool"
  | .int _ => some "int"
  | .str _ => some "str"
  | .tup _ => some "tuple"
  | .kt _ => some "tuple"
  | .fl _ => some "list"
  | .ref n => (match h[n]? with
    | some (.lst _) => some "list"
    | some (.dK _) => some "dict"
    | some (.dT _) => some "dict"
    | _ => none)
  | _ => none
def isB (a b : String) : Option Bool :=
  if a = b then some true
  else if a = "bool" && b = "int" then some true
  else if ["int", "bool", "str", "list", "tuple", "dict"].contains b && ["NoneType", "int", "bool", "str", "list", "tuple", "dict"].contains a then some false
  else none
theorem kitB_self (a : String) : kitB a a = some true := by
  unfold kitB
  rw [if_pos (by simp)]
theorem kitB_no : (["NoneType", "int", "bool", "str", "list", "tuple", "dict"].all fun a => ["int", "bool", "str", "list", "tuple", "dict"].all fun b => a == b || (a == "bool" && b == "int") || kitB a b == some false) = true := by decide +kernel
theorem kitB_bi : kitB "bool" "int" = some true := by decide +kernel
theorem isB_kit {a b : String} {r : Bool} (h : isB a b = some r) : kitB a b = some r := by
  unfold isB at h
  split at h
  · rename_i e
    subst e
    cases h
    exact kitB_self _
  · rename_i ne
    split at h
    · rename_i e
      simp only [Bool.and_eq_true, decide_eq_true_eq] at e
      obtain ⟨rfl, rfl⟩ := e
      cases h
      exact kitB_bi
    · rename_i nb
      split at h
      · rename_i e
        cases h
        rw [Bool.and_eq_true] at e
        have hb := List.contains_iff_mem.mp e.1
        have ha := List.contains_iff_mem.mp e.2
        have q := List.all_eq_true.mp (List.all_eq_true.mp kitB_no a ha) b hb
        rw [Bool.or_eq_true, Bool.or_eq_true] at q
        rcases q with (q | q) | q
        · exact absurd (by simpa using q) ne
        · exact absurd (by simpa using q) nb
        · simpa using q
      · cases h
theorem tyN_rel {g : Gc} {m : List Addr} {H : Hp} {h : CH} {a : CV} {x : V} {n : String} (R : HRel g m h H) (e : tyN h a = some n) (ra : RelC g m H a x) : TyX g.K H x (.type n) := by
  cases a <;> simp only [tyN, Option.some.injEq, reduceCtorEq] at e
  · subst e; rw [rel_non ra]; exact .base .non
  · subst e; rw [rel_bl ra]; exact .base (.bl _)
  · subst e; rw [rel_int ra]; exact .base (.int _)
  · subst e; rw [rel_str ra]; exact .base (.str _)
  · obtain ⟨p, rfl, ma⟩ := rel_ref ra
    split at e
    · rename_i en; cases e; obtain ⟨vs, q, _⟩ := R.ob _ _ p en ma; exact .base (.lst q)
    · rename_i en; cases e; obtain ⟨vs, q, _⟩ := R.ob _ _ p en ma; exact .base (.dK q)
    · rename_i en; cases e; obtain ⟨vs, q, _⟩ := R.ob _ _ p en ma; exact .base (.dT q)
    · cases e
  · subst e; obtain ⟨p, vs, rfl, q, _⟩ := rel_tup ra; exact .base (.tup q)
  · subst e; obtain ⟨p, vs, rfl, ⟨o, its, k, q1, q2, _⟩, _⟩ := rel_kt ra; exact .kTuple q1 q2
  · subst e
    obtain ⟨p, vs, rfl, q | ⟨o, its, k, q1, q2, _⟩, _⟩ := rel_fl ra
    · obtain ⟨o, q⟩ := q; exact .base (.frz q)
    · exact .kList q1 q2
def tysC : List CV → Option (List String)
  | [] => some []
  | .ty n :: cs => (tysC cs).map (n :: ·)
  | _ :: _ => none
def isAny (t : String) : List String → Option Bool
  | [] => some false
  | n :: ns => (match isB t n with
    | some true => some true
    | some false => isAny t ns
    | none => none)
theorem tys_rel {g : Gc} {m : List Addr} {H : Hp} : ∀ {cs : List CV} {ns : List String} {vs : List V}, tysC cs = some ns → RelCs g m H cs vs → Paired ClsV vs (ns.map Value.type)
  | [], _, _, e, h => by
    cases e
    rw [rels_nil h]
    exact .nil
  | c :: cs, ns, vs, e, h => by
    obtain ⟨v, rr, rfl, h1, h2⟩ := rels_cons h
    unfold tysC at e
    split at e
    · rename_i q
      cases q
    · rename_i n cs' q
      injection q with q1 q2
      subst q1
      subst q2
      obtain ⟨ns', e1, rfl⟩ := Option.map_eq_some_iff.mp e
      rw [rel_ty h1]
      exact .cons (.ty n) (tys_rel e1 h2)
    · cases e
theorem isAny_kit {K : PySem.W.Frag} {t : String} : ∀ {ns : List String} {r : Bool}, isAny t ns = some r → PySem.W.kitAny K (.type t) (ns.map Value.type) = some r
  | [], r, e => by
    cases e
    exact kitAny_nil
  | n :: ns, r, e => by
    unfold isAny at e
    split at e
    · rename_i eb
      cases e
      exact kitAny_cons (kit_ty (isB_kit eb)) (fun z => nomatch z) (fun _ => rfl)
    · rename_i eb
      exact kitAny_cons (kit_ty (isB_kit eb)) (fun _ => isAny_kit e) (fun z => nomatch z)
    · cases e
def rkIsi : RK := fun as h => match as with
  | [a, .ty n] => ((tyN h a).bind fun t => isB t n).map fun r => (.bl r, h)
  | _ => none
def rkIsiT : RK := fun as h => match as with
  | [a, .tup cs] => ((tyN h a).bind fun t => (tysC cs).bind fun ns => isAny t ns).map fun r => (.bl r, h)
  | _ => none
theorem rkIsi_ok {g : Gc} : RkOk g (rIsi g.K) rkIsi := by
  intro m h H xs as c h' Q R ra e ok
  unfold rkIsi at e
  split at e
  · obtain ⟨r, e1, e2⟩ := Option.map_eq_some_iff.mp e
    cases e2
    obtain ⟨t, e3, e4⟩ := Option.bind_eq_some_iff.mp e1
    obtain ⟨x, y, rfl, rx, ry⟩ := as2 ra
    rw [rel_ty ry]
    exact ⟨x, _, .type t, _, r, rfl, .ty _, tyN_rel R e3 rx, kit_ty (isB_kit e4), OkP.here ok R mk_bl⟩
  · cases e
theorem rkIsiT_ok {g : Gc} : RkOk g (rIsiT g.K) rkIsiT := by
  intro m h H xs as c h' Q R ra e ok
  unfold rkIsiT at e
  split at e
  · obtain ⟨r, e1, e2⟩ := Option.map_eq_some_iff.mp e
    cases e2
    obtain ⟨t, e3, e4⟩ := Option.bind_eq_some_iff.mp e1
    obtain ⟨ns, e5, e6⟩ := Option.bind_eq_some_iff.mp e4
    obtain ⟨x, y, rfl, rx, ry⟩ := as2 ra
    obtain ⟨p, vs, rfl, q, rr⟩ := rel_tup ry
    exact ⟨x, p, vs, .type t, _, r, rfl, q, tys_rel e5 rr, tyN_rel R e3 rx, isAny_kit e6, OkP.here ok R mk_bl⟩
  · cases e
theorem bi_isi {X : Cx} {g : Gc} (gk : g.K = X.K) : BiOk X g (.builtin "isinstance") (fun as h => (rkIsi as h).or (rkIsiT as h)) :=
  ⟨fun xs H Q => rIsi X.K xs H Q ∨ rIsiT X.K xs H Q, CallR.or call_isi call_isiT, RkOk.or (by rw [← gk]; exact rkIsi_ok) (by rw [← gk]; exact rkIsiT_ok)⟩

/-! ### methods -/
abbrev RM := CV → List CV → CH → Option (CV × CH)
def RmOk (g : Gc) (r : V → List V → Hp → VK → Prop) (rm : RM) : Prop :=
  ∀ (m : List Addr) (h : CH) (H : Hp) (x : V) (xs : List V) (o : CV) (as : List CV) (c : CV) (h' : CH) (Q : VK), HRel g m h H → RelC g m H o x → RelCs g m H as xs → rm o as h = some (c, h') → OkP (RelC g) g m H c h' Q → r x xs H Q
/-- a method of a list -/
def isL (h : CH) (o : CV) : Bool := (lsC h o).isSome
def cML (rm : RM) (fo : ME) (fs : MA) : ME := fun σ h => (fo σ h).bind fun o h1 => if isL h1 o = true then (fs σ h1).bind fun as h2 => Rs.of (rm o as h2) else .no
theorem isL_ty {g : Gc} {m : List Addr} {H : Hp} {h : CH} {a : CV} {x : V} (R : HRel g m h H) (e : isL h a = true) (ra : RelC g m H a x) : tyV g.K "list" x H := by
  obtain ⟨cs, e⟩ := Option.isSome_iff_exists.mp e
  obtain ⟨p, vs, rfl, sq, _⟩ := lsC_rel R e ra
  exact .inl ⟨rfl, vs, sq⟩
structure MlOk (X : Cx) (g : Gc) (name : Str) (id : String) (rm : RM) : Prop where
  ex : ∃ r, MtR X id r ∧ RmOk g r rm
  slot : Slot "list" name id
  ty : typeOf (.builtin id) = pure (.type "method_descriptor")
section
variable {X : Cx} {W : Wd} {g : Gc} {name : Str} {id : String} {rm : RM} {o e : Expr} {es : List Expr} {fo : ME} {fs : MA} {apos cpos : Pos}
theorem v_ml (gk : g.K = X.K) (hm : MlOk X g name id rm) (ho : PE X o (te g W fo)) (ha : PA X (e :: es) (ta g W fs))
    (hbase : attributeBase o name X.env (eval o X.env) = eval o X.env := by rfl)
    (hfew : ((backTo cpos (starEach (e :: es) X.env)).all (fun x => !x.1) && (backToKw cpos (keywordEach [] X.env)).all (fun x => x.1.isSome)
      && decide ((e :: es).length + ([] : List Keyword).length + (if ([] : List Keyword).isEmpty then 0 else 1) < 30)) = true := by rfl)
    (hline : (apos.endLine == cpos.line) = true := by rfl) (hs : starEach (e :: es) X.env = (false, eval e X.env) :: starEach es X.env := by rfl) (hp : (backTo cpos (starEach es X.env)).any (·.1) = false := by rfl) :
    PE X (.Call (.Attribute o name apos) (e :: es) [] cpos) (te g W (cML rm fo fs)) := by
  obtain ⟨r, h1, h2⟩ := hm.ex
  refine PE_imp (pe_bm PySem.F.plainAttrs_list hm.slot hm.ty h1 ho ha hbase hfew hline hs hp) fun σ H Q ⟨m, σc, h, cf, p⟩ => ?_
  refine tg_bind (R2 := RelC g) cf p fun o h1 m1 H1 x _ e1 cf1 ro p1 => ?_
  split at p1
  · rename_i il
    refine ⟨by rw [← gk]; exact isL_ty cf1.hr il ro, ?_⟩
    refine tg_bind (R2 := RelC g) cf1 p1 fun as h2' m2 H2 xs _ e2 cf2 ra p2 => ?_
    obtain ⟨c, h3, e, ok⟩ := of_post p2
    exact h2 m2 h2' H2 x xs o as c h3 Q cf2.hr (ro.mono e2) ra e ok
  · exact p1.elim
theorem v_ml0 (gk : g.K = X.K) (hm : MlOk X g name id rm) (ho : PE X o (te g W fo)) (hbase : attributeBase o name X.env (eval o X.env) = eval o X.env := by rfl) (hline : (apos.endLine == cpos.line) = true := by rfl) :
    PE X (.Call (.Attribute o name apos) [] [] cpos) (te g W (cML rm fo cNil)) := by
  obtain ⟨r, h1, h2⟩ := hm.ex
  refine PE_imp (pe_bm0 PySem.F.plainAttrs_list hm.slot hm.ty h1 ho hbase hline) fun σ H Q ⟨m, σc, h, cf, p⟩ => ?_
  refine tg_bind (R2 := RelC g) cf p fun o h1 m1 H1 x _ e1 cf1 ro p1 => ?_
  split at p1
  · rename_i il
    refine ⟨by rw [← gk]; exact isL_ty cf1.hr il ro, ?_⟩
    obtain ⟨c, h3, e, ok⟩ := of_post p1
    exact h2 m1 h1 H1 x [] o [] c h3 Q cf1.hr ro mks_nil e ok
  · exact p1.elim
end
/-- a list of ours is changed, a value handed back -/
theorem OkP.set {g : Gc} {m : List Addr} {h : CH} {H : Hp} {n : Nat} {a : Addr} {c : CV} {v : V} {cs : List CV} {vs ws : List V} {Q : VK} (ok : OkP (RelC g) g m H c (h.set n (.lst cs)) Q) (R : HRel g m h H) (ma : m[n]? = some a) (q : H a = some (.lst ws)) (r : RelCs g m H cs vs) (rv : RelC g m H c v) : Q v (upd H a (.lst vs)) := by
  have ex : Ext m H m (upd H a (.lst vs)) := ext_put ma q True.intro
  exact ok m _ v ex (R.put ma q True.intro ⟨vs, upd_same, r.mono ex⟩) (rv.mono ex)
def rmApp : RM := fun o as h => match o, as with
  | .ref n, [c] => (match h[n]? with
    | some (.lst xs) => if xs.length < line then some (.non, h.set n (.lst (xs ++ [c]))) else none
    | _ => none)
  | _, _ => none
theorem ml_append {X : Cx} {g : Gc} : MlOk X g "append" "list.append" rmApp := by
  refine ⟨⟨_, mt_append, ?_⟩, PySem.F.slot_list_append, PySem.F.type_list_append⟩
  intro m h H x xs o as c h' Q R ro ra e ok
  unfold rmApp at e
  split at e
  · split at e
    · rename_i n c' _ ys en
      split at e
      · rename_i hl
        cases e
        obtain ⟨y, rfl, ry⟩ := as1 ra
        obtain ⟨a, vs, rfl, ma, q, rr⟩ := lst_at R en ro
        exact ⟨a, vs, y, rfl, rfl, q, by rw [line_eq, ← rr.len]; exact hl, ok.set R ma q (rr.app (.one ry)) mk_non⟩
      · cases e
    · cases e
  · cases e
def rmExt : RM := fun o as h => match o, as with
  | .ref n, [.ref k] => (match h[n]?, h[k]? with
    | some (.lst xs), some (.lst ys) => if xs.length + ys.length ≤ line then some (.non, h.set n (.lst (xs ++ ys))) else none
    | _, _ => none)
  | _, _ => none
theorem ml_extend {X : Cx} {g : Gc} : MlOk X g "extend" "list.extend" rmExt := by
  refine ⟨⟨_, mt_extend, ?_⟩, PySem.F.slot_list_extend, PySem.F.type_list_extend⟩
  intro m h H x xs o as c h' Q R ro ra e ok
  unfold rmExt at e
  split at e
  · split at e
    · rename_i n k _ _ ys zs en ek
      split at e
      · rename_i hl
        cases e
        obtain ⟨y, rfl, ry⟩ := as1 ra
        obtain ⟨a, vs, rfl, ma, q, rr⟩ := lst_at R en ro
        obtain ⟨b, ws, rfl, mb, qb, rb⟩ := lst_at R ek ry
        exact ⟨a, b, vs, ws, rfl, rfl, q, qb, by rw [line_eq, ← rr.len, ← rb.len]; exact hl, ok.set R ma q (rr.app rb) mk_non⟩
      · cases e
    · cases e
  · cases e
def rmPop : RM := fun o as h => match o, as with
  | .ref n, [] => (match h[n]? with
    | some (.lst xs) => (xs[xs.length - 1]?).map fun c => (c, h.set n (.lst xs.dropLast))
    | _ => none)
  | _, _ => none
theorem ml_pop {X : Cx} {g : Gc} : MlOk X g "pop" "list.pop" rmPop := by
  refine ⟨⟨_, mt_pop, ?_⟩, PySem.F.slot_list_pop, PySem.F.type_list_pop⟩
  intro m h H x xs o as c h' Q R ro ra e ok
  unfold rmPop at e
  split at e
  · split at e
    · rename_i n _ ys en
      obtain ⟨c', e1, e2⟩ := Option.map_eq_some_iff.mp e
      cases e2
      rw [rels_nil ra]
      obtain ⟨a, vs, rfl, ma, q, rr⟩ := lst_at R en ro
      obtain ⟨v, e3, rv⟩ := rr.get e1
      rw [rr.len] at e3
      exact ⟨a, vs, v, rfl, rfl, q, e3, ok.set R ma q rr.dropLast rv⟩
    · cases e
  · cases e
def rmPopAt : RM := fun o as h => match o, as with
  | .ref n, [.int i] => (match h[n]? with
    | some (.lst xs) => if -(2 ^ 63) ≤ i ∧ i < 2 ^ 63 then (match seqIndex? i xs.length with
      | some k => (xs[k]?).map fun c => (c, h.set n (.lst (xs.eraseIdx k)))
      | none => none) else none
    | _ => none)
  | _, _ => none
theorem ml_popAt {X : Cx} {g : Gc} : MlOk X g "pop" "list.pop" rmPopAt := by
  refine ⟨⟨_, mt_popAt, ?_⟩, PySem.F.slot_list_pop, PySem.F.type_list_pop⟩
  intro m h H x xs o as c h' Q R ro ra e ok
  unfold rmPopAt at e
  split at e
  · split at e
    · rename_i n i _ ys en
      split at e
      · rename_i hb
        split at e
        · rename_i k ek
          obtain ⟨c', e1, e2⟩ := Option.map_eq_some_iff.mp e
          cases e2
          obtain ⟨y, rfl, ry⟩ := as1 ra
          rw [rel_int ry]
          obtain ⟨a, vs, rfl, ma, q, rr⟩ := lst_at R en ro
          obtain ⟨v, e3, rv⟩ := rr.get e1
          rw [rr.len] at ek
          exact ⟨a, vs, i, k, v, rfl, rfl, q, hb.1, hb.2, ek, e3, ok.set R ma q (rr.erase k) rv⟩
        · cases e
      · cases e
    · cases e
  · cases e
/-- the first place of an equal flat item -/
def idxV (y : V) : List V → Option Nat
  | [] => none
  | z :: zs => if eqV z y = true then some 0 else (idxV y zs).map (· + 1)
theorem idxV_at {y : V} : ∀ {zs : List V} {j : Nat}, idxV y zs = some j → (∃ z, zs[j]? = some z ∧ eqV z y = true) ∧ ∀ m z', m < j → zs[m]? = some z' → eqV z' y = false
  | [], _, e => by cases e
  | z :: zs, j, e => by
    unfold idxV at e
    split at e
    · rename_i h
      cases e
      exact ⟨⟨z, rfl, h⟩, fun m z' hm => absurd hm (Nat.not_lt_zero _)⟩
    · rename_i h
      obtain ⟨k, e1, rfl⟩ := Option.map_eq_some_iff.mp e
      obtain ⟨⟨w, h1, h2⟩, h3⟩ := idxV_at e1
      refine ⟨⟨w, by simpa using h1, h2⟩, fun m z' hm hz => ?_⟩
      cases m with
      | zero => simp at hz; subst hz; simpa using h
      | succ m => exact h3 m z' (by omega) (by simpa using hz)
def rmIndex : RM := fun o as h => match as with
  | [a] => (match lsC h o, flC a with
    | some cs, some y => (match flAll cs with
      | some ys => (idxV y ys).map fun (j : Nat) => (CV.int (j : Int), h)
      | none => none)
    | _, _ => none)
  | _ => none
theorem ml_index {X : Cx} {g : Gc} (gk : g.K = X.K) : MlOk X g "index" "list.index" rmIndex := by
  refine ⟨⟨_, mt_index, ?_⟩, PySem.F.slot_list_index, PySem.F.type_list_index⟩
  rw [← gk]
  intro m h H x xs o as c h' Q R ro ra e ok
  unfold rmIndex at e
  split at e
  · split at e
    · rename_i cs y e1 e2
      split at e
      · rename_i ys e3
        obtain ⟨j, e4, e5⟩ := Option.map_eq_some_iff.mp e
        cases e5
        obtain ⟨w, rfl, rw'⟩ := as1 ra
        obtain ⟨q1, q2⟩ := flC_rel e2 rw'
        subst q1
        obtain ⟨p, vs, rfl, sq, rr⟩ := lsC_rel R e1 ro
        obtain ⟨q3, q4⟩ := flAll_rel e3 rr
        subst q3
        obtain ⟨⟨z, h1, h2⟩, h3⟩ := idxV_at e4
        exact ⟨p, _, _, j, z, rfl, rfl, sq, q2, q4, h1, h2, fun m z' hm hz => h3 m z' hm hz, OkP.here ok R mk_int⟩
      · cases e
    · cases e
  · cases e
end Vm

/-! Vm7: targets, what is walked, statements, loops, list comprehensions. -/
namespace Vm
open PySem PySem.Spec PyProof.Rows L2

/-! ### targets -/
abbrev MG := CV → Env → CH → Option Env
abbrev MGs := List CV → Env → CH → Option Env
def tgt (g : Gc) (hx : Option HX) (ix : List Nat) (f : MG) : TG := fun v σ H Q => ∃ m σc h c σc1, Cf g hx m σc h σ H ∧ RelC g m H c v ∧ f c σc h = some σc1 ∧
  ∀ σ1, SRel g m H σc1 σ1 → σ1.length = σ.length → (∀ j, j ∉ ix → σ1[j]? = σ[j]?) → Q σ1 H
def tgts (g : Gc) (hx : Option HX) (ix : List Nat) (f : MGs) : TGs := fun vs σ H Q => ∃ m σc h cs σc1, Cf g hx m σc h σ H ∧ RelCs g m H cs vs ∧ f cs σc h = some σc1 ∧
  ∀ σ1, SRel g m H σc1 σ1 → σ1.length = σ.length → (∀ j, j ∉ ix → σ1[j]? = σ[j]?) → Q σ1 H
def gN (i : Nat) : MG := fun c σ _ => some (σ.set i (some c))
def gsN : MGs := fun cs σ _ => match cs with
  | [] => some σ
  | _ => none
def gsC (f : MG) (fs : MGs) : MGs := fun cs σ h => match cs with
  | c :: r => (f c σ h).bind fun σ1 => fs r σ1 h
  | [] => none
def gT (n : Nat) (fs : MGs) : MG := fun c σ h => match sqC h c with
  | some cs => if cs.length = n then fs cs σ h else none
  | none => none
/-- the slot of a held exception is not among them -/
def NoHx (hx : Option HX) (ix : List Nat) : Prop := ∀ e, hx = some e → e.i ∉ ix
theorem HxR.slots {g : Gc} {hx : Option HX} {m : List Addr} {σ σ1 : L2.St} {H : Hp} {ix : List Nat} (n : NoHx hx ix) (h : HxR g hx m σ H) (k : ∀ j, j ∉ ix → σ1[j]? = σ[j]?) : HxR g hx m σ1 H := fun e he =>
  let ⟨h1, h2⟩ := h e he
  ⟨(k _ (n e he)).trans h1, h2⟩
theorem PG_imp {X : Cx} {e : Expr} {t t' : TG} (h : PG X e t) (i : ∀ v σ H Q, t' v σ H Q → t v σ H Q) : PG X e t' := ⟨fun pins s σ H v u Q I r q => h.run pins s σ H v u Q I r (i v σ H Q q)⟩
theorem PG_or {X : Cx} {e : Expr} {t t' : TG} (h : PG X e t) (h' : PG X e t') : PG X e (fun v σ H Q => t v σ H Q ∨ t' v σ H Q) :=
  ⟨fun pins s σ H v u Q I r q => q.elim (h.run pins s σ H v u Q I r) (h'.run pins s σ H v u Q I r)⟩
theorem PGs_imp {X : Cx} {e : List Expr} {t t' : TGs} (h : PGs X e t) (i : ∀ v σ H Q, t' v σ H Q → t v σ H Q) : PGs X e t' := ⟨fun pins s σ H v u Q I r q => h.run pins s σ H v u Q I r (i v σ H Q q)⟩
section
variable {X : Cx} {g : Gc} {hx : Option HX} {pos : Pos} {ix jx : List Nat} {f : MG} {fs : MGs} {e : Expr} {es : List Expr}
theorem g_name (i : Nat) {x : Str} (hN : X.N.Nodup) (hi : X.N[i]? = some x) (hl : Loc X.env.scope x) (hf : X.fn x = true ∨ X.env.scope.names.lookup x = some .local := by first | exact .inl rfl | exact .inr rfl | assumption) :
    PG X (.Name x pos) (tgt g hx [i] (gN i)) := by
  refine PG_imp (pg_name hN hi hl hf) fun v σ H Q ⟨m, σc, h, c, σc1, cf, r, e, k⟩ => ?_
  cases e
  refine k _ (cf.sr.set r i) (List.length_set ..) fun j hj => ?_
  rw [List.getElem?_set_ne (fun z => hj (by simp [z]))]
theorem gs_nil : PGs X [] (tgts g hx [] gsN) := by
  refine PGs_imp pgs_nil fun vs σ H Q ⟨m, σc, h, cs, σc1, cf, r, e, k⟩ => ?_
  cases cs with
  | nil =>
    cases e
    exact ⟨rels_nil r, k σ cf.sr rfl fun _ _ => rfl⟩
  | cons _ _ => cases e
theorem gs_cons (n : NoHx hx ix) (h1 : PG X e (tgt g hx ix f)) (h2 : PGs X es (tgts g hx jx fs)) (hs : (assignEach (e :: es) X.env).map (·.2) = assign e X.env :: (assignEach es X.env).map (·.2) := by rfl) :
    PGs X (e :: es) (tgts g hx (ix ++ jx) (gsC f fs)) := by
  refine PGs_imp (pgs_cons h1 h2 hs) fun vs σ H Q ⟨m, σc, h, cs, σc1, cf, r, e, k⟩ => ?_
  cases cs with
  | nil => cases e
  | cons c cs =>
    obtain ⟨v, vr, rfl, r1, r2⟩ := rels_cons r
    obtain ⟨σc2, e1, e2⟩ := Option.bind_eq_some_iff.mp e
    refine ⟨v, vr, rfl, m, σc, h, c, σc2, cf, r1, e1, fun σ1 s1 l1 k1 => ?_⟩
    refine ⟨m, σc2, h, cs, σc1, ⟨cf.hr, s1, cf.xr.slots n k1⟩, r2, e2, fun σ2 s2 l2 k2 => ?_⟩
    refine k σ2 s2 (l2.trans l1) fun j hj => ?_
    rw [List.mem_append] at hj
    exact (k2 j fun z => hj (.inr z)).trans (k1 j fun z => hj (.inl z))
theorem g_tup {k : Nat} {n : Nat} (gk : g.K = X.K) (hc : X.calm = true) (h : PGs X es (tgts g hx ix fs)) (hn : (assignEach es X.env).length = n := by rfl) (hst : (assignEach es X.env).findIdx? (·.1) = none := by rfl) :
    PG X (.Tuple es k pos) (tgt g hx ix (gT n fs)) := by
  refine PG_imp (PG_or (pg_tup hc h hn hst) (pg_lst hc h hn hst)) fun v σ H Q ⟨m, σc, h, c, σc1, cf, r, e, kk⟩ => ?_
  unfold gT at e
  split at e
  · rename_i cs es'
    split at e
    · rename_i hl
      obtain ⟨p, vs, rfl, sq, rr⟩ := sqC_rel cf.hr es' r
      rw [gk] at sq
      rcases sq with sq | sq
      · exact .inr ⟨p, vs, rfl, sq, by rw [← rr.len]; exact hl, m, σc, h, cs, σc1, cf, rr, e, kk⟩
      · exact .inl ⟨p, vs, rfl, sq, by rw [← rr.len]; exact hl, m, σc, h, cs, σc1, cf, rr, e, kk⟩
    · cases e
  · cases e
end

/-! ### what is walked -/
inductive It0 where
  | st (xs : List CV) | ls (n : Nat)
abbrev MI := Env → CH → Rs It0
def nxt (it : It0) (i : Nat) (h : CH) : Option (Option CV) := match it with
  | .st xs => some xs[i]?
  | .ls n => (match h[n]? with
    | some (.lst xs) => some xs[i]?
    | _ => none)
def ItR (g : Gc) : Rl It0 It := fun m H it J => ∀ m1 h1 H1, Ext m H m1 H1 → HRel g m1 h1 H1 → ∀ i,
  (nxt it i h1 = some none → J.stop i H1) ∧ ∀ c, nxt it i h1 = some (some c) → J.go i H1 ∧ ∀ x H2, J.yld i H1 x H2 → Ext m1 H1 m1 H2 ∧ HRel g m1 h1 H2 ∧ RelC g m1 H2 c x
abbrev ti (g : Gc) (W : Wd) (f : MI) : TI := tg (ItR g) g W f
theorem PI_or {X : Cx} {tg e : Expr} {t t' : TI} (h : PI X tg e t) (h' : PI X tg e t') : PI X tg e (fun σ H R => t σ H R ∨ t' σ H R) :=
  ⟨fun pins s σ H R I q => q.elim (h.run pins s σ H R I) (h'.run pins s σ H R I)⟩
theorem PI_imp {X : Cx} {tg e : Expr} {t t' : TI} (h : PI X tg e t) (i : ∀ σ H R, t' σ H R → t σ H R) : PI X tg e t' := ⟨fun pins s σ H R I q => h.run pins s σ H R I (i σ H R q)⟩
theorem stop_of {g : Gc} {m : List Addr} {H : Hp} {cs : List CV} {vs : List V} {i : Nat} (r : RelCs g m H cs vs) (e : cs[i]? = none) : vs.length ≤ i := by
  rw [← r.len]
  exact List.getElem?_eq_none_iff.mp e
theorem it_tup {g : Gc} {m : List Addr} {H : Hp} {a : Addr} {cs : List CV} {vs : List V} (sq : ∀ m1 H1, Ext m H m1 H1 → SqT g.K H1 a vs) (un : ∀ m1 H1 vs', Ext m H m1 H1 → SqT g.K H1 a vs' → True) (r : RelCs g m H cs vs) : ItR g m H (.st cs) (Itt g.K a) := by
  intro m1 h1 H1 e R i
  have r1 := r.mono e
  have s1 := sq m1 H1 e
  refine ⟨fun q => ⟨vs, s1, ?_⟩, fun c q => ?_⟩
  · have q' : cs[i]? = none := by simpa [nxt] using q
    rw [← r.len]
    exact List.getElem?_eq_none_iff.mp q'
  · have q' : cs[i]? = some c := by simpa [nxt] using q
    obtain ⟨v, ev, rv⟩ := r1.get q'
    refine ⟨⟨vs, v, s1, ev⟩, fun x H2 ⟨eH, y⟩ => ?_⟩
    subst eH
    have := (y vs s1).symm.trans ev
    cases this
    exact ⟨.refl _ _, R, rv⟩
theorem it_fl {g : Gc} {m : List Addr} {H : Hp} {a : Addr} {cs : List CV} {vs : List V} (fr : FrL g.K H a vs) (r : RelCs g m H cs vs) : ItR g m H (.st cs) (Itl g.K a) := by
  intro m1 h1 H1 e R i
  have r1 := r.mono e
  have s1 := (frL_tk e.tk fr).sq
  refine ⟨fun q => ⟨vs, s1, ?_⟩, fun c q => ?_⟩
  · have q' : cs[i]? = none := by simpa [nxt] using q
    rw [← r.len]
    exact List.getElem?_eq_none_iff.mp q'
  · have q' : cs[i]? = some c := by simpa [nxt] using q
    obtain ⟨v, ev, rv⟩ := r1.get q'
    refine ⟨⟨vs, v, s1, ev⟩, fun x H2 ⟨eH, y⟩ => ?_⟩
    subst eH
    have := (y vs s1).symm.trans ev
    cases this
    exact ⟨.refl _ _, R, rv⟩
theorem nxt_st {xs : List CV} {i : Nat} {h : CH} {o : Option CV} (q : nxt (.st xs) i h = some o) : xs[i]? = o := Option.some.inj q
theorem nxt_ls {n i : Nat} {h : CH} {o : Option CV} (q : nxt (.ls n) i h = some o) : ∃ xs, h[n]? = some (.lst xs) ∧ xs[i]? = o := by
  dsimp only [nxt] at q
  split at q
  · exact ⟨_, by assumption, Option.some.inj q⟩
  · cases q
theorem it_ls {g : Gc} {m : List Addr} {H : Hp} {a : Addr} {n : Nat} (ma : m[n]? = some a) : ItR g m H (.ls n) (Itl g.K a) := by
  intro m1 h1 H1 e R i
  have ma1 := e.get ma
  refine ⟨fun q => ?_, fun c q => ?_⟩
  · obtain ⟨xs, en, ei⟩ := nxt_ls q
    obtain ⟨vs, qa, rr⟩ := R.ob n _ a en ma1
    exact ⟨vs, .of qa, stop_of rr ei⟩
  · obtain ⟨xs, en, ei⟩ := nxt_ls q
    obtain ⟨vs, qa, rr⟩ := R.ob n _ a en ma1
    obtain ⟨v, ev, rv⟩ := rr.get ei
    refine ⟨⟨vs, v, .of qa, ev⟩, fun x H2 ⟨eH, y⟩ => ?_⟩
    subst eH
    have := (y vs (.of qa)).symm.trans ev
    cases this
    exact ⟨.refl _ _, R, rv⟩
def signs (z : Str) : List CV := z.cps.toList.map fun c => .str ⟨#[c]⟩
def kC : Key → CV
  | .inl i => .int i
  | .inr x => .str x
theorem mk_kC {g : Gc} {m : List Addr} {H : Hp} : ∀ (k : Key), RelC g m H (kC k) (kV k)
  | .inl i => mk_int
  | .inr x => mk_str
theorem mk_kCs {g : Gc} {m : List Addr} {H : Hp} : ∀ (ks : List Key), RelCs g m H (ks.map kC) (ks.map kV)
  | [] => mks_nil
  | k :: ks => mks_cons (mk_kC k) (mk_kCs ks)
theorem RelP.at {κ : Type} {g : Gc} {m : List Addr} {H : Hp} : ∀ {ps : List (κ × CV)} {ws : List (κ × V)}, RelP g m H ps ws → ∀ {i : Nat} {p : κ × CV}, ps[i]? = some p → ∃ v, ws[i]? = some (p.1, v) ∧ RelC g m H p.2 v
  | p :: ps, ws, h, 0, q, e => by
    obtain ⟨v, r, rfl, h1, h2⟩ := h
    cases e
    exact ⟨v, rfl, h1⟩
  | p :: ps, ws, h, i + 1, q, e => by
    obtain ⟨v, r, rfl, h1, h2⟩ := h
    obtain ⟨w, e1, e2⟩ := RelP.at h2 (show ps[i]? = some q from e)
    exact ⟨w, e1, e2⟩
def itC (h : CH) : CV → Option It0
  | .tup xs => some (.st xs)
  | .kt xs => some (.st xs)
  | .fl xs => some (.st xs)
  | .str z => some (.st (signs z))
  | .ref n => (match h[n]? with
    | some (.lst _) => some (.ls n)
    | some (.fdK kvs) => some (.st (kvs.map fun p => kC p.1))
    | some (.fdT kvs) => some (.st (kvs.map fun p => .tup (p.1.map kC)))
    | _ => none)
  | _ => none
/-- the keys of a locked dict -/
theorem it_keys {g : Gc} {m : List Addr} {H : Hp} {d : Addr} {o : Obj} {kvs : List (Key × CV)} {ws : List (Key × V)} (e0 : H d = some (.frz o (.dK ws))) (rp : RelP g m H kvs ws) : ItR g m H (.st (kvs.map fun p => kC p.1)) (Itk d o ws) := by
  intro m1 h1 H1 e R i
  have d1 := e.tk.f _ _ _ e0
  have r1 := rp.mono e
  refine ⟨fun q => ⟨d1, ?_⟩, fun c q => ?_⟩
  · have q' := nxt_st q
    rw [List.getElem?_map, Option.map_eq_none_iff] at q'
    rw [← r1.len]
    exact List.getElem?_eq_none_iff.mp q'
  · have q' := nxt_st q
    rw [List.getElem?_map] at q'
    obtain ⟨p, e1, e2⟩ := Option.map_eq_some_iff.mp q'
    subst e2
    obtain ⟨v, e3, _⟩ := r1.at e1
    refine ⟨⟨d1, (List.getElem?_eq_some_iff.mp e3).1⟩, fun x H2 ⟨eH, k, v', e4, ex⟩ => ?_⟩
    subst eH
    subst ex
    rw [e3] at e4
    cases e4
    exact ⟨.refl _ _, R, mk_kC _⟩
theorem it_keysT {g : Gc} {m : List Addr} {H : Hp} {d : Addr} {o : Obj} {kvs : List (List Key × CV)} {ws : List (List Key × V)} (e0 : H d = some (.frz o (.dT ws))) (rp : RelP g m H kvs ws) : ItR g m H (.st (kvs.map fun p => .tup (p.1.map kC))) (Itkt d o ws) := by
  intro m1 h1 H1 e R i
  have d1 := e.tk.f _ _ _ e0
  have r1 := rp.mono e
  refine ⟨fun q => ⟨d1, ?_⟩, fun c q => ?_⟩
  · have q' := nxt_st q
    rw [List.getElem?_map, Option.map_eq_none_iff] at q'
    rw [← r1.len]
    exact List.getElem?_eq_none_iff.mp q'
  · have q' := nxt_st q
    rw [List.getElem?_map] at q'
    obtain ⟨p, e1, e2⟩ := Option.map_eq_some_iff.mp q'
    subst e2
    obtain ⟨v, e3, _⟩ := r1.at e1
    refine ⟨⟨d1, (List.getElem?_eq_some_iff.mp e3).1⟩, fun x H2 ⟨eH, k, v', b, e4, ex, eb⟩ => ?_⟩
    subst eH
    subst ex
    rw [e3] at e4
    cases e4
    exact ⟨.refl _ _, R, mk_tup eb (mk_kCs _)⟩
def cItS (fa : ME) : MI := fun σ h => (fa σ h).bind fun a h1 => match itC h1 a with
  | some it => .ok it h1
  | none => .no
def rngC (lo : Int) : Nat → List CV
  | 0 => []
  | n + 1 => .int lo :: rngC (lo + 1) n
theorem rngC_at : ∀ (n : Nat) (lo : Int) (i : Nat), (rngC lo n)[i]? = if i < n then some (.int (lo + i)) else none
  | 0, lo, i => by simp [rngC]
  | n + 1, lo, 0 => by simp [rngC]
  | n + 1, lo, i + 1 => by
    unfold rngC
    rw [List.getElem?_cons_succ, rngC_at n (lo + 1) i]
    by_cases h : i < n
    · rw [if_pos h, if_pos (by omega)]
      congr 2
      omega
    · rw [if_neg h, if_neg (by omega)]
theorem rngC_len : ∀ (n : Nat) (lo : Int), (rngC lo n).length = n
  | 0, _ => rfl
  | n + 1, lo => by unfold rngC; rw [List.length_cons, rngC_len n]
def rngB (i : Int) : Bool := decide (-(2 ^ 62) ≤ i ∧ i < 2 ^ 62)
def cRng1 (fs : MA) : MI := fun σ h => (fs σ h).bind fun as h1 => match as with
  | [.int j] => if rngB j = true then .ok (.st (rngC 0 j.toNat)) h1 else .no
  | _ => .no
def cRng2 (fs : MA) : MI := fun σ h => (fs σ h).bind fun as h1 => match as with
  | [.int i, .int j] => if (rngB i && rngB j) = true then .ok (.st (rngC i (j - i).toNat)) h1 else .no
  | _ => .no
theorem it_rng {g : Gc} {m : List Addr} {H : Hp} (lo : Int) (n : Nat) : ItR g m H (.st (rngC lo n)) (Itr lo n) := by
  intro m1 h1 H1 e R i
  unfold nxt
  refine ⟨fun q => ?_, fun c q => ?_⟩
  · have q' : (rngC lo n)[i]? = none := by simpa using q
    rw [rngC_at] at q'
    split at q'
    · cases q'
    · rename_i hh
      exact Nat.not_lt.mp hh
  · have q' : (rngC lo n)[i]? = some c := by simpa using q
    rw [rngC_at] at q'
    split at q'
    · rename_i hl
      cases q'
      refine ⟨hl, fun x H2 ⟨eH, ex⟩ => ?_⟩
      subst eH
      subst ex
      exact ⟨.refl _ _, R, mk_int⟩
    · cases q'
section
variable {X : Cx} {W : Wd} {g : Gc} {tg e e2 : Expr} {fa : ME} {fs : MA} {p pos : Pos}
theorem i_seq (gk : g.K = X.K) (ha : PE X e (te g W fa)) : PI X tg e (ti g W (cItS fa)) := by
  refine PI_imp (PI_or (pi_list ha) (PI_or (pi_tup ha) (PI_or (pi_str ha) (pi_keys ha)))) fun σ H R ⟨m, σc, h, cf, q⟩ => ?_
  have key : ∀ {t : TI}, (∀ a h1, fa σc h = .ok a h1 → ∀ it, itC h1 a = some it → t σ H R) → (fa σc h = .no → t σ H R) → (∀ k fs h1, fa σc h = .ex k fs h1 → t σ H R) → t σ H R := by
    intro t k1 k2 k3
    cases ef : fa σc h with
    | no => exact k2 ef
    | ex kk fs h1 => exact k3 _ _ _ ef
    | ok a h1 =>
      have q' := q
      unfold cItS at q'
      rw [ef] at q'
      unfold Rs.bind at q'
      dsimp only at q'
      cases ei : itC h1 a with
      | none => rw [ei] at q'; exact q'.elim
      | some it => exact k1 a h1 ef it ei
  cases ef : fa σc h with
  | no =>
    unfold cItS at q
    rw [ef] at q
    exact q.elim
  | ex kk fs h1 =>
    refine .inl (tg_bind (R2 := ItR g) cf q fun a h1' m1 H1 x ea e1 cf1 ra p1 => ?_)
    rw [ef] at ea
    cases ea
  | ok a h1 =>
    cases a with
    | ref n =>
      have lk : (∃ xs, h1[n]? = some (.lst xs)) ∨ (∃ kvs, h1[n]? = some (.fdK kvs)) ∨ ∃ kvs, h1[n]? = some (.fdT kvs) := by
        have q' := q
        unfold cItS at q'
        rw [ef] at q'
        dsimp only [Rs.bind, itC] at q'
        cases en : h1[n]? with
        | none => rw [en] at q'; exact q'.elim
        | some ob =>
          cases ob with
          | lst xs => exact .inl ⟨_, rfl⟩
          | fdK xs => exact .inr (.inl ⟨_, rfl⟩)
          | fdT xs => exact .inr (.inr ⟨_, rfl⟩)
          | _ => rw [en] at q'; exact q'.elim
      rcases lk with ⟨xs, en⟩ | ⟨kvs, en⟩ | ⟨kvs, en⟩
      · refine .inl (tg_bind (R2 := ItR g) cf q fun a h1' m1 H1 x ea e1 cf1 ra p1 => ?_)
        rw [ef] at ea
        cases ea
        dsimp only [itC] at p1
        rw [en] at p1
        obtain ⟨b, vs, rfl, mb, qb, rr⟩ := lst_at cf1.hr en ra
        exact ⟨b, rfl, ⟨vs, .of qb⟩, OkP.here p1 cf1.hr (by rw [← gk]; exact it_ls mb)⟩
      · refine .inr (.inr (.inr (tg_bind (R2 := ItR g) cf q fun a h1' m1 H1 x ea e1 cf1 ra p1 => ?_)))
        rw [ef] at ea
        cases ea
        dsimp only [itC] at p1
        rw [en] at p1
        obtain ⟨b, rfl, mb⟩ := rel_ref ra
        obtain ⟨o, ws, qb, rr⟩ := cf1.hr.ob n _ b en mb
        exact ⟨b, o, rfl, .inl ⟨ws, qb, OkP.here p1 cf1.hr (it_keys qb rr)⟩⟩
      · refine .inr (.inr (.inr (tg_bind (R2 := ItR g) cf q fun a h1' m1 H1 x ea e1 cf1 ra p1 => ?_)))
        rw [ef] at ea
        cases ea
        dsimp only [itC] at p1
        rw [en] at p1
        obtain ⟨b, rfl, mb⟩ := rel_ref ra
        obtain ⟨o, ws, qb, rr⟩ := cf1.hr.ob n _ b en mb
        exact ⟨b, o, rfl, .inr ⟨ws, qb, OkP.here p1 cf1.hr (it_keysT qb rr)⟩⟩
    | fl xs =>
      refine .inl (tg_bind (R2 := ItR g) cf q fun a h1' m1 H1 x ea e1 cf1 ra p1 => ?_)
      rw [ef] at ea
      cases ea
      obtain ⟨b, vs, rfl, fr, rr⟩ := rel_fl ra
      exact ⟨b, rfl, ⟨vs, by rw [← gk]; exact fr.sq⟩, OkP.here p1 cf1.hr (by rw [← gk]; exact it_fl fr rr)⟩
    | tup xs =>
      refine .inr (.inl (tg_bind (R2 := ItR g) cf q fun a h1' m1 H1 x ea e1 cf1 ra p1 => ?_))
      rw [ef] at ea
      cases ea
      obtain ⟨b, vs, rfl, hb, rr⟩ := rel_tup ra
      exact ⟨b, rfl, ⟨vs, .of hb⟩, OkP.here p1 cf1.hr (by rw [← gk]; exact it_tup (fun m1 H1 e => .of (e.tk.t _ _ hb)) (fun _ _ _ _ _ => True.intro) rr)⟩
    | kt xs =>
      refine .inr (.inl (tg_bind (R2 := ItR g) cf q fun a h1' m1 H1 x ea e1 cf1 ra p1 => ?_))
      rw [ef] at ea
      cases ea
      obtain ⟨b, vs, rfl, hb, rr⟩ := rel_kt ra
      exact ⟨b, rfl, ⟨vs, by rw [← gk]; exact hb.sq⟩, OkP.here p1 cf1.hr (by rw [← gk]; exact it_tup (fun m1 H1 e => hb.sq) (fun _ _ _ _ _ => True.intro) rr)⟩
    | str z =>
      refine .inr (.inr (.inl (tg_bind (R2 := ItR g) cf q fun a h1' m1 H1 x ea e1 cf1 ra p1 => ?_)))
      rw [ef] at ea
      cases ea
      refine ⟨z, rel_str ra, OkP.here p1 cf1.hr ?_⟩
      intro m1 h1 H1 e R i
      unfold nxt signs
      refine ⟨fun q => ?_, fun c q => ?_⟩
      · have q' := Option.some.inj q
        rw [List.getElem?_map, Option.map_eq_none_iff] at q'
        have := List.getElem?_eq_none_iff.mp q'
        show z.cps.size ≤ i
        simpa using this
      · have q' := Option.some.inj q
        rw [List.getElem?_map] at q'
        obtain ⟨d, e1, e2⟩ := Option.map_eq_some_iff.mp q'
        subst e2
        have e1' : z.cps[i]? = some d := by rw [← Array.getElem?_toList]; exact e1
        refine ⟨(Array.getElem?_eq_some_iff.mp e1').1, fun x H2 ⟨eH, d', e3, ex⟩ => ?_⟩
        subst eH
        subst ex
        rw [e1'] at e3
        cases e3
        exact ⟨.refl _ _, R, mk_str⟩
    | _ =>
      unfold cItS at q
      rw [ef] at q
      exact q.elim
theorem i_range1 (hg : Gl X "range") (hm : X.mg "range" = none) (ha : PA X [e] (ta g W fs)) (hs : starEach [e] X.env = [(false, eval e X.env)] := by rfl) : PI X tg (.Call (.Name "range" p) [e] [] pos) (ti g W (cRng1 fs)) := by
  refine PI_imp (pi_range1 hg hm ha hs) fun σ H R ⟨m, σc, h, cf, q⟩ => ?_
  refine tg_bind (R2 := ItR g) cf q fun as h1 m1 H1 xs _ e1 cf1 ra p1 => ?_
  split at p1
  · rename_i j _
    split at p1
    · rename_i hb
      obtain ⟨x, rfl, rx⟩ := as1 ra
      rw [rel_int rx]
      obtain ⟨b1, b2⟩ := of_decide_eq_true hb
      exact ⟨j, rfl, b1, b2, OkP.here p1 cf1.hr (it_rng 0 j.toNat)⟩
    · exact p1.elim
  · exact p1.elim
theorem i_range2 (hg : Gl X "range") (hm : X.mg "range" = none) (ha : PA X [e, e2] (ta g W fs)) (hs : starEach [e, e2] X.env = [(false, eval e X.env), (false, eval e2 X.env)] := by rfl) (hs2 : starEach [e2] X.env = [(false, eval e2 X.env)] := by rfl) :
    PI X tg (.Call (.Name "range" p) [e, e2] [] pos) (ti g W (cRng2 fs)) := by
  refine PI_imp (pi_range2 hg hm ha hs hs2) fun σ H R ⟨m, σc, h, cf, q⟩ => ?_
  refine tg_bind (R2 := ItR g) cf q fun as h1 m1 H1 xs _ e1 cf1 ra p1 => ?_
  split at p1
  · rename_i i j _
    split at p1
    · rename_i hb
      rw [Bool.and_eq_true] at hb
      obtain ⟨x, y, rfl, rx, ry⟩ := as2 ra
      rw [rel_int rx, rel_int ry]
      obtain ⟨b1, b2⟩ := of_decide_eq_true hb.1
      obtain ⟨b3, b4⟩ := of_decide_eq_true hb.2
      exact ⟨i, j, rfl, ⟨b1, b2, b3, b4⟩, OkP.here p1 cf1.hr (it_rng i (j - i).toNat)⟩
    · exact p1.elim
  · exact p1.elim
end

/-! ### statements -/
def cNext : MS := fun σ h => .nx σ h
def cSeq (f u : MS) : MS := fun σ h => match f σ h with
  | .nx σ1 h1 => u σ1 h1
  | r => r
def cExpr (f : ME) : MS := fun σ h => (f σ h).st σ fun _ h1 => .nx σ h1
def cRet (f : ME) : MS := fun σ h => (f σ h).st σ fun c h1 => .rt c h1
def cRetN : MS := fun _ h => .rt .non h
def cIfS (t : MT) (f u : MS) : MS := fun σ h => (t σ h).st σ fun b h1 => if b = true then f σ h1 else u σ h1
def cBreak : MS := fun σ h => .bk σ h
def cCont : MS := fun σ h => .ct σ h
def cAsg (f : ME) (i : Nat) : MS := fun σ h => (f σ h).st σ fun c h1 => .nx (σ.set i (some c)) h1
def cAsgT (f : ME) (t : MG) : MS := fun σ h => (f σ h).st σ fun c h1 => match t c σ h1 with
  | some σ1 => .nx σ1 h1
  | none => .no
def cPar (i j : Nat) (f : MA) : MS := fun σ h => (f σ h).st σ fun as h1 => match as with
  | [a, b] => .nx ((σ.set i (some a)).set j (some b)) h1
  | _ => .no
def cAug (i : Nat) (op : Int → Int → Int) (f : ME) : MS := fun σ h => match σ[i]? with
  | some (some (.int a)) => (f σ h).st σ fun c h1 => (match c with
    | .int b => .nx (σ.set i (some (.int (op a b)))) h1
    | _ => .no)
  | _ => .no
section
variable {X : Cx} {W : Wd} {g : Gc} {pos : Pos} {st : Stmt} {rest : List Stmt} {e : Expr} {f u : MS} {fe : ME} {ft : MT} {fs : MA}
theorem ss_nil : PSs X [] (ts g W cNext) := PSs_imp pss_nil fun D σ H ⟨m, σc, h, cf, p⟩ => p m H σ (.refl m H) cf
theorem seq_imp {D : Ends} {σ : L2.St} {H : Hp} {t v : TS} (ht : ∀ D σ H, ts g W f D σ H → t D σ H) (hv : ∀ D σ H, ts g W u D σ H → v D σ H) (h : ts g W (cSeq f u) D σ H) : tSeq t v D σ H := by
  obtain ⟨m, σc, hh, cf, p⟩ := h
  refine ht _ _ _ ⟨m, σc, hh, cf, ?_⟩
  unfold cSeq at p
  cases e : f σc hh with
  | nx σ1 h1 =>
    rw [e] at p
    exact fun m' H' σ' e' cf' => hv D σ' H' ⟨m', σ1, h1, cf', PostS.go p e'⟩
  | rt c h1 => rw [e] at p; exact p
  | bk σ1 h1 => rw [e] at p; exact p
  | ct σ1 h1 => rw [e] at p; exact p
  | ex k fs σ1 h1 => rw [e] at p; exact p
  | no => rw [e] at p; exact p
theorem ss_cons (h1 : PS X st (ts g W f)) (h2 : PSs X rest (ts g W u)) : PSs X (st :: rest) (ts g W (cSeq f u)) :=
  PSs_imp (pss_cons h1 h2) fun _ _ _ h => seq_imp (fun _ _ _ q => q) (fun _ _ _ q => q) h
theorem ss_one (h1 : PS X st (ts g W f)) : PSs X [st] (ts g W f) := pss_one h1
theorem s_pass : PS X (.Pass pos) (ts g W cNext) := PS_imp ps_pass fun D σ H ⟨m, σc, h, cf, p⟩ => p m H σ (.refl m H) cf
theorem s_break : PS X (.Break pos) (ts g W cBreak) := PS_imp ps_break fun D σ H ⟨m, σc, h, cf, p⟩ => p m H σ (.refl m H) cf
theorem s_cont : PS X (.Continue pos) (ts g W cCont) := PS_imp ps_continue fun D σ H ⟨m, σc, h, cf, p⟩ => p m H σ (.refl m H) cf
theorem s_doc {x : Str} {j : Nat} {pos' : Pos} : PS X (.Expr (.Constant (.str x) j pos) pos') (ts g W cNext) := PS_imp ps_doc fun D σ H ⟨m, σc, h, cf, p⟩ => p m H σ (.refl m H) cf
theorem s_expr (he : PE X e (te g W fe)) (hs : swapsWith e none pos.line X.env = pure false := by rfl) : PS X (.Expr e pos) (ts g W (cExpr fe)) := by
  refine PS_imp (ps_expr he hs) fun D σ H ⟨m, σc, h, cf, p⟩ => ?_
  exact ts_bind cf p fun a h1 m1 H1 x _ e1 cf1 ra p1 => p1 m1 H1 σ (.refl _ _) cf1
theorem s_ret (he : PE X e (te g W fe)) : PS X (.Return (some e) pos) (ts g W (cRet fe)) := by
  refine PS_imp (ps_ret he) fun D σ H ⟨m, σc, h, cf, p⟩ => ?_
  exact ts_bind cf p fun a h1 m1 H1 x _ e1 cf1 ra p1 => p1 m1 H1 x (.refl _ _) cf1.hr ra
theorem s_retN : PS X (.Return none pos) (ts g W cRetN) := PS_imp ps_retN fun D σ H ⟨m, σc, h, cf, p⟩ => p m H .non (.refl m H) cf.hr mk_non
theorem s_if {c : Expr} {a b : List Stmt} (hc : PT X c (tt g W ft)) (ha : PSs X a (ts g W f)) (hb : PSs X b (ts g W u)) : PS X (.If c a b pos) (ts g W (cIfS ft f u)) := by
  refine PS_imp (ps_if hc ha hb) fun D σ H ⟨m, σc, h, cf, p⟩ => ?_
  refine ts_bind (R1 := Req) cf p fun b h1 m1 H1 x _ e1 cf1 rb p1 => ?_
  subst rb
  cases b with
  | true => exact ⟨m1, σc, h1, cf1, p1⟩
  | false => exact ⟨m1, σc, h1, cf1, p1⟩
theorem set_cf {m : List Addr} {σc : Env} {h : CH} {σ : L2.St} {H : Hp} {c : CV} {v : V} {i : Nat} {hx : Option HX} (n : NoHx hx [i]) (cf : Cf g hx m σc h σ H) (r : RelC g m H c v) : Cf g hx m (σc.set i (some c)) h (σ.set i (some v)) H :=
  ⟨cf.hr, cf.sr.set r i, cf.xr.slots n fun j hj => List.getElem?_set_ne (fun z => hj (by simp [z]))⟩
theorem s_asg (i : Nat) {x : Str} {pos' : Pos} (n : NoHx W.hx [i]) (hN : X.N.Nodup) (hi : X.N[i]? = some x) (hl : Loc X.env.scope x) (he : PE X e (te g W fe)) (hs : swapsWith e (some (.Name x pos')) pos.line X.env = pure false := by rfl)
    (hf : X.fn x = true ∨ X.env.scope.names.lookup x = some .local := by first | exact .inl rfl | exact .inr rfl | assumption) : PS X (.Assign [.Name x pos'] e pos) (ts g W (cAsg fe i)) := by
  refine PS_imp (ps_set hN hi hl he hs hf) fun D σ H ⟨m, σc, h, cf, p⟩ => ?_
  exact ts_bind cf p fun a h1 m1 H1 x _ e1 cf1 ra p1 => p1 m1 H1 _ (.refl _ _) (set_cf n cf1 ra)
theorem s_asgT {tg : Expr} {ix : List Nat} {t : MG} (n : NoHx W.hx ix) (he : PE X e (te g W fe)) (hg : PG X tg (tgt g W.hx ix t)) (hs : swapsWithSole [tg] e pos.line X.env = pure false := by rfl) (hw : swappedStores [tg] e X.env = pure none := by rfl)
    (h1 : (assignEach [tg] X.env).map (·.2) = [assign tg X.env] := by rfl) : PS X (.Assign [tg] e pos) (ts g W (cAsgT fe t)) := by
  refine PS_imp (ps_asg he hg hs hw h1) fun D σ H ⟨m, σc, h, cf, p⟩ => ?_
  refine ts_bind cf p fun a h1 m1 H1 x _ e1 cf1 ra p1 => ?_
  cases et : t a σc h1 with
  | none => rw [et] at p1; exact p1.elim
  | some σc1 =>
    rw [et] at p1
    exact ⟨m1, σc, h1, a, σc1, cf1, ra, et, fun σ1 s1 l1 k1 => p1 m1 H1 σ1 (.refl _ _) ⟨cf1.hr, s1, cf1.xr.slots n k1⟩⟩
theorem s_par (i j : Nat) {x y : Str} {a b : Expr} {px py pt : Pos} {kt k2 : Nat} {pt2 : Pos} (n : NoHx W.hx [i, j]) (hc : X.calm = true) (hN : X.N.Nodup) (hi : X.N[i]? = some x) (hj : X.N[j]? = some y) (hij : i ≠ j)
    (hx : X.env.scope.names.lookup x = some .local) (hy : X.env.scope.names.lookup y = some .local) (ha : PA X [a, b] (ta g W fs))
    (hw : swappedStores [.Tuple [.Name x px, .Name y py] kt pt] (.Tuple [a, b] k2 pt2) X.env = pure (some [x, y]) := by rfl)
    (hs : swapsWithSole [.Tuple [.Name x px, .Name y py] kt pt] (.Tuple [a, b] k2 pt2) pos.line X.env = pure false := by rfl) :
    PS X (.Assign [.Tuple [.Name x px, .Name y py] kt pt] (.Tuple [a, b] k2 pt2) pos) (ts g W (cPar i j fs)) := by
  refine PS_imp (ps_par hc hN hi hj hij hx hy ha hw hs) fun D σ H ⟨m, σc, h, cf, p⟩ => ?_
  refine ts_bind (R1 := RelCs g) cf p fun as h1 m1 H1 xs _ e1 cf1 ra p1 => ?_
  split at p1
  · obtain ⟨v, w, rfl, rv, rw'⟩ := as2 ra
    refine ⟨v, w, rfl, p1 m1 H1 _ (.refl _ _) ?_⟩
    refine set_cf (fun e he hm => n e he ?_) (set_cf (fun e he hm => n e he ?_) cf1 rv) rw'
    · simp at hm; simp [hm]
    · simp at hm; simp [hm]
  · exact p1.elim
theorem s_aug (i : Nat) {x : Str} {op : Operator} {fo : Int → Int → Int} {pos' : Pos} (n : NoHx W.hx [i]) (hN : X.N.Nodup) (hi : X.N[i]? = some x) (hl : Loc X.env.scope x) (he : PE X e (te g W fe)) (ho : PIp X op (ipI fo))
    (hf : X.fn x = true ∨ X.env.scope.names.lookup x = some .local := by first | exact .inl rfl | exact .inr rfl | assumption) : PS X (.AugAssign (.Name x pos') op e pos) (ts g W (cAug i fo fe)) := by
  refine PS_imp (ps_aug hN hi hl he ho hf) fun D σ H ⟨m, σc, h, cf, p⟩ => ?_
  unfold cAug at p
  split at p
  · rename_i a ea
    obtain ⟨v, ev, rv⟩ := cf.sr.2 i _ ea
    rw [rel_int rv] at ev
    refine ⟨_, ev, ts_bind cf p fun c h1 m1 H1 x _ e1 cf1 rc p1 => ?_⟩
    cases c <;> first | exact p1.elim | skip
    rw [rel_int rc]
    exact ⟨_, _, rfl, rfl, p1 m1 H1 _ (.refl _ _) (set_cf n cf1 mk_int)⟩
  · exact p.elim
end
/-! o[i] = v -/
def setIx (h : CH) (o i v : CV) : Option CH := match o, i with
  | .ref n, i => (match h[n]? with
    | some (.lst xs) => (match i with
      | .int k => (ixN xs.length k).map fun j => h.set n (.lst (xs.set j v))
      | _ => none)
    | _ => dPut h n i v)
  | _, _ => none
def cSetIx (fo fi fv : ME) : MS := fun σ h => (fv σ h).st σ fun v h1 => (fo σ h1).st σ fun o h2 => (fi σ h2).st σ fun i h3 => match setIx h3 o i v with
  | some h4 => .nx σ h4
  | none => .no
theorem s_setix {X : Cx} {W : Wd} {g : Gc} {k : Nat} {pos pos' : Pos} {o i e : Expr} {fo fi fe : ME} (hr : Rm k X.A) (ho : PE X o (te g W fo)) (hi : PE X i (te g W fi)) (he : PE X e (te g W fe))
    (ha : ∀ v, assign (.Subscript o i pos') X.env v = (do
      let ov ← holding [v] (eval o X.env)
      let iv ← holding [v, ov] (eval i X.env)
      standAt pos'
      holding [v, ov, iv] (setItem ov iv v)
      release [v, ov, iv] []) := by intro _; rfl)
    (hs : swapsWithSole [.Subscript o i pos'] e pos.line X.env = pure false := by rfl) (hw : swappedStores [.Subscript o i pos'] e X.env = pure none := by rfl)
    (h1 : (assignEach [.Subscript o i pos'] X.env).map (·.2) = [assign (.Subscript o i pos') X.env] := by rfl)
    (hs2 : swapsWith e (some (.Subscript o i pos')) pos.line X.env = pure false := by rfl) : PS X (.Assign [.Subscript o i pos'] e pos) (ts g W (cSetIx fo fi fe)) := by
  refine PS_imp (PS_or (ps_asg he (pg_sub ho hi set_list ha) hs hw h1) (ps_dput (hu_of hr.r) ho hi he hs2)) fun D σ H ⟨m, σc, h, cf, p⟩ => ?_
  by_cases kd : ∃ v h1 o h2 i h3 n xs, fe σc h = .ok v h1 ∧ fo σc h1 = .ok o h2 ∧ fi σc h2 = .ok i h3 ∧ o = .ref n ∧ h3[n]? = some (.lst xs)
  · obtain ⟨v, h1, o, h2, i, h3, n, xs, ev, eo, ei, rfl, en⟩ := kd
    refine .inl (ts_bind cf p fun v' h1' m1 H1 x q e1 cf1 rv p1 => ?_)
    rw [ev] at q; cases q
    refine ts_bind cf1 p1 fun o' h2' m2 H2 y q e2 cf2 ro p2 => ?_
    rw [eo] at q; cases q
    refine ts_bind cf2 p2 fun i' h3' m3 H3 z q e3 cf3 ri p3 => ?_
    rw [ei] at q; cases q
    dsimp only [setIx] at p3
    rw [en] at p3
    dsimp only at p3
    obtain ⟨kk, rfl⟩ : ∃ kk, i = .int kk := by
      cases i with
      | int kk => exact ⟨kk, rfl⟩
      | _ => exact p3.elim
    dsimp only at p3
    cases ej : ixN xs.length kk with
    | none => rw [ej] at p3; exact p3.elim
    | some j =>
      rw [ej] at p3
      obtain ⟨a, vs, rfl, ma, qa, rr⟩ := lst_at cf3.hr en (ro.mono e3)
      rw [rel_int ri]
      rw [rr.len] at ej
      refine ⟨a, vs, kk, j, rfl, rfl, qa, ej, ?_⟩
      have ex : Ext m3 H3 m3 (upd H3 a (.lst (vs.set j x))) := ext_put ma qa True.intro
      exact p3 m3 _ σ ex (cf3.next ex (cf3.hr.put ma qa True.intro ⟨_, upd_same, (rr.mono ex).set ((rv.mono (e2.trans e3)).mono ex) j⟩))
  · refine .inr (ts_bind cf p fun v' h1' m1 H1 x ev e1 cf1 rv p1 => ?_)
    refine ts_bind cf1 p1 fun o' h2' m2 H2 y eo e2 cf2 ro p2 => ?_
    refine ts_bind cf2 p2 fun i' h3' m3 H3 z ei e3 cf3 ri p3 => ?_
    unfold setIx at p3
    split at p3
    · rename_i h4 eq
      split at eq
      · rename_i n i2
        split at eq
        · rename_i xs en
          exact (kd ⟨_, _, _, _, _, _, _, _, ev, eo, ei, rfl, en⟩).elim
        · obtain ⟨a, H4, rfl, dp, ex, R4⟩ := dPut_rel cf3.hr eq (ro.mono e3) ri (rv.mono (e2.trans e3))
          exact ⟨a, H4, rfl, dp, p3 m3 H4 σ ex (cf3.next ex R4)⟩
      · cases eq
    · exact p3.elim
end Vm

/-! Vm8: a dict under a lock, loops, list comprehensions. -/
namespace Vm
open PySem PySem.Spec PyProof.Rows L2

/-! ### a lock -/
def lockC (h : CH) (n : Nat) : Option CH := match h[n]? with
  | some (.dK kvs) => some (h.set n (.fdK kvs))
  | some (.dT kvs) => some (h.set n (.fdT kvs))
  | _ => none
def unlockC (h : CH) (n : Nat) : Option CH := match h[n]? with
  | some (.fdK kvs) => some (h.set n (.dK kvs))
  | some (.fdT kvs) => some (h.set n (.dT kvs))
  | _ => none
def slotRef (σ : Env) (i : Nat) : Option Nat := match σ[i]? with
  | some (some (.ref n)) => some n
  | _ => none
def cLk (i : Nat) (f : ME) : ME := fun σ h => match slotRef σ i with
  | none => f σ h
  | some n => (match lockC h n with
    | none => f σ h
    | some h0 => (match f σ h0 with
      | .ok c h1 => (match unlockC h1 n with
        | some h2 => .ok c h2
        | none => .no)
      | _ => .no))
def unlockF (r : Fl) (n : Nat) : Fl := match r with
  | .nx σ h => (match unlockC h n with
    | some h2 => .nx σ h2
    | none => .no)
  | .rt c h => (match unlockC h n with
    | some h2 => .rt c h2
    | none => .no)
  | .bk σ h => (match unlockC h n with
    | some h2 => .bk σ h2
    | none => .no)
  | .ct σ h => (match unlockC h n with
    | some h2 => .ct σ h2
    | none => .no)
  | _ => .no
def cLkS (i : Nat) (f : MS) : MS := fun σ h => match slotRef σ i with
  | none => f σ h
  | some n => (match lockC h n with
    | none => f σ h
    | some h0 => unlockF (f σ h0) n)
theorem slotRef_rel {g : Gc} {m : List Addr} {H : Hp} {σc : Env} {σ : L2.St} {i n : Nat} (e : slotRef σc i = some n) (sr : SRel g m H σc σ) : ∃ a, σ[i]? = some (some (.ref a)) ∧ m[n]? = some a := by
  unfold slotRef at e
  split at e
  · rename_i k ek
    cases e
    obtain ⟨v, ev, rv⟩ := sr.2 i _ ek
    obtain ⟨a, rfl, ma⟩ := rel_ref rv
    exact ⟨a, ev, ma⟩
  · cases e
/-- what a locked dict is to H -/
structure LkOk (g : Gc) (m : List Addr) (n : Nat) (h : CH) (H : Hp) (h0 : CH) (d : Addr) (u : HO) : Prop where
  hd : H d = some u
  mu : L2.Mut (some u)
  md : m[n]? = some d
  nx : ∀ od, Ext m H m (upd H d (.frz od u)) → False ∨ True
  rel : ∀ od, HRel g m h0 (upd H d (.frz od u)) ∧ E0 m H m (upd H d (.frz od u))
  un : ∀ od m' H' h1 h2, Ext m (upd H d (.frz od u)) m' H' → HRel g m' h1 H' → unlockC h1 n = some h2 → H' d = some (.frz od u) ∧ Ext m H m' (upd H' d u) ∧ E0 m' H' m' (upd H' d u) ∧ HRel g m' h2 (upd H' d u)
theorem e0_upd {m : List Addr} {H : Hp} {d : Addr} {w o : HO} (h : H d = some w) (h1 : ∀ xs, w ≠ .tup xs) (h2 : ∀ o xs, w ≠ .frz o (.lst xs)) (h3 : ∀ xs, w ≠ .xd xs) : E0 m H m (upd H d o) := by
  refine ⟨List.prefix_refl m, ⟨fun a xs e => ?_, fun a o' u e => ?_, fun a xs e => ?_⟩⟩
  · rw [upd_ne (fun z => by rw [z, h] at e; cases e; exact h1 _ rfl)]; exact e
  · rw [upd_ne (fun z => by rw [z, h] at e; cases e; exact h2 _ _ rfl)]; exact e
  · rw [upd_ne (fun z => by rw [z, h] at e; cases e; exact h3 _ rfl)]; exact e
theorem ext_unlock {m m' : List Addr} {H H' : Hp} {d : Addr} {od : Obj} {u : HO} (dm : d ∈ m) (hd : H d = some u) (h1 : ∀ xs, u ≠ .tup xs) (h2 : ∀ o v, u ≠ .frz o v) (h3 : ∀ xs, u ≠ .xd xs) (h4 : ∀ xs, u ≠ .ext xs) (e : Ext m (upd H d (.frz od u)) m' H') : Ext m H m' (upd H' d u) := by
  have ne : ∀ {a w}, H a = some w → w ≠ u → a ≠ d := fun q z y => by rw [y, hd] at q; cases q; exact z rfl
  refine ⟨e.pre, ⟨fun a xs q => ?_, fun a o v q => ?_, fun a xs q => ?_, fun a xs q => ?_, fun a o q => ?_⟩, fun a w q z => ?_, fun a z => ?_⟩
  · have n := ne q (fun z => h1 _ z.symm)
    rw [upd_ne n]
    exact e.tk.t a xs (by rw [upd_ne n]; exact q)
  · have n := ne q (fun z => h2 _ _ z.symm)
    rw [upd_ne n]
    exact e.tk.f a o v (by rw [upd_ne n]; exact q)
  · have n := ne q (fun z => h3 _ z.symm)
    rw [upd_ne n]
    exact e.tk.x a xs (by rw [upd_ne n]; exact q)
  · have n := ne q (fun z => h4 _ z.symm)
    rw [upd_ne n]
    exact e.tk.e a xs (by rw [upd_ne n]; exact q)
  · obtain ⟨o1, q1⟩ := upd_some (p := d) (o := .frz od u) q
    obtain ⟨o2, q2⟩ := e.tk.s a _ q1
    exact upd_some q2
  · have n : a ≠ d := fun y => z (y ▸ dm)
    rw [upd_ne n]
    exact e.fr a w (by rw [upd_ne n]; exact q) z
  · rcases e.nw a z with y | y
    · exact .inl y
    · by_cases n : a = d
      · exact .inl (n ▸ dm)
      · rw [upd_ne n] at y
        exact .inr y
theorem lk_ok {g : Gc} {m : List Addr} {n : Nat} {h h0 : CH} {H : Hp} {d : Addr} (R : HRel g m h H) (e : lockC h n = some h0) (md : m[n]? = some d) : ∃ u, LkOk g m n h H h0 d u := by
  unfold lockC at e
  split at e
  · rename_i kvs en
    cases e
    obtain ⟨ws, q, rp⟩ := R.ob n _ d en md
    have x0 : ∀ od, E0 m H m (upd H d (.frz od (.dK ws))) := fun od => e0_upd q (fun _ z => nomatch z) (fun _ _ z => nomatch z) (fun _ z => nomatch z)
    refine ⟨.dK ws, q, True.intro, md, fun _ _ => .inr True.intro, fun od => ⟨?_, x0 od⟩, fun od m' H' h1 h2 ex R' eu => ?_⟩
    · exact R.put0 md (x0 od) ⟨od, ws, upd_same, rp.mono0 (x0 od)⟩
    · have fz := ex.tk.f _ _ _ (upd_same (H := H) (a := d) (o := .frz od (.dK ws)))
      have x1 : E0 m' H' m' (upd H' d (.dK ws)) := e0_upd fz (fun _ z => nomatch z) (fun _ _ z => by cases z) (fun _ z => nomatch z)
      have md' := ex.get md
      refine ⟨fz, ext_unlock (List.mem_iff_getElem?.mpr ⟨n, md⟩) q (fun _ z => nomatch z) (fun _ _ z => nomatch z) (fun _ z => nomatch z) (fun _ z => nomatch z) ex, x1, ?_⟩
      unfold unlockC at eu
      split at eu
      · rename_i kvs' en'
        cases eu
        obtain ⟨o', ws', q', rp'⟩ := R'.ob n _ d en' md'
        rw [fz] at q'
        cases q'
        exact R'.put0 md' x1 ⟨ws, upd_same, rp'.mono0 x1⟩
      · rename_i kvs' en'
        obtain ⟨o', ws', q', rp'⟩ := R'.ob n _ d en' md'
        rw [fz] at q'
        cases q'
      · cases eu
  · rename_i kvs en
    cases e
    obtain ⟨ws, q, rp⟩ := R.ob n _ d en md
    have x0 : ∀ od, E0 m H m (upd H d (.frz od (.dT ws))) := fun od => e0_upd q (fun _ z => nomatch z) (fun _ _ z => nomatch z) (fun _ z => nomatch z)
    refine ⟨.dT ws, q, True.intro, md, fun _ _ => .inr True.intro, fun od => ⟨?_, x0 od⟩, fun od m' H' h1 h2 ex R' eu => ?_⟩
    · exact R.put0 md (x0 od) ⟨od, ws, upd_same, rp.mono0 (x0 od)⟩
    · have fz := ex.tk.f _ _ _ (upd_same (H := H) (a := d) (o := .frz od (.dT ws)))
      have x1 : E0 m' H' m' (upd H' d (.dT ws)) := e0_upd fz (fun _ z => nomatch z) (fun _ _ z => by cases z) (fun _ z => nomatch z)
      have md' := ex.get md
      refine ⟨fz, ext_unlock (List.mem_iff_getElem?.mpr ⟨n, md⟩) q (fun _ z => nomatch z) (fun _ _ z => nomatch z) (fun _ z => nomatch z) (fun _ z => nomatch z) ex, x1, ?_⟩
      unfold unlockC at eu
      split at eu
      · rename_i kvs' en'
        obtain ⟨o', ws', q', rp'⟩ := R'.ob n _ d en' md'
        rw [fz] at q'
        cases q'
      · rename_i kvs' en'
        cases eu
        obtain ⟨o', ws', q', rp'⟩ := R'.ob n _ d en' md'
        rw [fz] at q'
        cases q'
        exact R'.put0 md' x1 ⟨ws, upd_same, rp'.mono0 x1⟩
      · cases eu
  · cases e
section
variable {X : Cx} {W : Wd} {g : Gc}
theorem v_lk (i : Nat) {e : Expr} {f : ME} (he : PE X e (te g W f)) : PE X e (te g W (cLk i f)) := by
  refine PE_imp (PE_or he (pe_lock he)) fun σ H Q ⟨m, σc, h, cf, p⟩ => ?_
  unfold cLk at p
  cases es : slotRef σc i with
  | none => rw [es] at p; exact .inl ⟨m, σc, h, cf, p⟩
  | some n =>
    rw [es] at p
    dsimp only at p
    cases el : lockC h n with
    | none => rw [el] at p; exact .inl ⟨m, σc, h, cf, p⟩
    | some h0 =>
      rw [el] at p
      dsimp only at p
      obtain ⟨d, _, md⟩ := slotRef_rel es cf.sr
      obtain ⟨u, L⟩ := lk_ok cf.hr el md
      refine .inr ⟨d, u, L.hd, L.mu, fun od => ?_⟩
      obtain ⟨R0, x0⟩ := L.rel od
      refine ⟨m, σc, h0, cf.next0 x0 R0, ?_⟩
      cases ef : f σc h0 with
      | no => rw [ef] at p; exact p.elim
      | ex k fs h1 => rw [ef] at p; exact p.elim
      | ok c h1 =>
        rw [ef] at p
        dsimp only at p
        cases eu : unlockC h1 n with
        | none => rw [eu] at p; exact p.elim
        | some h2 =>
          rw [eu] at p
          intro m' H' v ex R' rv
          obtain ⟨fz, ex2, x1, R2⟩ := L.un od m' H' h1 h2 ex R' eu
          exact ⟨fz, p m' _ v ex2 R2 (rv.mono0 x1)⟩
theorem s_lk (i : Nat) {st : Stmt} {f : MS} (he : PS X st (ts g W f)) : PS X st (ts g W (cLkS i f)) := by
  refine PS_imp (PS_or he (ps_lock he)) fun D σ H ⟨m, σc, h, cf, p⟩ => ?_
  unfold cLkS at p
  cases es : slotRef σc i with
  | none => rw [es] at p; exact .inl ⟨m, σc, h, cf, p⟩
  | some n =>
    rw [es] at p
    dsimp only at p
    cases el : lockC h n with
    | none => rw [el] at p; exact .inl ⟨m, σc, h, cf, p⟩
    | some h0 =>
      rw [el] at p
      dsimp only at p
      obtain ⟨d, _, md⟩ := slotRef_rel es cf.sr
      obtain ⟨u, L⟩ := lk_ok cf.hr el md
      refine .inr ⟨d, u, L.hd, L.mu, fun od => ?_⟩
      obtain ⟨R0, x0⟩ := L.rel od
      refine ⟨m, σc, h0, cf.next0 x0 R0, ?_⟩
      cases ef : f σc h0 with
      | no => rw [ef] at p; exact p.elim
      | ex k fs σ1 h1 => rw [ef] at p; exact p.elim
      | rt c h1 =>
        rw [ef] at p
        dsimp only [unlockF] at p
        cases eu : unlockC h1 n with
        | none => rw [eu] at p; exact p.elim
        | some h2 =>
          rw [eu] at p
          intro m' H' v ex R' rv
          obtain ⟨fz, ex2, x1, R2⟩ := L.un od m' H' h1 h2 ex R' eu
          exact ⟨fz, p m' _ v ex2 R2 (rv.mono0 x1)⟩
      | nx σ1 h1 =>
        rw [ef] at p
        dsimp only [unlockF] at p
        cases eu : unlockC h1 n with
        | none => rw [eu] at p; exact p.elim
        | some h2 =>
          rw [eu] at p
          intro m' H' σ' ex cf'
          obtain ⟨fz, ex2, x1, R2⟩ := L.un od m' H' h1 h2 ex cf'.hr eu
          exact ⟨fz, p m' _ σ' ex2 (cf'.next0 x1 R2)⟩
      | bk σ1 h1 =>
        rw [ef] at p
        dsimp only [unlockF] at p
        cases eu : unlockC h1 n with
        | none => rw [eu] at p; exact p.elim
        | some h2 =>
          rw [eu] at p
          intro m' H' σ' ex cf'
          obtain ⟨fz, ex2, x1, R2⟩ := L.un od m' H' h1 h2 ex cf'.hr eu
          exact ⟨fz, p m' _ σ' ex2 (cf'.next0 x1 R2)⟩
      | ct σ1 h1 =>
        rw [ef] at p
        dsimp only [unlockF] at p
        cases eu : unlockC h1 n with
        | none => rw [eu] at p; exact p.elim
        | some h2 =>
          rw [eu] at p
          intro m' H' σ' ex cf'
          obtain ⟨fz, ex2, x1, R2⟩ := L.un od m' H' h1 h2 ex cf'.hr eu
          exact ⟨fz, p m' _ σ' ex2 (cf'.next0 x1 R2)⟩
end

/-! ### for -/
def forS (t : MG) (f : MS) : List CV → MS
  | [] => fun σ h => .nx σ h
  | c :: cs => fun σ h => match t c σ h with
    | none => .no
    | some σ1 => (match f σ1 h with
      | .nx σ2 h2 => forS t f cs σ2 h2
      | .ct σ2 h2 => forS t f cs σ2 h2
      | .bk σ2 h2 => .nx σ2 h2
      | r => r)
def forG (it : It0) (t : MG) (f : MS) : Nat → Nat → MS
  | 0, _ => fun _ _ => .no
  | n + 1, i => fun σ h => match nxt it i h with
    | none => .no
    | some none => .nx σ h
    | some (some c) => (match t c σ h with
      | none => .no
      | some σ1 => (match f σ1 h with
        | .nx σ2 h2 => forG it t f n (i + 1) σ2 h2
        | .ct σ2 h2 => forG it t f n (i + 1) σ2 h2
        | .bk σ2 h2 => .nx σ2 h2
        | r => r))
theorem forG_st (t : MG) (f : MS) : ∀ (cs xs : List CV) (i : Nat), xs.drop i = cs → forG (.st xs) t f (cs.length + 1) i = forS t f cs
  | [], xs, i, e => by
    funext σ h
    have : xs[i]? = none := List.getElem?_eq_none_iff.mpr (List.drop_eq_nil_iff.mp e)
    unfold forG forS
    dsimp only [nxt]
    rw [this]
  | c :: cs, xs, i, e => by
    funext σ h
    have hi : xs[i]? = some c := by rw [← List.head?_drop, e]; rfl
    have hd : xs.drop (i + 1) = cs := by rw [← List.tail_drop, e]; rfl
    have ih := forG_st t f cs xs (i + 1) hd
    rw [List.length_cons]
    unfold forG forS
    dsimp only [nxt]
    rw [hi, ih]
def fuelOf (it : It0) (h : CH) : Nat := match it with
  | .st xs => xs.length + 1
  | .ls n => (match h[n]? with
    | some (.lst xs) => xs.length + 1000001
    | _ => 1)
def cFor (fi : MI) (t : MG) (f : MS) : MS := fun σ h => (fi σ h).st σ fun it h1 => match it with
  | .st xs => forS t f xs σ h1
  | .ls n => forG (.ls n) t f (fuelOf (.ls n) h1) 0 σ h1
/-! while -/
def whG (c : MT) (f : MS) : Nat → MS
  | 0 => fun _ _ => .no
  | n + 1 => fun σ h => (c σ h).st σ fun b h1 => if b = true then (match f σ h1 with
      | .nx σ2 h2 => whG c f n σ2 h2
      | .ct σ2 h2 => whG c f n σ2 h2
      | .bk σ2 h2 => .nx σ2 h2
      | r => r) else .nx σ h1
def cWhile (n : Nat) (c : MT) (f : MS) : MS := whG c f n
section
variable {X : Cx} {W : Wd} {g : Gc} {tg iter : Expr} {body : List Stmt} {pos : Pos} {fi : MI} {t : MG} {f : MS} {ix : List Nat}
theorem s_for (hp : PassesOwn (model X.prog X.w) X.A X.env X.xe) (hc : X.calm = true) (n : NoHx W.hx ix) (hi : PI X tg iter (ti g W fi)) (hg : PG X tg (tgt g W.hx ix t)) (hb : PSs X body (ts g W f))
    (hs : ∀ x, foldedSetIterable iter X.env x = pure x := by intro _; rfl) : PS X (.For tg iter body [] pos) (ts g W (cFor fi t f)) := by
  refine PS_imp (ps_for hp hc hi hg hb hs) fun D σ H ⟨m, σc, h, cf, p⟩ => ?_
  refine ts_bind (R1 := ItR g) cf p fun it h1 m1 H1 J _ e1 cf1 rJ p1 => ?_
  have p2 : ∃ N, PostS g m1 H1 (forG it t f N 0 σc h1) D W := by
    cases it with
    | st xs => exact ⟨xs.length + 1, by rw [forG_st t f xs xs 0 rfl]; exact p1⟩
    | ls k => exact ⟨_, p1⟩
  obtain ⟨N, p2⟩ := p2
  refine ⟨fun i mm σ' H' => ∃ m' σc' h', Ext m1 H1 m' H' ∧ Cf g W.hx m' σc' h' σ' H' ∧ PostS g m' H' (forG it t f mm i σc' h') D W, ⟨N, m1, σc, h1, .refl _ _, cf1, p2⟩, ?_⟩
  rintro i mm σ' H' ⟨m', σc', h', ex, cf', p'⟩
  cases mm with
  | zero => exact p'.elim
  | succ mm =>
    unfold forG at p'
    obtain ⟨r1, r2⟩ := rJ m' h' H' ex cf'.hr i
    cases en : nxt it i h' with
    | none => rw [en] at p'; exact p'.elim
    | some o =>
      rw [en] at p'
      cases o with
      | none => exact .inl ⟨r1 en, p' m' H' σ' (.refl _ _) cf'⟩
      | some c =>
        obtain ⟨go, yl⟩ := r2 c en
        refine .inr ⟨go, fun σ2 H2 => ∃ m2 σc2 h2, Ext m1 H1 m2 H2 ∧ Cf g W.hx m2 σc2 h2 σ2 H2 ∧ PostS g m2 H2 (forG it t f mm (i + 1) σc2 h2) D W, fun σ2 H2 q => ⟨mm, Nat.lt_succ_self _, q⟩, fun x H2 y => ?_⟩
        obtain ⟨e2, R2, rx⟩ := yl x H2 y
        dsimp only at p'
        cases et : t c σc' h' with
        | none => rw [et] at p'; exact p'.elim
        | some σc1 =>
          rw [et] at p'
          dsimp only at p'
          have cf2 := cf'.next e2 R2
          refine ⟨m', σc', h', c, σc1, cf2, rx, et, fun σ3 s3 l3 k3 => ?_⟩
          refine ⟨m', σc1, h', ⟨R2, s3, cf2.xr.slots n k3⟩, ?_⟩
          have ex2 := ex.trans e2
          cases ef : f σc1 h' with
          | no => rw [ef] at p'; exact p'.elim
          | nx σ4 h4 =>
            rw [ef] at p'
            exact fun m5 H5 σ5 e5 c5 => ⟨m5, σ4, h4, ex2.trans e5, c5, PostS.go p' (e2.trans e5)⟩
          | ct σ4 h4 =>
            rw [ef] at p'
            exact fun m5 H5 σ5 e5 c5 => ⟨m5, σ4, h4, ex2.trans e5, c5, PostS.go p' (e2.trans e5)⟩
          | bk σ4 h4 =>
            rw [ef] at p'
            exact fun m5 H5 σ5 e5 c5 => p' m5 H5 σ5 (e2.trans e5) c5
          | rt c4 h4 =>
            rw [ef] at p'
            exact fun m5 H5 v5 e5 => p' m5 H5 v5 (e2.trans e5)
          | ex k4 fs4 σ4 h4 =>
            rw [ef] at p'
            exact fun m5 H5 σ5 dd vs e5 => p' m5 H5 σ5 dd vs (e2.trans e5)
theorem s_while (N : Nat) {c : Expr} {fc : MT} (hp : PassesOwn (model X.prog X.w) X.A X.env X.xe) (hc : PT X c (tt g W fc)) (hb : PSs X body (ts g W f)) : PS X (.While c body [] pos) (ts g W (cWhile N fc f)) := by
  refine PS_imp (ps_while hp hc hb) fun D σ H ⟨m, σc, h, cf, p⟩ => ?_
  refine ⟨fun mm σ' H' => ∃ m' σc' h', Cf g W.hx m' σc' h' σ' H' ∧ PostS g m' H' (whG fc f mm σc' h') D W, ⟨N, m, σc, h, cf, p⟩, ?_⟩
  rintro mm σ' H' ⟨m', σc', h', cf', p'⟩
  cases mm with
  | zero => exact p'.elim
  | succ mm =>
    unfold whG at p'
    refine ts_bind (R1 := Req) cf' p' fun b h1 m1 H1 x _ e1 cf1 rb p1 => ?_
    subst rb
    cases b with
    | false => exact p1 m1 H1 σ' (.refl _ _) cf1
    | true =>
      refine ⟨fun σ2 H2 => ∃ m2 σc2 h2, Cf g W.hx m2 σc2 h2 σ2 H2 ∧ PostS g m2 H2 (whG fc f mm σc2 h2) D W, fun σ2 H2 q => ⟨mm, Nat.lt_succ_self _, q⟩, m1, σc', h1, cf1, ?_⟩
      rw [if_pos rfl] at p1
      cases ef : f σc' h1 with
      | no => rw [ef] at p1; exact p1.elim
      | nx σ4 h4 =>
        rw [ef] at p1
        exact fun m5 H5 σ5 e5 c5 => ⟨m5, σ4, h4, c5, PostS.go p1 e5⟩
      | ct σ4 h4 =>
        rw [ef] at p1
        exact fun m5 H5 σ5 e5 c5 => ⟨m5, σ4, h4, c5, PostS.go p1 e5⟩
      | bk σ4 h4 => rw [ef] at p1; exact p1
      | rt c4 h4 => rw [ef] at p1; exact p1
      | ex k4 fs4 σ4 h4 => rw [ef] at p1; exact p1
end
end Vm

/-! Vm9: list comprehensions. -/
namespace Vm
open PySem PySem.Spec PyProof.Rows L2

def wN : Wd := ⟨fun _ _ _ _ => False, none⟩
theorem XOk.blk {X : Cx} {W : Wd} {k : Nat} {s : Shared} {H : Hp} {scope : Scope} {cenv : PySem.Env} {fp : List Addr} (o : XOk X W k) : XOk (X.blk s H scope cenv fp) wN k := by
  refine ⟨fun u s' h => ?_, o.rm, o.calm, o.nd⟩
  unfold XE at h
  obtain ⟨σ', H', _, _, cls, d, _, hq⟩ := h
  revert hq
  simp [wN]
def wipeC (σ : Env) : List Nat → Env
  | [] => σ
  | v :: vs => (wipeC σ vs).set v none
theorem wipe_rel {g : Gc} {m : List Addr} {H : Hp} {σc : Env} {σ : L2.St} (h : SRel g m H σc σ) : ∀ vs : List Nat, SRel g m H (wipeC σc vs) (wipe σ vs)
  | [] => h
  | v :: vs => by
    have ih := wipe_rel h vs
    unfold wipeC wipe
    refine ⟨by rw [List.length_set, List.length_set]; exact ih.1, fun i c e => ?_⟩
    by_cases hv : v = i
    · subst hv
      rw [List.getElem?_set] at e
      simp at e
    · rw [List.getElem?_set_ne hv] at e ⊢
      exact ih.2 i c e
theorem wipe_at {σ : L2.St} : ∀ {vs : List Nat} {j : Nat}, (wipe σ vs)[j]? = if j ∈ vs then (if j < σ.length then some none else none) else σ[j]?
  | [], j => by simp [wipe]
  | v :: vs, j => by
    unfold wipe
    rw [List.getElem?_set, wipe_length]
    by_cases hv : v = j
    · subst hv
      simp
    · rw [if_neg hv, wipe_at]
      have : j ≠ v := fun z => hv z.symm
      simp [this]
theorem wipe_eq {σ σ2 : L2.St} {vs ix : List Nat} (hix : ∀ j ∈ ix, j ∈ vs) (hl : σ2.length = (wipe σ vs).length) (hk : ∀ j, j ∉ ix → σ2[j]? = (wipe σ vs)[j]?) : wipe σ2 vs = wipe σ vs := by
  apply List.ext_getElem?
  intro j
  rw [wipe_at, hl, wipe_length]
  by_cases hj : j ∈ vs
  · rw [if_pos hj, wipe_at, if_pos hj]
  · rw [if_neg hj, hk j (fun z => hj (hix j z))]
def Rs.bq {α β : Type} (x : Rs α) (f : α → CH → Rs β) : Rs β := match x with
  | .ok a h => f a h
  | _ => .no
/-- one step in a block, which never raises -/
theorem tg_bq {α β γ δ : Type} {R1 : Rl α β} {R2 : Rl γ δ} {g : Gc} {m : List Addr} {σc : Env} {h : CH} {σ : L2.St} {H : Hp} {f : Env → CH → Rs α} {k : α → CH → Rs γ} {Q : δ → Hp → Prop} {Q1 : β → Hp → Prop} {E : XK}
    (cf : Cf g none m σc h σ H) (p : PostG R2 g m H ((f σc h).bq k) Q E)
    (st : ∀ a h1 m1 H1 x, f σc h = .ok a h1 → Ext m H m1 H1 → Cf g none m1 σc h1 σ H1 → R1 m1 H1 a x → PostG R2 g m1 H1 (k a h1) Q E → Q1 x H1) : tg R1 g wN f σ H Q1 := by
  refine ⟨m, σc, h, cf, ?_⟩
  cases e : f σc h with
  | no => rw [e] at p; exact p.elim
  | ex kk fs h1 => rw [e] at p; exact p.elim
  | ok a h1 =>
    rw [e] at p
    exact fun m1 H1 x e1 R1 r1 => st a h1 m1 H1 x e e1 (cf.next e1 R1) r1 (PostG.go p e1)
def pushC (h : CH) (N : Nat) (y : CV) : Option CH := match h[N]? with
  | some (.lst xs) => if xs.length < line then some (h.set N (.lst (xs ++ [y]))) else none
  | _ => none
def lcG (it : It0) (t : MG) (c : MT) (e : ME) (N : Nat) : Nat → Nat → ME
  | 0, _ => fun _ _ => .no
  | n + 1, i => fun σ h => match nxt it i h with
    | none => .no
    | some none => .ok (.ref N) h
    | some (some x) => (match t x σ h with
      | none => .no
      | some σ1 => (c σ1 h).bq fun b h1 => if b = true then (e σ1 h1).bq fun y h2 => (match pushC h2 N y with
          | some h3 => lcG it t c e N n (i + 1) σ h3
          | none => .no)
        else lcG it t c e N n (i + 1) σ h1)
def lcS (t : MG) (c : MT) (e : ME) (N : Nat) : List CV → ME
  | [] => fun σ h => .ok (.ref N) h
  | x :: xs => fun σ h => (match t x σ h with
    | none => .no
    | some σ1 => (c σ1 h).bq fun b h1 => if b = true then (e σ1 h1).bq fun y h2 => (match pushC h2 N y with
        | some h3 => lcS t c e N xs σ h3
        | none => .no)
      else lcS t c e N xs σ h1)
theorem lcG_st (t : MG) (c : MT) (e : ME) (N : Nat) : ∀ (cs xs : List CV) (i : Nat), xs.drop i = cs → lcG (.st xs) t c e N (cs.length + 1) i = lcS t c e N cs
  | [], xs, i, q => by
    funext σ h
    have : xs[i]? = none := List.getElem?_eq_none_iff.mpr (List.drop_eq_nil_iff.mp q)
    unfold lcG lcS
    dsimp only [nxt]
    rw [this]
  | x :: cs, xs, i, q => by
    funext σ h
    have hi : xs[i]? = some x := by rw [← List.head?_drop, q]; rfl
    have hd : xs.drop (i + 1) = cs := by rw [← List.tail_drop, q]; rfl
    have ih := lcG_st t c e N cs xs (i + 1) hd
    rw [List.length_cons]
    unfold lcG lcS
    dsimp only [nxt]
    rw [hi, ih]
def cLc (fi : MI) (vs : List Nat) (t : MG) (c : MT) (e : ME) : ME := fun σ h => (fi σ h).bind fun it h1 => match it with
  | .st xs => lcS t c e h1.length xs (wipeC σ vs) (h1 ++ [.lst []])
  | .ls n => lcG (.ls n) t c e h1.length (fuelOf (.ls n) h1) 0 (wipeC σ vs) (h1 ++ [.lst []])
theorem push_rel {g : Gc} {m : List Addr} {h h3 : CH} {H : Hp} {N : Nat} {D : Addr} {y : CV} {v : V} (R : HRel g m h H) (mD : m[N]? = some D) (e : pushC h N y = some h3) (r : RelC g m H y v) :
    ∃ acc, H D = some (.lst acc) ∧ acc.length < sizeLine ∧ Ext m H m (upd H D (.lst (acc ++ [v]))) ∧ HRel g m h3 (upd H D (.lst (acc ++ [v]))) := by
  unfold pushC at e
  split at e
  · rename_i xs en
    split at e
    · rename_i hl
      cases e
      obtain ⟨vs, q, rr⟩ := R.ob N _ D en mD
      have ex : Ext m H m (upd H D (.lst (vs ++ [v]))) := ext_put mD q True.intro
      exact ⟨vs, q, by rw [← rr.len, line_eq]; exact hl, ex, R.put mD q True.intro ⟨_, upd_same, (rr.app (.one r)).mono ex⟩⟩
    · cases e
  · cases e
abbrev tts (g : Gc) (W : Wd) (f : MT) : TT := tg Req g W f
def cYes : MT := fun _ h => .ok true h
theorem PTs_imp {X : Cx} {e : List Expr} {t t' : TT} (h : PTs X e t) (i : ∀ σ H Q, t' σ H Q → t σ H Q) : PTs X e t' := ⟨fun pins s σ H Q I q => h.run pins s σ H Q I (i σ H Q q)⟩
theorem ts_nil {X : Cx} {W : Wd} {g : Gc} : PTs X [] (tts g W cYes) := PTs_imp pts_nil fun σ H Q ⟨m, σc, h, cf, p⟩ => OkP.here p cf.hr rfl
theorem ts_one {X : Cx} {W : Wd} {g : Gc} {c : Expr} {f : MT} (h : PT X c (tt g W f)) : PTs X [c] (tts g W f) := pts_one h
/-- the whole of a comprehension's reading -/
theorem lc_imp {W : Wd} {g : Gc} {fi : MI} {t : MG} {c : MT} {e : ME} {vs ix : List Nat} {σ : L2.St} {H : Hp} {Q : V → Hp → Prop} {Q2 : V → Hp → Prop} {m : List Addr} {σc : Env} {h : CH}
    (hix : ∀ j ∈ ix, j ∈ vs) (cf : Cf g W.hx m σc h σ H) (p : PostG (RelC g) g m H (cLc fi vs t c e σc h) Q (fun cls d H' => W.w cls d σ H')) (hQ : ∀ v H', Q v H' → Q2 v H') : tLc (ti g W fi) (tgt g none ix t) (tts g wN c) (te g wN e) vs σ H Q2 := by
  refine tg_bind (R1 := ItR g) (R2 := RelC g) cf p fun it h1 m1 H1 J _ e1 cf1 rJ p1 => ?_
  intro D hD
  have xD : Ext m1 H1 (m1 ++ [D]) (upd H1 D (.lst [])) := ext_alloc hD
  have RD : HRel g (m1 ++ [D]) (h1 ++ [.lst []]) (upd H1 D (.lst [])) := cf1.hr.alloc hD ⟨[], upd_same, mks_nil⟩
  have mD : (m1 ++ [D])[h1.length]? = some D := new_at cf1.hr D
  have p2 : ∃ N, PostG (RelC g) g (m1 ++ [D]) (upd H1 D (.lst [])) (lcG it t c e h1.length N 0 (wipeC σc vs) (h1 ++ [.lst []])) Q (fun cls d H' => W.w cls d σ H') := by
    cases it with
    | st xs => exact ⟨xs.length + 1, by rw [lcG_st t c e h1.length xs xs 0 rfl]; exact PostG.go p1 xD⟩
    | ls k => exact ⟨_, PostG.go p1 xD⟩
  obtain ⟨N, p2⟩ := p2
  have cfD : Cf g none (m1 ++ [D]) (wipeC σc vs) (h1 ++ [.lst []]) (wipe σ vs) (upd H1 D (.lst [])) := ⟨RD, wipe_rel (cf1.sr.mono xD) vs, HxR.none⟩
  generalize wipeC σc vs = σw at p2 cfD
  refine ⟨fun i mm H' => ∃ m' h', Ext (m1 ++ [D]) (upd H1 D (.lst [])) m' H' ∧ Cf g none m' σw h' (wipe σ vs) H' ∧ PostG (RelC g) g m' H' (lcG it t c e h1.length mm i σw h') Q (fun cls d H' => W.w cls d σ H'), ⟨N, _, _, .refl _ _, cfD, p2⟩, ?_⟩
  rintro i mm H' ⟨m', h', ex, cf', p'⟩
  have mD' := ex.get mD
  cases mm with
  | zero => exact p'.elim
  | succ mm =>
    unfold lcG at p'
    obtain ⟨r1, r2⟩ := rJ m' h' H' (xD.trans ex) cf'.hr i
    cases en : nxt it i h' with
    | none => rw [en] at p'; exact p'.elim
    | some o =>
      rw [en] at p'
      cases o with
      | none => exact .inl ⟨r1 en, hQ _ _ (OkP.here p' cf'.hr (mk_ref mD'))⟩
      | some x =>
        obtain ⟨go, yl⟩ := r2 x en
        refine .inr ⟨go, fun H2 => ∃ m2 h2, Ext (m1 ++ [D]) (upd H1 D (.lst [])) m2 H2 ∧ Cf g none m2 σw h2 (wipe σ vs) H2 ∧ PostG (RelC g) g m2 H2 (lcG it t c e h1.length mm (i + 1) σw h2) Q (fun cls d H' => W.w cls d σ H'), fun H2 q => ⟨mm, Nat.lt_succ_self _, q⟩, fun v H2 y => ?_⟩
        obtain ⟨e2, R2, rx⟩ := yl v H2 y
        dsimp only at p'
        cases et : t x σw h' with
        | none => rw [et] at p'; exact p'.elim
        | some σc1 =>
          rw [et] at p'
          dsimp only at p'
          have cf2 := cf'.next e2 R2
          have ex2 := ex.trans e2
          refine ⟨m', σw, h', x, σc1, cf2, rx, et, fun σ3 s3 l3 k3 => ⟨wipe_eq hix l3 k3, ?_⟩⟩
          have cf3 : Cf g none m' σc1 h' σ3 H2 := ⟨R2, s3, HxR.none⟩
          refine tg_bq (R2 := RelC g) cf3 (PostG.go p' e2) fun b h4 m4 H4 z _ e4 cf4 rb p4 => ?_
          subst rb
          have sw4 : SRel g m4 H4 σw (wipe σ vs) := cf2.sr.mono e4
          cases b with
          | false =>
            rw [if_neg Bool.false_ne_true] at p4
            rw [if_neg Bool.false_ne_true]
            exact ⟨m4, h4, ex2.trans e4, ⟨cf4.hr, sw4, HxR.none⟩, p4⟩
          | true =>
            rw [if_pos rfl] at p4
            rw [if_pos rfl]
            refine tg_bq (R2 := RelC g) cf4 p4 fun y5 h5 m5 H5 z5 _ e5 cf5 ry p5 => ?_
            cases ep : pushC h5 h1.length y5 with
            | none => rw [ep] at p5; exact p5.elim
            | some h6 =>
              rw [ep] at p5
              obtain ⟨acc, qD, hl, x6, R6⟩ := push_rel cf5.hr ((e4.trans e5).get mD') ep ry
              exact ⟨acc, qD, hl, m5, h6, ((ex2.trans e4).trans e5).trans x6, ⟨R6, (sw4.mono e5).mono x6, HxR.none⟩, PostG.go p5 x6⟩
section
variable {X : Cx} {W : Wd} {g : Gc} {tg iter elt : Expr} {ifs : List Expr} {scope : Scope} {pos : Pos} {fi : MI} {t : MG} {c : MT} {e : ME} {ix : List Nat} {own : List (Str × Nat)}
theorem v_lc (hc : X.calm = true) (hN : X.N.Nodup) (own : List (Str × Nat)) (hix : ∀ j ∈ ix, j ∈ own.map (·.2)) (hb : blkC X.N X.env.scope scope own = true) (hi : PI X tg iter (ti g W fi))
    (hg : ∀ (s : Shared) (H : Hp) (C : Addr) (cl : List (Str × Addr)) (fp : List Addr), PG (X.blk s H scope (compEnvC scope cl C X.env) fp) tg (tgt g none ix t))
    (ht : ∀ (s : Shared) (H : Hp) (C : Addr) (cl : List (Str × Addr)) (fp : List Addr), PTs (X.blk s H scope (compEnvC scope cl C X.env) fp) ifs (tts g wN c))
    (he : ∀ (s : Shared) (H : Hp) (C : Addr) (cl : List (Str × Addr)) (fp : List Addr), PE (X.blk s H scope (compEnvC scope cl C X.env) fp) elt (te g wN e))
    (hs : ∀ x, foldedSetIterable iter X.env x = pure x := by intro _; rfl) : PE X (.ListComp elt [⟨tg, iter, ifs, 0⟩] scope pos) (te g W (cLc fi (own.map (·.2)) t c e)) :=
  PE_imp (pe_lc hc hN hi (blkOk_by hb) hg ht he hs) fun σ H Q ⟨m, σc, h, cf, p⟩ => lc_imp hix cf p fun _ _ q => q
theorem s_asgLc (i : Nat) {y : Str} {py spos : Pos} (n : NoHx W.hx [i]) (hc : X.calm = true) (hN : X.N.Nodup) (hy : X.N[i]? = some y) (hyl : X.env.scope.names.lookup y = some .local)
    (hsw : swapsWith (.ListComp elt [⟨tg, iter, ifs, 0⟩] scope pos) (some (.Name y py)) spos.line X.env = pure true) (own : List (Str × Nat)) (hix : ∀ j ∈ ix, j ∈ own.map (·.2)) (hb : blkC X.N X.env.scope scope own = true) (hi : PI X tg iter (ti g W fi))
    (hg : ∀ (s : Shared) (H : Hp) (C : Addr) (cl : List (Str × Addr)) (fp : List Addr), PG (X.blk s H scope (compEnvC scope cl C X.env) fp) tg (tgt g none ix t))
    (ht : ∀ (s : Shared) (H : Hp) (C : Addr) (cl : List (Str × Addr)) (fp : List Addr), PTs (X.blk s H scope (compEnvC scope cl C X.env) fp) ifs (tts g wN c))
    (he : ∀ (s : Shared) (H : Hp) (C : Addr) (cl : List (Str × Addr)) (fp : List Addr), PE (X.blk s H scope (compEnvC scope cl C X.env) fp) elt (te g wN e))
    (hs : ∀ x, foldedSetIterable iter X.env x = pure x := by intro _; rfl) : PS X (.Assign [.Name y py] (.ListComp elt [⟨tg, iter, ifs, 0⟩] scope pos) spos) (ts g W (cAsg (cLc fi (own.map (·.2)) t c e) i)) := by
  refine PS_imp (ps_setLc hc hN hy hyl hsw hi (blkOk_by hb) hg ht he hs) fun D σ H ⟨m, σc, h, cf, p⟩ => ?_
  have p1 : PostG (RelC g) g m H (cLc fi (own.map (·.2)) t c e σc h) (fun v H1 => ∃ m1 h1 a, Cf g W.hx m1 σc h1 σ H1 ∧ RelC g m1 H1 a v ∧ PostS g m1 H1 (.nx (σc.set i (some a)) h1) D W) (fun cls d H' => W.w cls d σ H') := by
    unfold cAsg at p
    cases ef : cLc fi (own.map (·.2)) t c e σc h with
    | no => rw [ef] at p; exact p.elim
    | ex k fs h1 =>
      rw [ef] at p
      exact fun m1 H1 dd vs e1 R1 x1 r1 => p m1 H1 σ dd vs e1 (cf.next e1 R1) x1 r1
    | ok a h1 =>
      rw [ef] at p
      exact fun m1 H1 v e1 R1 r1 => ⟨m1, h1, a, cf.next e1 R1, r1, PostS.go p e1⟩
  refine lc_imp hix cf p1 fun v H1 ⟨m1, h1, a, cf1, ra, p2⟩ => p2 m1 H1 _ (.refl _ _) (set_cf n cf1 ra)
end
end Vm

/-! Vm10: what a suite may ask of the error it holds; try with several clauses, each with a name or without. -/
namespace Vm
open PySem PySem.Spec PyProof.Rows L2

/-! ### the class of a held error, asked of an error that has its dict -/
section
open PySem.W PySem.Calls
variable {prog : Program} {w : World} {A : Around} {E : Value → Shared → Prop} {s : Shared} {K : Frag} {x D : Addr} {ox : Obj} {od : Option Obj}
theorem own_bind {name : Str} {a g : Value} (hc : (clsIn K D).isSome = true) (ha : findIn K (.ref D) name = some (some a)) (hg : specialIn K a "__get__" = some (some g))
    (ht : takesIn K a = some true) : findObj K D od name = some (.bind g a) := by
  unfold findObj
  obtain ⟨cd, e⟩ := Option.isSome_iff_exists.mp hc
  rw [e, Option.bind_some]
  rw [ha, Option.bind_some]
  simp [hg, ht]
theorem own_class {Q : Option Value → Shared → Prop} (c : ExcC K D) (X : K.In s.heap) (I : InstAt s.heap x ox D od)
    (h : Q (some (.ref D)) { s with toks := s.toks + 1 }) : wpAny (model prog w) A (getAttr? (.ref x) "__class__") Q E s := by
  have fo : findObj K D od "__class__" = some (.bind (.builtin "getset_descriptor.__get__") (.builtin "object.__class__")) :=
    own_bind (by obtain ⟨cd, e, _⟩ := any_some c.hd; rw [e]; rfl) c.ha c.hn c.ht
  obtain ⟨hp, gs, dr, tk, os⟩ := s
  have T0 := I.type (M := model prog w)
  have T1 := looks_findIn (M := model prog w) X c.hg
  have T2 := looks_findIn (M := model prog w) X c.hk
  have T3 := looks_find (M := model prog w) X I fo
  have tb : Looks (model prog w) hp (isInstance (.ref x) (.type "BaseException")) true := T0.andThen (looks_subIn X c.hs)
  have n0 : (false && onTheHeap (Value.builtin "BaseException.__getattribute__")) = false := rfl
  have n1 : (onTheHeap (Value.ref D) && Value.builtin "BaseException.__getattribute__" == Value.builtin "object.__getattribute__") = false := by
    rw [show (Value.builtin "BaseException.__getattribute__" == Value.builtin "object.__getattribute__") = false by decide +kernel] <;> rfl
  unfold getAttr?
  unfold getAttrBy?
  unfold getAttrBy
  refine wpAny_bind (wpAny_mkText ?_)
  refine wpAny_bind (wpAny_attempt (wpAny_holding ?_))
  refine wpAny_bind (T0.at (wpAny_bind (T1.at ?_)))
  show wpAny _ _ (if (onTheHeap (Value.ref D) && Value.builtin "BaseException.__getattribute__" == Value.builtin "object.__getattribute__") = true
    then _ else _) _ _ _
  rw [n1]
  rw [if_neg Bool.false_ne_true]
  unfold getAttrByItsOwn
  unfold hookBefore
  refine wpAny_bind ?_
  rw [if_pos (show onTheHeap (Value.ref D) = true from rfl)] <;> refine T2.at ?_
  refine wpAny_bind (wpAny_attempt ?_)
  refine wpAny_holding ?_
  unfold callGetattribute
  rw [n0]
  rw [if_neg Bool.false_ne_true]
  unfold boundAndCalled
  rw [PySem.F.excAttr_ValueError.ga.bind (.ref x)] <;> refine wpAny_bind (wpAny_pure ?_)
  show wpAny _ _ (call (.builtin "BaseException.__getattribute__")
    [.ref x, .str "__class__" tk]) _ _ _
  refine wpAny_call ?_
  refine codeAny_call_builtin PySem.F.excAttr_ValueError.ga.plain PySem.F.entry_bexc_ga ?_
  refine @check_slot (model prog w) _ _ ⟨hp, gs, dr, tk + 1, os⟩ "BaseException.__getattribute__" "BaseException" "__getattribute__" (.ref x)
    [.str "__class__" tk] [] _ (by decide +kernel) (by decide +kernel) tb (PySem.F.args_bexc_ga (.ref x) (.str "__class__" tk)) ?_
  unfold Builtin.«object.__getattribute__»
  refine wpAny_bind (wpAny_of_eq (a := ((Value.ref x : Value), [Value.str "__class__" tk]))
    (by first | rfl | (simp only [slotArgs]; rfl)) ?_)
  refine wpAny_bind ?_
  refine wpAny_pure ?_
  refine wpAny_bind (T0.at (wpAny_bind (T3.at ?_)))
  show wpAny _ _ (holding [Value.builtin "object.__class__"]
    (call (.builtin "getset_descriptor.__get__") [.builtin "object.__class__", .ref x, .ref D]) >>= ret) _ _ _
  refine wpAny_bind (wpAny_holding ?_)
  refine wpAny_call ?_
  refine class_get (s := ⟨hp, gs, dr, tk + 1, os⟩) (ox := ox) (od := od) X I c.hm ?_
  refine wpAny_pure ?_
  show wpAny _ _ (handedOut (.ref D)) _ _ _
  rw [handedOut_of (v := .ref D) rfl] <;> first
    | exact wpAny_pure h
    | exact wpAny_pure (wpAny_pure h)
    | exact wpAny_pure (wpAny_bind (wpAny_pure (wpAny_pure h)))
theorem own_kit (c : ExcC K D) : KitX K (.ref x) (.ref D) (fun h => InstAt h x ox D od) where
  ty := fun _ _ _ J => J.type
  ca := fun X J k => own_class c X J k
  it := fun _ _ X _ => by
    obtain ⟨cd, e, _⟩ := any_some c.hd
    unfold clsIn at e
    split at e
    · rename_i c1 d1 cd1 sl1 ho
      intro A1 Q1 E1 s1 k q
      unfold isType
      unfold loadHead
      exact wpAny_bind (wpAny_loadPart (k _ _ (X _ _ ho)) (wpAny_pure q))
    · cases e
  ne := fun h tp dd its n sl X htp => by
    refine Bool.eq_false_iff.mpr fun q => ?_
    obtain rfl : D = tp := Value.ref.inj (beq_iff_eq.mp q)
    obtain ⟨cd, e, _⟩ := any_some c.hd
    unfold clsIn at e
    split at e
    · rename_i c1 d1 cd1 sl1 ho
      have z := (X _ _ ho).symm.trans htp
      cases z
    · cases e
end
theorem call_isH {X : Cx} {a D dd : Addr} {oe : Obj} {pn : List (Addr × Obj)} (C : ExcC X.K D) (hz : Zc (.ref D) (some dd) oe) (hf : ∃ vs, oe.data = .fields vs) :
    CallR (X.suite a ((a, oe) :: pn)) (.builtin "isinstance") (fun xs H Q => (∃ ws, H dd = some (.xd ws)) ∧ rIsE X.K D a xs H Q) := by
  intro pins s σ H xs us Q I r ⟨⟨ws, hdd⟩, h⟩
  obtain ⟨c, cv, b, rfl, hcv, e, q⟩ := h
  rcases r with _ | ⟨rx, _ | ⟨rt, _ | ⟨_, _⟩⟩⟩
  cases rx
  have ec := hcv _ rt
  subst ec
  obtain ⟨hget, _⟩ := I.pin (a, oe) (List.mem_append.mpr (.inl List.mem_cons_self))
  obtain ⟨vs, hv⟩ := hf
  have hx : ObjOk X.prog X.w H s.heap dd (.xd ws) := I.hok dd _ hdd
  obtain ⟨mA, hns, hr⟩ := hx
  obtain ⟨od, hod, _⟩ := lookIn_ns hns
  have J : PySem.W.InstAt s.heap a oe D (some od) := by
    obtain ⟨h1, h2⟩ := hz
    exact ⟨hget, h1, by unfold PySem.W.notCls; rw [hv] <;> rfl, by rw [h2]; exact hod⟩
  exact PySem.W.kia_one (own_kit C) I.kIn J e (fun z => nomatch z) fun tk => ⟨.bl b, H, I.kept (t' := tk) fun _ _ z => z, rfl, q⟩

/-! ### the error's fields and its class, by the machine -/
abbrev wH (g : Gc) (i : Nat) (a d : Addr) (k : Nat) (fs : List (Str × CV)) : Wd := ⟨fun _ _ _ _ => False, some ⟨i, a, d, k, fs⟩⟩
def cXf (f : Str) (fs : List (Str × CV)) : ME := fun _ h => match fs.lookup f with
  | some c => .ok c h
  | none => .no
def cIsE (tb : List Bool) (k : Nat) : ME := fun _ h => match tb[k]? with
  | some b => .ok (.bl b) h
  | none => .no
theorem RelP.look {g : Gc} {m : List Addr} {H : Hp} {f : Str} : ∀ {fs : List (Str × CV)} {ws : List (Str × V)} {c : CV}, RelP g m H fs ws → fs.lookup f = some c → ∃ v, ws.lookup f = some v ∧ RelC g m H c v
  | p :: fs, ws, c, h, e => by
    obtain ⟨v, r, rfl, h1, h2⟩ := h
    obtain ⟨n, d⟩ := p
    rw [List.lookup_cons] at e ⊢
    cases hb : f == n with
    | true =>
      rw [hb] at e
      cases e
      exact ⟨v, rfl, h1⟩
    | false =>
      rw [hb] at e
      exact RelP.look h2 e
section
variable {X : Cx} {g : Gc} {a d : Addr} {k i : Nat} {oe : Obj} {pn : List (Addr × Obj)} {fs : List (Str × CV)} {x : Str} {pos p p1 p2 : Pos}
theorem v_xf {f : Str} (T : ∀ k, XfC X.K (g.C k)) (hno : ∀ k, PySem.W.findIn X.K (.ref (g.C k)) f = some none) (hz : Zc (.ref (g.C k)) (some d) oe) (hf : ∃ vs, oe.data = .fields vs)
    (hN : X.N[i]? = some x) (hv : Vis X.env.scope x) (hd : (x == ("__debug__" : Str)) = false := by decide) (hcd : (x == ("__classdict__" : Str)) = false := by decide)
    (hb : attributeBase (.Name x p) f X.env (eval (.Name x p) X.env) = eval (.Name x p) X.env := by rfl) :
    PE (X.suite a ((a, oe) :: pn)) (.Attribute (.Name x p) f pos) (te g (wH g i a d k fs) (cXf f fs)) := by
  refine PE_imp (pe_xf (T k) (hno k) hz hf (pe_var (X := X.suite a ((a, oe) :: pn)) (i := i) hN hv hd hcd) hb) fun σ H Q ⟨m, σc, h, cf, q⟩ => ?_
  obtain ⟨h1, vs, h2, h3⟩ := cf.xr _ rfl
  unfold cXf at q
  split at q
  · rename_i c ec
    obtain ⟨v, e1, e2⟩ := h3.look ec
    exact ⟨_, h1, rfl, rfl, d, vs, v, rfl, h2, e1, OkP.here q cf.hr e2⟩
  · exact q.elim
theorem v_isE {tb : List Bool} {v : V} {cv : Value} {e2 : Expr} (C : ∀ k, ExcC X.K (g.C k)) (ht : ∀ k b, tb[k]? = some b → PySem.W.kitOne X.K (.ref (g.C k)) cv = some b) (hcv : ∀ u, RelV v u → u = cv)
    (hz : Zc (.ref (g.C k)) (some d) oe) (hf : ∃ vs, oe.data = .fields vs) (he2 : PE (X.suite a ((a, oe) :: pn)) e2 (tC v)) (hg : Gl X "isinstance") (hm : X.mg "isinstance" = none) (hboot : bootBuiltins "isinstance" = some (.builtin "isinstance"))
    (hN : X.N[i]? = some x) (hv : Vis X.env.scope x) (hd : (x == ("__debug__" : Str)) = false := by decide) (hcd : (x == ("__classdict__" : Str)) = false := by decide)
    (hs : starEach [.Name x p1, e2] X.env = (false, eval (.Name x p1) X.env) :: starEach [e2] X.env := by rfl) (hs2 : starEach [e2] X.env = [(false, eval e2 X.env)] := by rfl) (hp : (backTo pos (starEach [e2] X.env)).any (·.1) = false := by rfl) :
    PE (X.suite a ((a, oe) :: pn)) (.Call (.Name "isinstance" p) [.Name x p1, e2] [] pos) (te g (wH g i a d k fs) (cIsE tb k)) := by
  refine PE_imp (pe_callB (X := X.suite a ((a, oe) :: pn)) (call_isH (C k) hz hf) hg hm hboot (pa_cons (pe_var (X := X.suite a ((a, oe) :: pn)) (i := i) hN hv hd hcd) (pa_cons he2 pa_nil hs2) hs) (by decide) (by decide) hs hp) fun σ H Q ⟨m, σc, h, cf, q⟩ => ?_
  obtain ⟨h1, vs, h2, h3⟩ := cf.xr _ rfl
  unfold cIsE at q
  split at q
  · rename_i b eb
    exact ⟨_, h1, ⟨vs, h2⟩, v, cv, b, rfl, hcv, ht k b eb, OkP.here q cf.hr mk_bl⟩
  · exact q.elim
end

/-! ### try -/
structure Hd where
  tb : List Bool
  nm : Option Nat
  su : Nat → List (Str × CV) → MS
def endN (i : Nat) : Fl → Fl
  | .nx σ h => .nx (σ.set i none) h
  | .bk σ h => .bk (σ.set i none) h
  | .ct σ h => .ct (σ.set i none) h
  | .rt c h => .rt c h
  | _ => .no
def endP : Fl → Fl
  | .ex _ _ _ _ => .no
  | r => r
def cHds : List Hd → Nat → List (Str × CV) → MS
  | [], k, fs => fun σ h => .ex k fs σ h
  | d :: r, k, fs => fun σ h => match d.tb[k]? with
    | none => .no
    | some false => cHds r k fs σ h
    | some true => (match d.nm with
      | none => endP (d.su k fs σ h)
      | some i => endN i (d.su k fs (σ.set i none) h))
def cTry (f : MS) (l : List Hd) : MS := fun σ h => match f σ h with
  | .ex k fs σ1 h1 => cHds l k fs σ1 h1
  | r => r
abbrev wF : Wd := ⟨fun _ _ _ _ => False, none⟩
inductive HvOk (X : Cx) (g : Gc) : List ExceptHandler → List Hd → Prop
  | nil : HvOk X g [] []
  | plain {x : Str} {c : Value} {tb : List Bool} {su : Nat → List (Str × CV) → MS} {b₀ : Stmt} {suite : List Stmt} {np pos' : Pos} {hds : List ExceptHandler} {l : List Hd} (hc : Names X x c)
      (ht : ∀ k b, tb[k]? = some b → PySem.W.exmOne X.K (.ref (g.C k)) c = some b)
      (hsu : ∀ (a d : Addr) (oe : Obj) (k : Nat) (fs : List (Str × CV)) (pn : List (Addr × Obj)), Zc (.ref (g.C k)) (some d) oe → (∃ vs, oe.data = .fields vs) → PSs (X.suite a ((a, oe) :: pn)) (b₀ :: suite) (ts g wF (su k fs))) (r : HvOk X g hds l) :
      HvOk X g (.ExceptHandler (some (.Name x np)) none (b₀ :: suite) pos' :: hds) (⟨tb, none, su⟩ :: l)
  | as {x n : Str} {c : Value} {i : Nat} {tb : List Bool} {su : Nat → List (Str × CV) → MS} {b₀ : Stmt} {suite : List Stmt} {np pos' : Pos} {hds : List ExceptHandler} {l : List Hd} (hc : Names X x c)
      (ht : ∀ k b, tb[k]? = some b → PySem.W.exmOne X.K (.ref (g.C k)) c = some b) (hi : X.N[i]? = some n) (hln : X.env.kindOf n = some .local)
      (hsu : ∀ (a d : Addr) (oe : Obj) (k : Nat) (fs : List (Str × CV)) (pn : List (Addr × Obj)), Zc (.ref (g.C k)) (some d) oe → (∃ vs, oe.data = .fields vs) → PSs (X.suite a ((a, oe) :: pn)) (b₀ :: suite) (ts g (wH g i a d k fs) (su k fs))) (r : HvOk X g hds l) :
      HvOk X g (.ExceptHandler (some (.Name x np)) (some n) (b₀ :: suite) pos' :: hds) (⟨tb, some i, su⟩ :: l)
theorem endP_ok {g : Gc} {m : List Addr} {H : Hp} {D : Ends} {W : Wd} (nh : W.hx = none) : ∀ {r : Fl}, PostS g m H (endP r) D W → PostS g m H r D wF
  | .nx σ h, p => fun m' H' σ' e c => p m' H' σ' e (by rw [nh]; exact c)
  | .bk σ h, p => fun m' H' σ' e c => p m' H' σ' e (by rw [nh]; exact c)
  | .ct σ h, p => fun m' H' σ' e c => p m' H' σ' e (by rw [nh]; exact c)
  | .rt c h, p => p
  | .ex _ _ _ _, p => p.elim
  | .no, p => p.elim
def endsN (D : Ends) (i : Nat) : Ends where
  nx := fun σ H => D.nx (σ.set i none) H
  rt := D.rt
  bk := fun σ H => D.bk (σ.set i none) H
  ct := fun σ H => D.ct (σ.set i none) H
theorem cf_out {g : Gc} {hx : Option HX} {m : List Addr} {σc : Env} {h : CH} {σ : L2.St} {H : Hp} (c : Cf g hx m σc h σ H) (i : Nat) (o : Option V) : Cf g none m (σc.set i none) h (σ.set i o) H :=
  ⟨c.hr, c.sr.unset i o, HxR.none⟩
theorem endN_ok {g : Gc} {m : List Addr} {H : Hp} {D : Ends} {W : Wd} {i k : Nat} {a d : Addr} {fs : List (Str × CV)} (nh : W.hx = none) : ∀ {r : Fl}, PostS g m H (endN i r) D W → PostS g m H r (endsN D i) (wH g i a d k fs)
  | .nx σ h, p => fun m' H' σ' e c => p m' H' _ e (by rw [nh]; exact cf_out c i none)
  | .bk σ h, p => fun m' H' σ' e c => p m' H' _ e (by rw [nh]; exact cf_out c i none)
  | .ct σ h, p => fun m' H' σ' e c => p m' H' _ e (by rw [nh]; exact cf_out c i none)
  | .rt c h, p => p
  | .ex _ _ _ _, p => p.elim
  | .no, p => p.elim
/-- what the clauses wish of an error of the body -/
def wT (g : Gc) (W : Wd) (D : Ends) (l : List Hd) : WX := fun cls d σ H => ∃ k dd m σc h fs vs, cls = .ref (g.C k) ∧ d = some dd ∧ Cf g none m σc h σ H ∧ H dd = some (.xd vs) ∧ RelP g m H fs vs ∧ PostS g m H (cHds l k fs σc h) D W
section
variable {X : Cx} {g : Gc} {W : Wd} {body : List Stmt} {h₀ : ExceptHandler} {hds : List ExceptHandler} {l : List Hd} {pos : Pos} {f : MS}
theorem s_try (hs : X.stack = X.env :: X.outer) (hf : X.env.frame = some X.env.locals) (nd : X.N.Nodup) (tk : Takes X W.w) (nh : W.hx = none)
    (hb : ∀ (w' : WX) (pn : List (Addr × Obj)) (xe : Value → Shared → Prop), Takes (X.tr pn xe) w' → PassesOwn (model X.prog X.w) X.A X.env xe → PSs (X.tr pn xe) body (ts g ⟨w', none⟩ f))
    (hh : HvOk X g (h₀ :: hds) l) : PS X (.Try body (h₀ :: hds) [] [] pos) (ts g W (cTry f l)) := by
  refine ⟨fun pins s σ H D I ⟨m, σc, h, cf, p⟩ => ?_⟩
  have q : ts g ⟨wT g W D l, none⟩ f D σ H := by
    refine ⟨m, σc, h, by rw [nh] at cf; exact cf, ?_⟩
    unfold cTry at p
    cases ef : f σc h with
    | ex k fs σ1 h1 =>
      rw [ef] at p
      exact fun m' H' σ' dd vs e c x r => ⟨k, dd, m', σ1, h1, fs, vs, rfl, rfl, c, x, r, PostS.go p e⟩
    | nx σ1 h1 => rw [ef] at p; exact fun m' H' σ' e c => p m' H' σ' e (by rw [nh]; exact c)
    | bk σ1 h1 => rw [ef] at p; exact fun m' H' σ' e c => p m' H' σ' e (by rw [nh]; exact c)
    | ct σ1 h1 => rw [ef] at p; exact fun m' H' σ' e c => p m' H' σ' e (by rw [nh]; exact c)
    | rt c1 h1 => rw [ef] at p; exact p
    | no => rw [ef] at p; exact p.elim
  have iok := I.ok
  have frm : X.A.frames = some (X.env :: X.outer) := by rw [iok.frames, hs]
  refine wpAny_Try_except ?_
  have run := (hb (wT g W D l) (X.pn ++ pins) (fun e s1 => wpAny (model X.prog X.w) X.A (noteFrame e X.env) (fun _ s2 => wpAny (model X.prog X.w) X.A (setFlight e none)
    (fun _ s3 => wpAny (model X.prog X.w) X.A (handleBy e X.env (h₀ :: hds)) (SP X pins D) X.xe s3) X.xe s2) X.xe s1) (fun u s' xx => ?_) PassesOwn.looking).run [] s σ H D (I.toTry _) q
  · refine wpAny_mono run (fun fl s1 z => ?_) (fun e s1 z => z)
    cases fl with
    | next => exact let ⟨σ', H', J, z⟩ := z; wpAny_execs_nil ⟨σ', H', J.ofTry iok, z⟩
    | brk => exact let ⟨σ', H', J, z⟩ := z; ⟨σ', H', J.ofTry iok, z⟩
    | cont => exact let ⟨σ', H', J, z⟩ := z; ⟨σ', H', J.ofTry iok, z⟩
    | ret u => exact let ⟨v, σ', H', J, r, z⟩ := z; ⟨v, σ', H', J.ofTry iok, r, z⟩
  · obtain ⟨a, B, sI, pins', σ1, H1, cls, d, rfl, J0, nb, up, sky, na, os, ag, w⟩ := xx
    have J : Inv X pins σ1 H1 sI := J0.ofTry iok
    have sk : Sky B (X.env :: X.outer) a (Zc cls d) X.env.locals s'.heap := by rw [← hs]; exact sky
    obtain ⟨k0, dd, m0, σ0, hh0, fs, vs0, rfl, rfl, cf0, hx0, rp0, p0⟩ := w
    show wpAny (model X.prog X.w) X.A (noteFrame (.ref a) X.env) _ _ _
    refine Sky.land Zc.steady frm hf sk fun hA fA uA => ?_
    have JA : Inv X pins σ1 H1 { s' with heap := hA } := J.landed nb fA.1 (up.trans uA) os ag
    obtain ⟨oA, vsA, eA, zA, dA⟩ := fA.there
    have outF : a ∉ frs (X.env :: X.outer) := fun hm => by
      obtain ⟨_, o', e', hnf⟩ := fA.2.2.1.mem hm
      rw [eA] at e'
      cases e'
      exact hnf _ dA
    have nL : a ≠ X.env.locals := fun z => outF (List.mem_filterMap.mpr ⟨X.env, List.mem_cons_self, by rw [hf, z]⟩)
    have nF : a ∉ X.fs := fun hm => by
      obtain ⟨e, he, q⟩ := List.mem_filterMap.mp hm
      exact outF (List.mem_filterMap.mpr ⟨e, List.mem_cons_of_mem _ he, q⟩)
    have SA := JA.suite eA dA na nL nF
    have LT : PySem.W.Looks (model X.prog X.w) hA (typeOf (.ref a)) (.ref (g.C k0)) := fun A Q E s k q => wpAny_typeOf_ref (k _ _ eA) (by rw [zA.1]; exact q)
    have test : ∀ {x : Str} {c : Value} {np : Pos} {Q : Value → Shared → Prop} {E : Value → Shared → Prop}, Names X x c → Q c { s' with heap := hA } →
        wpAny (model X.prog X.w) (X.A.mark (some (.ref a))) (eval (.Name x np) X.env) Q E { s' with heap := hA } := fun hc q => by
      obtain ⟨hg, hdb, hm | ⟨hm, hv, hnn⟩⟩ := hc
      · exact ld_glob (X := X.suite a ((a, oA) :: (X.pn ++ pins))) SA hg hm q hdb
      · exact ld_blt (X := X.suite a ((a, oA) :: (X.pn ++ pins))) SA hg hm hv q hnn hdb
    have go : ∀ {hs' : List ExceptHandler} {l' : List Hd}, HvOk X g hs' l' → PostS g m0 H1 (cHds l' k0 fs σ0 hh0) D W → wpAny (model X.prog X.w) X.A (handleBy (.ref a) X.env hs') (SP X pins D) X.xe { s' with heap := hA } := by
      intro hs' l' hk
      induction hk with
      | nil =>
        intro p1
        refine wpAny_handleBy_nil ?_
        obtain ⟨k1, k2, k3, oe, vs, T, oT, ts', he, hz, hd, h1, hr⟩ := id fA
        unfold PySem.passOn
        refine wpAny_bind (wpAny_field he hd h1 ?_)
        rw [if_neg (show ¬ ((Value.ref T == Value.none) = true) from by simp)]
        have fin : wpAny (model X.prog X.w) X.A (setFlight (.ref a) X.env.frame) (fun _ s4 => wpAny (model X.prog X.w) X.A (throw (.ref a) : Sem Flow) (SP X pins D) X.xe s4) X.xe { s' with heap := hA } := by
          rw [hf]
          refine HandSPX.setFlight_upZ fA fun hB hhB uB => wpAny_throw (tk _ _ ?_)
          exact ⟨a, B, sI, pins, σ1, H1, _, _, rfl, J, nb, (up.trans uA).trans uB, .inr (.inr (by rw [hs]; exact hhB)), na, os, ag, p1 m0 H1 σ1 dd vs0 (.refl _ _) (by rw [nh]; exact cf0) hx0 rp0⟩
        first
          | exact wpAny_bind (wpAny_pure (wpAny_bind fin))
          | exact wpAny_bind fin
      | @plain x c tb su b₀ suite np pos' hds2 l2 hc ht hsu r ih =>
        intro p1
        dsimp only [cHds] at p1
        cases et : tb[k0]? with
        | none => rw [et] at p1; exact p1.elim
        | some b =>
          rw [et] at p1
          refine wpAny_handleBy_cons (codeAny_handlers_test ?_) (by intro q; cases q)
          have LM := PySem.W.exm_one (M := model X.prog X.w) (JA.kIn) LT (ht k0 b et)
          refine test hc (LM.here ?_)
          cases b with
          | false => exact ih p1
          | true =>
            refine codeAny_handlers_suite ?_
            refine HandSPX.lands_againZ fA fun hB fB uB => ?_
            have JB : Inv X pins σ1 H1 { s' with heap := hB } := J.landed nb fB.1 ((up.trans uA).trans uB) os ag
            obtain ⟨oB, vsB, eB, zB, dB⟩ := fB.there
            have SB := JB.suite eB dB na nL nF
            have qs : ts g wF (su k0 fs) D σ1 H1 := ⟨m0, σ0, hh0, cf0, endP_ok nh p1⟩
            refine wpAny_mono ((hsu a dd oB k0 fs (X.pn ++ pins) zB ⟨_, dB⟩).run [] _ σ1 H1 _ SB qs) (fun fl s6 z => ?_) (fun _ _ z => False.elim z)
            cases fl with
            | next => exact let ⟨_, _, S6, z⟩ := z; ⟨_, _, S6.unsuite iok, z⟩
            | brk => exact let ⟨_, _, S6, z⟩ := z; ⟨_, _, S6.unsuite iok, z⟩
            | cont => exact let ⟨_, _, S6, z⟩ := z; ⟨_, _, S6.unsuite iok, z⟩
            | ret u => exact let ⟨_, _, _, S6, r6, z⟩ := z; ⟨_, _, _, S6.unsuite iok, r6, z⟩
      | @as x n c i tb su b₀ suite np pos' hds2 l2 hc ht hi hln hsu r ih =>
        intro p1
        dsimp only [cHds] at p1
        cases et : tb[k0]? with
        | none => rw [et] at p1; exact p1.elim
        | some b =>
          rw [et] at p1
          refine wpAny_handleBy_cons (codeAny_handlers_test ?_) (by intro q; cases q)
          have LM := PySem.W.exm_one (M := model X.prog X.w) (JA.kIn) LT (ht k0 b et)
          refine test hc (LM.here ?_)
          cases b with
          | false => exact ih p1
          | true =>
            refine codeAny_handlers_suite_as ?_
            refine HandSPX.lands_againZ fA fun hB fB uB => ?_
            have JB : Inv X pins σ1 H1 { s' with heap := hB } := J.landed nb fB.1 ((up.trans uA).trans uB) os ag
            obtain ⟨oB, vsB, eB, zB, dB⟩ := fB.there
            have SB := JB.suite eB dB na nL nF
            have hlt : i < σ1.length := by rw [J.len]; exact (List.getElem?_eq_some_iff.mp hi).1
            refine store_ok (X := X.suite a ((a, oB) :: (X.pn ++ pins))) (v := .ref a) SB nd hi (.inl hln) rfl (fun s5 S5 => ?_) (.inr hln)
            have qs : ts g (wH g i a dd k0 fs) (su k0 fs) (endsN D i) (σ1.set i (some (.ref a))) H1 := by
              refine ⟨m0, σ0.set i none, hh0, ⟨cf0.hr, cf0.sr.unset i _, fun e he => ?_⟩, endN_ok nh p1⟩
              cases he
              exact ⟨List.getElem?_set_self hlt, vs0, hx0, rp0⟩
            refine wpAny_mono ((hsu a dd oB k0 fs (X.pn ++ pins) zB ⟨_, dB⟩).run [] s5 _ H1 _ S5 qs) (fun fl s6 z => ?_) (fun _ _ z => False.elim z)
            have lv : ∀ {σ6 : L2.St} {H6 : Hp} {Q : Shared → Prop}, Inv (X.suite a ((a, oB) :: (X.pn ++ pins))) [] σ6 H6 s6 → (∀ s7, Inv X pins (σ6.set i none) H6 s7 → Q s7) →
                wpAny (model X.prog X.w) X.A (do bindName X.env n .none; unbindBehindTheSuite X.env n pos') (fun _ s7 => Q s7) X.xe s6 := fun S6 hq => gone_ok (S6.unsuite iok) nd hi hln hq
            cases fl with
            | next => exact let ⟨_, _, S6, z⟩ := z; lv S6 fun s7 J7 => ⟨_, _, J7, z⟩
            | brk => exact let ⟨_, _, S6, z⟩ := z; lv S6 fun s7 J7 => ⟨_, _, J7, z⟩
            | cont => exact let ⟨_, _, S6, z⟩ := z; lv S6 fun s7 J7 => ⟨_, _, J7, z⟩
            | ret u => exact let ⟨_, _, _, S6, r6, z⟩ := z; lv S6 fun s7 J7 => ⟨_, _, _, J7, r6, z⟩
    exact go hh p0
end
end Vm

/-! Vm11: an own error over ValueError whose __init__ says super().__init__(text) and keeps a field. -/
namespace Vm
open PySem PySem.Spec PyProof.Rows L2 NdefX

/-! ### ValueError's own __init__, bound, called -/
section
open PySem.W PySem.Calls
variable {prog : Program} {w : World} {A : Around} {E : Value → Shared → Prop} {h : Heap} {gs : Array GenState} {dr : Drawn} {tk : Nat} {os : OsState}
theorem call_wrap {nm q : Str} {C N : Addr} {bs bm : List Value} {hd : Bool} {sn : List Str} {sub : List Value} {ab : Bool} {col : Option Bool} {dd : Option Addr} {k0 k1 k2 k3 k5 : Option Value} {u e t0 : Addr} {rest : List Value} {Q : Value → Shared → Prop}
    (hC : h.get? C = some (excClassObj nm q C N bs bm hd sn sub ab col dd k0 k1 k2 k3 k5 "ValueError.__new__")) (he : h.get? e = some (excObj C t0 none .none)) (hu : h.get? u = some (kxs_mw "ValueError.__init__" e)) (hz : rest.length ≤ sizeLine)
    (hq : ∀ h' t1, (∀ b o, b ≠ e → h.get? b = some o → h'.get? b = some o) → h'.get? e = some (excObj C t1 none .none) → Q .none ⟨h', gs, dr, tk, os⟩) : wpAny (model prog w) A (call (.ref u) rest) Q E ⟨h, gs, dr, tk, os⟩ := by
  refine wpAny_call ?_
  refine codeAny_of_tree ?_
  show wpAny _ A.in1 (callAny (.ref u) ⟨rest, []⟩) _ _ _
  unfold callAny
  refine wpAny_bind ?_
  refine wpAny_load hu ?_
  have c1 : (Value.type "method-wrapper" == Value.type "method" || Value.type "method-wrapper" == Value.type "builtin_function_or_method" ||
    Value.type "method-wrapper" == Value.type "method-wrapper") = true := by decide
  simp only [kxs_mw, c1, if_true]
  refine KFB.if_so (by decide) ?_
  refine wpAny_bind ?_
  refine check_bound_init F.excBase_ValueError.toExcCallFacts hC he rfl ?_
  refine wpAny_bind (wpAny_pure ?_)
  refine wpAny_pure ?_
  refine ⟨plainId_quiet F.excBase_ValueError.init.plain _, ?_⟩
  refine codeAny_builtin F.excBase_ValueError.initEntry ?_
  exact exc_init_tree (cls := .ref C) (t0 := t0) (dv := none) (c2 := .none) (c3 := .none) (b4 := .bool false) he hz fun h' k e' _ => hq h' _ k e'
end

/-- what the written part says of the def -/
structure SupK (P : Program) (K : PySem.W.Frag) (st : Stmt) (qual : Str) (fI cc cda D : Addr) : Prop where
  fn : ∃ oc od kV doc pm an ct osl, K.lookup fI = some ⟨oc, od, .func (PySem.W.fnX "__init__" qual (defArgs st) (defBody st) (defScope st) [("__class__", cc)] .none kV doc pm an (.ref cda) ct), osl⟩
  code : PySem.W.codeIn K (.ref cda) qual = true
  cod2 : ∃ ccl cdd vs ccs file tf, K.lookup cda = some ⟨ccl, cdd, .fields vs, ccs⟩ ∧ vs[2]? = some (.str file tf) ∧ ((P.main.file : Str) == file) = true
  cell : ∃ cl cld csl, K.lookup cc = some ⟨cl, cld, .cell (some (.ref D)), csl⟩
  cls : ∃ cd, PySem.W.clsIn K D = some cd
  any : PySem.W.nsIn K cStatics "thirdparty.any" = some none
  sc : NScope ["self", "at", "__class__"] ["self", "at"] ["__class__"] (defScope st)
  bnd : ∀ kV doc pm an ct (us : List Value), us.length = 2 → bindArgs (PySem.W.fnX "__init__" qual (defArgs st) (defBody st) (defScope st) [("__class__", cc)] .none kV doc pm an (.ref cda) ct) ⟨us, []⟩ = pure ((["self", "at"] : List Str).zip us)
  hd : ∃ ar : Arg, ((defArgs st).posonlyargs ++ (defArgs st).args).head? = some ar ∧ ar.arg = "self"
  ks : (defScope st).names.lookup ("super" : Str) = some .globalImplicit
  kc : (defScope st).names.lookup ("__class__" : Str) = some .free
  ka : (defScope st).names.lookup ("self" : Str) = some .local
  top : (P.main.scope.names.lookup ("super" : Str)).isSome = false
/-- .. and of a class -/
structure SupC (K : PySem.W.Frag) (fI D C : Addr) : Prop where
  o : OexC K C
  mro : PySem.W.mroIn K C (.ref D) = some true
  sup : PySem.W.ks_superIn K C D "__init__" = some (some (.builtin "ValueError.__init__"))
  ve : PySem.W.subIn K (.ref C) (.type "ValueError") = some true
  at_ : PySem.W.findIn K (.ref C) "at" = some none
  ini : PySem.W.findIn K (.ref C) "__init__" = some (some (.ref fI))
  tf : PySem.W.typeIn K (.ref fI) = some (.type "function")
abbrev nfOf (st : Stmt) (qual : Str) (cc cda : Addr) : NF := ⟨"__init__", qual, defArgs st, defBody st, defScope st, [("__class__", cc)], cda⟩
abbrev supE (p0 p1 ap cp cpos pos1 : Pos) (z : Str) (j : Nat) : Stmt := .Expr (.Call (.Attribute (.Call (.Name "super" p0) [] [] p1) "__init__" ap) [.Constant (.str z) j cp] [] cpos) pos1
section
variable {P : Program} {w : World} {K : PySem.W.Frag} {mg : Str → Option Value} {base : Heap} {st : Stmt} {qual : Str} {fI cc cda D : Addr}
/-- super().__init__(text) -/
theorem sup_run {A : Around} {l : List PySem.Env} {s0 : Shared} {H0 : Hp} {E0 : XK} {X : Cx} (hX : X = ncx (L2.CX P w) P w K mg base ["self", "at", "__class__"] (nfOf st qual cc cda) fI A l s0 H0 E0)
    (S : SupK P K st qual fI cc cda D) {C : Addr} (T : SupC K fI D C) (hm : mg "super" = none) {body : List Stmt} {p0 p1 ap cp cpos pos1 : Pos} {z : Str} {j : Nat} {σ : L2.St} {H : Hp} {s : Shared} {a : Addr} {pl : Sem Bool} {Q : Flow → Shared → Prop} {Er : Value → Shared → Prop}
    (I : Inv X [] σ H s) (h0 : σ[0]? = some (some (.ref a))) (e : H a = some (exo a C none))
    (hi : interactive X.env = false) (hsw : swapsWith (.Call (.Attribute (.Call (.Name "super" p0) [] [] p1) "__init__" ap) [.Constant (.str z) j cp] [] cpos) none pos1.line X.env = pure false)
    (he : eval (.Call (.Attribute (.Call (.Name "super" p0) [] [] p1) "__init__" ap) [.Constant (.str z) j cp] [] cpos) X.env = (do
      let ov ← attributeBase (.Call (.Name "super" p0) [] [] p1) "__init__" X.env (eval (.Call (.Name "super" p0) [] [] p1) X.env)
      standAt ap.atName
      let (f, first) ← holding [ov] (getMethod ov "__init__" pl)
      callWith cpos f first (backTo cpos (starEach [.Constant (.str z) j cp] X.env)) []))
    (hs : starEach [.Constant (.str z) j cp] X.env = [(false, eval (.Constant (.str z) j cp) X.env)])
    (hq : ∀ s', Inv X [] σ H s' → Q .next s') : PySem.wpAt (model P w) X.A (.func body X.env) (exec (supE p0 p1 ap cp cpos pos1 z j) X.env) Q Er s := by
  obtain ⟨oc, od, kV, doc, pm, an, ct, osl, lk⟩ := S.fn
  obtain ⟨ccl, cdd, vs, ccs, file, tf, lc, lv, lf⟩ := S.cod2
  obtain ⟨cl, cld, csl, lcell⟩ := S.cell
  obtain ⟨cdD, hD⟩ := S.cls
  obtain ⟨ar, har, harn⟩ := S.hd
  obtain ⟨nm, q, N, bs, bm, sn, sub, ab, col, dd, k0, k1, k2, k3, k5, hC, hbm⟩ := T.o.cls
  have hcl : PySem.W.clsIn K C = some { name := nm, bases := bs, mro := .ref C :: bm, ns := N, qualname := q, hasDict := true, slotNames := sn, subclasses := sub, abstract := ab, collection := col, hasDel := false } := by
    unfold PySem.W.clsIn
    rw [hC] <;> rfl
  have hN : X.N = (["self", "at", "__class__"] : List Str) := by rw [hX] <;> rfl
  have hEnv : X.env = envF (nfOf st qual cc cda) fI s0.heap.objs.size := by rw [hX] <;> rfl
  have hK : X.K = K := by rw [hX] <;> rfl
  have hmg : X.mg = mg := by rw [hX] <;> rfl
  have hP : X.prog = P := by rw [hX] <;> rfl
  have hw : X.w = w := by rw [hX] <;> rfl
  have KX : K.In s.heap := by rw [← hK]; exact I.kIn
  have kk : X.env.scope.kind = .function := I.ok.kind
  have e1 : X.env.kindOf "super" = some .globalImplicit := by rw [hEnv]; exact S.ks
  have e2 : X.env.kindOf "__class__" = some .free := by rw [hEnv]; exact S.kc
  have e3 : X.env.kindOf "self" = some .local := by rw [hEnv]; exact S.ka
  obtain ⟨t1, ho⟩ := exo_at I.hok e
  obtain ⟨oD, hD1, hD2⟩ : ∃ oD, s.heap.get? D = some oD ∧ oD.data = .cls cdD := by
    unfold PySem.W.clsIn at hD
    split at hD
    · rename_i c1 d1 cd1 sl1 h1
      cases hD
      exact ⟨_, KX _ _ h1, rfl⟩
    · cases hD
  have nac : a ≠ C := fun zz => by
    have := KX _ _ hC
    rw [← zz, ho] at this
    cases this
  obtain ⟨mL, hns, hlk⟩ := I.loc
  have hself : mL "self" = some (.ref a) := by
    obtain ⟨u, ru, lo⟩ := hlk 0 "self" (.ref a) (by rw [hN]; rfl) h0 (.inl (by have := e3; exact e3))
    obtain rfl : u = Value.ref a := ru
    rcases lo with ⟨_, z⟩ | ⟨z, _⟩
    · exact z
    · rw [e3] at z
      rcases z with z | z <;> cases z
  refine PySem.ks_wpAt_Expr_any ?_ hi hsw
  refine PySem.ks_wpAt_MethodCall (pl := pl) ?_ he
  refine PySem.ks_wpAt_super_base (of := ⟨oc, od, _, osl⟩) (oc := ⟨ccl, cdd, .fields vs, ccs⟩) e1 e2 (by decide) (by rw [hEnv]) (KX _ _ lk) rfl har (by rw [hEnv]) (KX _ _ lc) rfl lv lf S.top ?_
  obtain ⟨mb, b1, b2⟩ := I.mod.blt
  refine PySem.W.ks_loadName_global kk e1 (Calls.loadGlobal_builtin (v := .type "super") (by rw [I.ok.glob]; exact I.mod.glob.keeps I.bk) (by rw [hmg]; exact hm) (by rw [I.ok.blt]; exact b1.keeps I.bk) ((b2 _ (by decide)).trans PyProof.Rows.Boot.«super») ⟨rfl, ?_⟩)
  refine wpAny_loadName_free kk e2 (c := cc) (by rw [hEnv]; rfl) ⟨_, KX _ _ lcell, rfl⟩ ?_
  rw [harn]
  refine wpAny_loadName_local kk e3 hns hself ?_
  obtain ⟨hp, gs, dr, tk, os⟩ := s
  refine PySem.ks_wpAny_isType_cls hD1 hD2 ⟨rfl, ?_⟩
  refine PySem.ks_wpAny_call_super hD1 hD2 ho rfl (fun c zz => nomatch zz) (PySem.W.looks_mroIn KX T.mro) (fun h1 g1 k1 => ?_)
  have I1 : Inv X [] σ H ⟨h1, gs, dr, tk, os⟩ := I.kept (t' := tk) k1
  have K1 : K.In h1 := KX.keeps k1
  have sup := T.sup
  unfold PySem.W.ks_superIn at sup
  rw [hcl, Option.bind_some] at sup
  have TyI : PySem.W.Looks (model P w) h1 (isInstance (.ref a) (.type "ValueError")) true := by
    have J : PySem.W.InstAt h1 a _ C none := ⟨k1 _ _ ho, rfl, rfl, trivial⟩
    exact J.type.andThen (PySem.W.looks_subIn K1 T.ve)
  refine PySem.W.kxs_getMethod PySem.W.kxs_ValueError g1 (PySem.W.looks_opaque K1 S.any) (l₀ := .ref C :: bm) ?_ rfl K1 sup TyI nac (by decide) ?_
  · exact fun A Q E s k q => wpAny_bind ((PySem.W.looks_clsIn K1 hcl) A _ E s k (wpAny_pure q))
  have I2 : Inv X [] σ H ⟨h1.push (PySem.W.kxs_mw "ValueError.__init__" a), gs, dr, tk + 1, os⟩ := I1.kept (t' := tk + 1) fun b o eb => Heap.get?_push_of_some _ eb
  have u1 : (h1.push (PySem.W.kxs_mw "ValueError.__init__" a)).get? h1.objs.size = some (PySem.W.kxs_mw "ValueError.__init__" a) := Heap.get?_push_size _ rfl
  rw [hs]
  refine PySem.W.kxs_callWith (i := "ValueError.__init__") (x := a) rfl ?_
  refine Calls.evalArgs_plain ?_
  show wpAny _ _ (spliced [(false, eval (.Constant (.str z) j cp) X.env)]) _ _ _
  refine Calls.spliced_cons ?_
  refine Calls.Constant_str ?_
  refine Calls.spliced_nil ⟨u1, ?_⟩
  have I3 : Inv X [] σ H ⟨h1.push (PySem.W.kxs_mw "ValueError.__init__" a), gs, dr, tk + 1 + 1, os⟩ := I2.tok _
  refine call_wrap (K1.keeps (fun b o eb => Heap.get?_push_of_some _ eb) _ _ hC) (Heap.get?_push_of_some _ (k1 _ _ ho)) u1 (show 1 ≤ sizeLine by decide) (fun h' t2 k2 e2 => ?_)
  have J := I3.write (t' := tk + 1 + 1) (x := a) (e := a) (o := exo a C none) (by rw [e]; exact True.intro) (.inl rfl) k2 ⟨_, e2⟩ (exo_ok e2)
  have eu : upd H a (exo a C none) = H := by
    funext b
    by_cases hb : b = a
    · rw [hb, upd_same, e]
    · rw [upd_ne hb]
  rw [eu] at J
  exact hq _ J
/-- where __init__'s body runs -/
abbrev ix (P : Program) (w : World) (K : PySem.W.Frag) (mg : Str → Option Value) (base : Heap) (st : Stmt) (qual : Str) (fI cc cda : Addr) (A : Around) (l : List PySem.Env) (s : Shared) (H : Hp) : Cx :=
  ncx (L2.CX P w) P w K mg base ["self", "at", "__class__"] (nfOf st qual cc cda) fI A l s H (fun _ _ _ => False)
/-- the run of __init__(self, at) -/
theorem init_run {g : Gc} {ev : List CV → CH → Rs CV} {fe : ME} {k : Nat} {p0 p1 ap cp cpos pos1 : Pos} {z : Str} {j : Nat} {pl : Sem Bool} {rest : List Stmt} (S : SupK P K st qual fI cc cda D) (hm : mg "super" = none)
    (hb : defBody st = supE p0 p1 ap cp cpos pos1 z j :: rest) (fev : ∀ c h, fe [none, some c, none] h = ev [c] h)
    (hX : ∀ A l s H, let E := (ix P w K mg base st qual fI cc cda A l s H).env
      interactive E = false ∧ swapsWith (.Call (.Attribute (.Call (.Name "super" p0) [] [] p1) "__init__" ap) [.Constant (.str z) j cp] [] cpos) none pos1.line E = pure false ∧
      eval (.Call (.Attribute (.Call (.Name "super" p0) [] [] p1) "__init__" ap) [.Constant (.str z) j cp] [] cpos) E = (do
        let ov ← attributeBase (.Call (.Name "super" p0) [] [] p1) "__init__" E (eval (.Call (.Name "super" p0) [] [] p1) E)
        standAt ap.atName
        let (f, first) ← holding [ov] (getMethod ov "__init__" pl)
        callWith cpos f first (backTo cpos (starEach [.Constant (.str z) j cp] E)) []) ∧
      starEach [.Constant (.str z) j cp] E = [(false, eval (.Constant (.str z) j cp) E)])
    (hr : ∀ A l s H, XOk (ix P w K mg base st qual fI cc cda A l s H) wF k → PSs (ix P w K mg base st qual fI cc cda A l s H) rest (tOst K "at" (tVar 0) (te g wF fe)))
    {A : Around} {l : List PySem.Env} {s : Shared} {H : Hp} {u : Value} {v : V} {c : CV} {a C : Addr} {m : List Addr} {h : CH} {Q : VK} (T : SupC K fI D C) (rm : Rm (k + 1) A) (e0 : Env0 P w K mg base A l s H)
    (e : H a = some (exo a C none)) (rv : RelV v u) (hh : HRel g m h H) (rc : RelC g m H c v)
    (hq : match ev [c] h with
      | .ok d h2 => ∀ m' H' y dx, Ext m H m' H' → HRel g m' h2 H' → RelC g m' H' d y → H' dx = none → dx ≠ a → Q .non (upd (upd H' dx (exd dx [("at", y)])) a (exo a C (some dx)))
      | _ => False) : codeAny (model P w) A (.call (.ref fI) ⟨[.ref a, u], []⟩) (CR (L2.CX P w) l P w H s Q (fun _ _ _ => False)) s := by
  obtain ⟨oc, od, kV, doc, pm, an, ct, osl, lk⟩ := S.fn
  obtain ⟨cl, cld, csl, lcell⟩ := S.cell
  have KX : K.In s.heap := e0.mod.kin.keeps fun b o eb => (e0.bs b o eb).1
  have lim : s.heap.NoLimit := e0.mod.nolimit.keeps fun b o eb => (e0.bs b o eb).1
  refine codeAny_call_function rm.r.depth (KX _ _ lk) rfl S.sc.co S.sc.gen rfl (PySem.W.codeRec_of KX S.code) ?_
  rw [S.bnd kV doc pm an ct [.ref a, u] rfl]
  refine wpAny_pure (wpAny_newFunctionEnv S.sc.nocell (fun ⟨n, _⟩ hy => S.sc.par n (List.of_mem_zip hy).1) (fun h1 hns hsb => ⟨lim.fresh _ hsb, ?_⟩) S.sc.kind)
  show codeAny _ _ (.func (defBody st) (ix P w K mg base st qual fI cc cda A l s H).env) _ _
  rw [hb]
  refine PySem.ks_codeAny_funcAt ?_
  have kp : ∀ b o, s.heap.get? b = some o → h1.get? b = some o := fun b o eb => hsb.extBut b o (Nat.ne_of_lt (Heap.lt_size eb)) (Heap.get?_push_of_some _ eb)
  have CA : CellsAt [("__class__", cc)] ["__class__"] [some (.ref D)] s.heap H := by
    have one : ∀ y c, ([("__class__", cc)] : List (Str × Addr)).lookup y = some c → y = "__class__" ∧ c = cc := fun y c q => by
      rw [List.lookup_cons] at q
      split at q
      · rename_i hy
        cases q
        exact ⟨by simpa using hy, rfl⟩
      · cases q
    refine ⟨rfl, fun y c q => ?_, fun x y c q q' => (one x c q).1.trans (one y c q').1.symm, fun i y q => ?_⟩
    · obtain ⟨_, rfl⟩ := one y c q
      exact ⟨(e0.bs _ _ (e0.mod.kin _ _ lcell)).2, _, _, KX _ _ lcell, rfl⟩
    · cases i with
      | zero =>
        cases q
        refine ⟨cc, by simp, fun v q => ?_⟩
        cases q
        exact ⟨.ref D, rfl, _, KX _ _ lcell, rfl⟩
      | succ i => cases q
  have rvs : Vals [V.ref a, v] [Value.ref a, u] := .cons rfl (.cons rv .nil)
  have I : Inv (ix P w K mg base st qual fI cc cda A l s H) [] (startF (["self", "at", "__class__"] : List Str) [.ref a, v] [some (.ref D)]) H { s with heap := h1, toks := s.toks + ((["self", "at"] : List Str).zip [Value.ref a, u]).length } :=
    inv_startN (F := nfOf st qual cc cda) (ps := ["self", "at"]) (us := [Value.ref a, u]) S.sc rm.r.hd e0 rfl rvs CA hns kp
  have rm' : Rm k (A.deeper (envF (nfOf st qual cc cda) fI s.heap.objs.size)) := rm.deeper _
  have O : XOk (ix P w K mg base st qual fI cc cda A l s H) wF k := ⟨takes_none5, rm', rfl, S.sc.nd⟩
  obtain ⟨x1, x2, x3, x4⟩ := hX A l s H
  refine PySem.ks_wpAt_execs_cons (sup_run rfl S T hm I rfl e x1 x2 x3 x4 fun s' J => ?_)
  refine wpAt_of_wpAny ?_
  have q : tOst K "at" (tVar 0) (te g wF fe) { nx := fun _ H' => Q .non H', rt := Q } (startF (["self", "at", "__class__"] : List Str) [.ref a, v] [some (.ref D)]) H := by
    refine ⟨m, [none, some c, none], h, ⟨hh, ⟨rfl, fun i d q => ?_⟩, HxR.none⟩, ?_⟩
    · rcases i with _ | _ | _ | i
      · cases q
      · cases q
        exact ⟨v, rfl, rc⟩
      · cases q
      · cases q
    · rw [fev]
      cases ee : ev [c] h with
      | no => rw [ee] at hq; exact hq
      | ex kk fs h2 => rw [ee] at hq; exact hq.elim
      | ok d h2 =>
        rw [ee] at hq
        intro m' H' y ex R' ry
        exact ⟨_, rfl, a, C, rfl, T.o, T.at_, .inl ⟨ex.tk.e _ _ e, fun dx n ne => hq m' H' y dx ex R' ry n ne⟩⟩
  refine wpAny_mono ((hr A l s H O).run [] s' _ H _ J q) (fun fl s2 hs => ?_) fun e s2 hs => hs
  have fin : ∀ {σ' : L2.St} {H' : Hp} {v : V} {u : Value}, Inv (ix P w K mg base st qual fI cc cda A l s H) [] σ' H' s2 → L2.RelV v u → Q v H' → CE l P w H s Q u s2 :=
    fun J rv q => ⟨_, _, J.os, J.bare, J.base, J.hok, rv, q⟩
  cases fl with
  | ret u =>
    obtain ⟨v, σ', H', J, rv, q⟩ := hs
    exact fin J rv q
  | next =>
    obtain ⟨σ', H', J, q⟩ := hs
    exact fin (v := V.non) (u := Value.none) J rfl q
  | brk => exact (hs.choose_spec.choose_spec.2).elim
  | cont => exact (hs.choose_spec.choose_spec.2).elim
end
end Vm

/-! Vm12: raise C(e), C an own error of Vm11. -/
namespace Vm
open PySem PySem.Spec PyProof.Rows L2 NdefX
theorem Rm.make {k : Nat} {A : Around} (h : Rm (k + 1) A) (C : Addr) (us : List Value) : Rm k (A.under (.builtin "type.__call__" ⟨.ref C :: us, []⟩)) := by
  refine ⟨h.r.make C us [], ?_⟩
  have hg := h.gd
  unfold Around.under
  rw [hg]
  rfl
/-- the heap behind C(e): the error itself is let go, its dict is at dx -/
abbrev behind (H : Hp) (a C dx : Addr) (y : V) : Hp := upd (del (upd (upd H dx (exd dx [("at", y)])) a (exo a C (some dx))) a) dx (.xd [("at", y)])
theorem behind_at {H : Hp} {a C dx : Addr} {y : V} : behind H a C dx y dx = some (.xd [("at", y)]) := upd_same
theorem behind_ne {H : Hp} {a C dx b : Addr} {y : V} (h1 : b ≠ a) (h2 : b ≠ dx) : behind H a C dx y b = H b := by
  show upd (del _ a) dx _ b = _
  rw [upd_ne h2, del_ne h1, upd_ne h1, upd_ne h2]
section
variable {g : Gc} {m1 m' : List Addr} {H1 H' : Hp} {a C dx : Addr} {y : V} {h2 : CH}
theorem behind_ext (ha : H1 a = none) (hd : H' dx = none) (e : Ext m1 (upd H1 a (exo a C none)) m' H') : Ext m1 H1 m' (behind H' a C dx y) := by
  have st : ∀ {b o}, H1 b = some o → b ≠ a ∧ b ≠ dx ∧ upd H1 a (exo a C none) b = some o := fun {b o} q => by
    have n1 : b ≠ a := ne_of_none q ha
    have q1 : upd H1 a (exo a C none) b = some o := by rw [upd_ne n1]; exact q
    refine ⟨n1, fun z => ?_, q1⟩
    obtain ⟨o', q2⟩ := e.tk.s b o q1
    rw [z, hd] at q2
    cases q2
  refine ⟨e.pre, ⟨fun b xs q => ?_, fun b o u q => ?_, fun b xs q => ?_, fun b xs q => ?_, fun b o q => ?_⟩, fun b u q z => ?_, fun b z => ?_⟩
  · obtain ⟨n1, n2, q1⟩ := st q
    rw [behind_ne n1 n2]
    exact e.tk.t _ _ q1
  · obtain ⟨n1, n2, q1⟩ := st q
    rw [behind_ne n1 n2]
    exact e.tk.f _ _ _ q1
  · obtain ⟨n1, n2, q1⟩ := st q
    rw [behind_ne n1 n2]
    exact e.tk.x _ _ q1
  · obtain ⟨n1, n2, q1⟩ := st q
    rw [behind_ne n1 n2]
    exact e.tk.e _ _ q1
  · obtain ⟨n1, n2, q1⟩ := st q
    rw [behind_ne n1 n2]
    exact e.tk.s _ _ q1
  · obtain ⟨n1, n2, q1⟩ := st q
    rw [behind_ne n1 n2]
    exact e.fr _ _ q1 z
  · rcases e.nw b z with y | y
    · exact .inl y
    · by_cases n : b = a
      · rw [n, upd_same] at y
        cases y
      · rw [upd_ne n] at y
        exact .inr y
theorem behind_e0 (he : H' a = some (exo a C none)) (hd : H' dx = none) : E0 m' H' m' (behind H' a C dx y) := by
  have st : ∀ {b o}, H' b = some o → o ≠ exo a C none → behind H' a C dx y b = some o := fun {b o} q n => by
    rw [behind_ne (fun z => n (by rw [z, he] at q; exact (Option.some.inj q).symm)) (fun z => by rw [z, hd] at q; cases q)]
    exact q
  exact ⟨List.prefix_refl m', fun b xs q => st q fun z => exo_tup z.symm, fun b o u q => st q fun z => exo_frz z.symm, fun b xs q => st q fun z => by
    have z' : HO.xd xs = HO.ext _ := z
    cases z'⟩
theorem behind_rel (R : HRel g m' h2 H') (he : H' a = some (exo a C none)) (hd : H' dx = none) : HRel g m' h2 (behind H' a C dx y) := by
  refine ⟨R.nd, R.len, fun n o b e1 e2 => ?_⟩
  have r := R.ob n o b e1 e2
  obtain ⟨u, q, nx⟩ := r.noext
  refine r.keep0 (behind_e0 he hd) (behind_ne (fun z => ?_) fun z => ?_)
  · rw [z, he] at q
    exact nx _ (Option.some.inj q).symm
  · rw [z, hd] at q
    cases q
end
/-- what C(e) wishes -/
def tMkV (g : Gc) (W : Wd) (kc : Nat) (ev : List CV → CH → Rs CV) (fa : MA) : L2.St → Hp → XK → Prop := fun σ H Q => ∃ m σc h, Cf g W.hx m σc h σ H ∧
  match fa σc h with
  | .ok [c] h1 => (match ev [c] h1 with
    | .ok d h2 => ∀ m' H' y dd, Ext m H m' H' → HRel g m' h2 H' → H' dd = some (.xd [("at", y)]) → RelC g m' H' d y → Q (.ref (g.C kc)) (some dd) H'
    | _ => False)
  | .ok _ _ => False
  | .ex k fs h1 => ExP g m H k fs h1 (fun cls d H' => W.w cls d σ H')
  | .no => False
/-- the run of an __init__, as the rule of raise takes it -/
def InitV (P : Program) (w : World) (K : PySem.W.Frag) (mg : Str → Option Value) (base : Heap) (g : Gc) (k : Nat) (fI D : Addr) (ev : List CV → CH → Rs CV) : Prop :=
  ∀ {A : Around} {l : List PySem.Env} {s : Shared} {H : Hp} {u : Value} {v : V} {c : CV} {a C : Addr} {m : List Addr} {h : CH} {Q : VK} (T : SupC K fI D C) (rm : Rm k A) (e0 : Env0 P w K mg base A l s H)
    (e : H a = some (exo a C none)) (rv : RelV v u) (hh : HRel g m h H) (rc : RelC g m H c v)
    (hq : match ev [c] h with
      | .ok d h2 => ∀ m' H' y dx, Ext m H m' H' → HRel g m' h2 H' → RelC g m' H' d y → H' dx = none → dx ≠ a → Q .non (upd (upd H' dx (exd dx [("at", y)])) a (exo a C (some dx)))
      | _ => False), codeAny (model P w) A (.call (.ref fI) ⟨[.ref a, u], []⟩) (CR (L2.CX P w) l P w H s Q (fun _ _ _ => False)) s
section
variable {X : Cx} {W : Wd} {g : Gc} {k j kc : Nat} {fI D : Addr} {ev : List CV → CH → Rs CV} {fa : MA} {x : Str} {e : Expr} {p pos pos' : Pos}
theorem pmk_v (O : XOk X W k) (hj : j + 1 ≤ k) (IV : InitV X.prog X.w X.K X.mg X.base g j fI D ev) (T : SupC X.K fI D (g.C kc)) (hg : Gl X x) (hm : X.mg x = some (.ref (g.C kc))) (ha : PA X [e] (ta g W fa))
    (hdb : (x == ("__debug__" : Str)) = false := by decide) (he : starEach [e] X.env = (false, eval e X.env) :: starEach [] X.env := by rfl) (hpl : (backTo pos (starEach [] X.env)).any (·.1) = false := by rfl) :
    PMk X (.Call (.Name x p) [e] [] pos) (tMkV g W kc ev fa) := by
  intro pins s σ H Q I ⟨m, σc, h, cf, q⟩
  obtain ⟨nm, qn, N, bs, bm, sn, sub, ab, col, dd, k0, k1, k2, k3, k5, hC, hbm⟩ := T.o.cls
  have h1 : ta g W fa σ H (fun vs H1 => ∃ m1 c h1 v, vs = [v] ∧ HRel g m1 h1 H1 ∧ RelC g m1 H1 c v ∧ match ev [c] h1 with
      | .ok d h2 => ∀ m' H' y dd, Ext m1 H1 m' H' → HRel g m' h2 H' → H' dd = some (.xd [("at", y)]) → RelC g m' H' d y → Q (.ref (g.C kc)) (some dd) H'
      | _ => False) := by
    refine ⟨m, σc, h, cf, ?_⟩
    cases ef : fa σc h with
    | no => rw [ef] at q; exact q
    | ex kk fs h1 => rw [ef] at q; exact q
    | ok cs h1 =>
      rw [ef] at q
      match cs, q with
      | [], q => exact q.elim
      | [c], q =>
        intro m1 H1 vs e1 R1 rc
        obtain ⟨v, rfl, rv⟩ := as1 rc
        refine ⟨m1, c, h1, v, rfl, R1, rv, ?_⟩
        dsimp only at q
        revert q
        cases ev [c] h1 with
        | no => exact id
        | ex _ _ _ => exact id
        | ok d h2 => exact fun q m' H' y dd e2 => q m' H' y dd (e1.trans e2)
      | _ :: _ :: _, q => exact q.elim
  refine wpAny_Call_Name_kw (ld_glob I hg hm ?_ hdb)
  refine PySem.W.callWith_K (h₀ := X.base) I.ok.mod.kin T.o.kC (thn (ha.run pos pins s σ H _ I h1) fun us s1 ⟨vs, H1, I1, r1, m1, c, hh1, v, ev1, R1, rc, q1⟩ => ⟨I1.kIn, ?_⟩) he hpl
  subst ev1
  obtain ⟨u, rfl, rv⟩ : ∃ u, us = [u] ∧ RelV v u := by
    cases r1 with
    | cons rv rr =>
      cases rr
      exact ⟨_, rfl, rv⟩
  show wpAny _ _ (call (.ref (g.C kc)) [u]) _ _ _
  obtain ⟨hp, gs, dr, tk, os⟩ := s1
  have sz : hp.objs.size ≤ hp.objs.size + 1 := Nat.le_succ _
  have hn : H1 (hp.objs.size + 1) = none := I1.hok.fresh sz
  have kk : ∀ b o, hp.get? b = some o → ((hp.push (PySem.W.kdv_tup [u])).push (PySem.HandSPX.excO (g.C kc) hp.objs.size)).get? b = some o := fun b o eb => Heap.get?_push_of_some _ (Heap.get?_push_of_some _ eb)
  have hget : ((hp.push (PySem.W.kdv_tup [u])).push (PySem.HandSPX.excO (g.C kc) hp.objs.size)).get? (hp.objs.size + 1) = some (PySem.HandSPX.excO (g.C kc) hp.objs.size) := by heap_get
  have I2 : Inv X pins σ (upd H1 (hp.objs.size + 1) (exo (hp.objs.size + 1) (g.C kc) none)) ⟨(hp.push (PySem.W.kdv_tup [u])).push (PySem.HandSPX.excO (g.C kc) hp.objs.size), gs, dr, tk, os⟩ :=
    I1.laid (t' := tk) (a := hp.objs.size + 1) (o := exo (hp.objs.size + 1) (g.C kc) none) (h' := (hp.push (PySem.W.kdv_tup [u])).push (PySem.HandSPX.excO (g.C kc) hp.objs.size)) kk sz (exo_ok hget)
  have x0 : Ext m1 H1 m1 (upd H1 (hp.objs.size + 1) (exo (hp.objs.size + 1) (g.C kc) none)) := ext_beside hn
  have R2 := R1.beside (o := exo (hp.objs.size + 1) (g.C kc) none) hn
  have hz : [u].length ≤ sizeLine := by
    show 1 ≤ sizeLine
    decide
  have run := IV (A := X.A.under (.builtin "type.__call__" ⟨.ref (g.C kc) :: [u], []⟩)) (l := X.stack) (s := ⟨(hp.push (PySem.W.kdv_tup [u])).push (PySem.HandSPX.excO (g.C kc) hp.objs.size), gs, dr, tk, os⟩) (u := u) (v := v) (c := c) (h := hh1)
    (Q := fun w H2 => w = .non ∧ ∃ (d : Addr) (fs : List (Str × V)), H2 (hp.objs.size + 1) = some (exo (hp.objs.size + 1) (g.C kc) (some d)) ∧ H2 d = some (exd d fs) ∧ H1 d = none ∧ Q (.ref (g.C kc)) (some d) (upd (del H2 (hp.objs.size + 1)) d (.xd fs)))
    T ((O.rm.mono hj).make (g.C kc) [u]) (I2.env0.make (g.C kc) [u] []) upd_same rv R2 (rc.mono x0) (by
      revert q1
      cases ev [c] hh1 with
      | no => exact id
      | ex _ _ _ => exact id
      | ok d h2 =>
        intro q1 m' H' y dx ex R' ry n ne
        have ea := ex.tk.e (hp.objs.size + 1) _ upd_same
        have d1 : H1 dx = none := by
          cases ed : H1 dx with
          | none => rfl
          | some o =>
            obtain ⟨o', q2⟩ := ex.tk.s dx o (by rw [upd_ne ne]; exact ed)
            rw [n] at q2
            cases q2
        refine ⟨rfl, dx, [("at", y)], upd_same, by rw [upd_ne ne, upd_same], d1, ?_⟩
        exact q1 m' _ y dx (behind_ext hn n ex) (behind_rel R' ea n) behind_at (ry.mono0 (behind_e0 ea n)))
  refine wpAny_call (PySem.HandSPX.call_own F.excBase_ValueError (fun Y => PySem.HandSPX.refsVE_contains Y bm hbm) (I1.kIn _ _ hC) (PySem.W.looks_findIn I1.kIn T.ini) (fun self => PySem.W.bind_fn I1.kIn self T.tf) hz
    (codeAny_mono run fun r s' hq' => ?_))
  cases r with
  | error er =>
    exact O.tk er s' (XE.of_call I2 (fun _ _ _ h => h.elim) hq')
  | ok fl =>
    cases fl with
    | ret u2 =>
      obtain ⟨w2, H2, os2, bare2, un2, hok2, rw2, ew, d, fs, ea, ed, hd1, q2⟩ := hq'
      subst ew
      obtain ⟨hB, gB, dB, tB, osB⟩ := s'
      refine ⟨rw2, ?_⟩
      exact mk_end (raises_own T.o.exC T.o.tyC) I1 sz kk un2 hok2 os2 bare2 ea ed hd1 q2
    | next => exact False.elim hq'
    | brk => exact False.elim hq'
    | cont => exact False.elim hq'
def cRaise (kc : Nat) (ev : List CV → CH → Rs CV) (fa : MA) : MS := fun σ h => (fa σ h).st σ fun as h1 => match as with
  | [c] => (match ev [c] h1 with
    | .ok d h2 => .ex kc [("at", d)] σ h2
    | _ => .no)
  | _ => .no
/-- raise C(e) -/
theorem s_raise (O : XOk X W k) (hj : j + 1 ≤ k) (nh : W.hx = none) (IV : InitV X.prog X.w X.K X.mg X.base g j fI D ev) (T : SupC X.K fI D (g.C kc)) (hg : Gl X x) (hm : X.mg x = some (.ref (g.C kc))) (ha : PA X [e] (ta g W fa))
    (hdb : (x == ("__debug__" : Str)) = false := by decide) (he : starEach [e] X.env = (false, eval e X.env) :: starEach [] X.env := by rfl) (hpl : (backTo pos (starEach [] X.env)).any (·.1) = false := by rfl) :
    PS X (.Raise (some (.Call (.Name x p) [e] [] pos)) none pos') (ts g W (cRaise kc ev fa)) := by
  refine PS_imp (ps_raise O.calm O.tk (pmk_v O hj IV T hg hm ha hdb he hpl)) fun D σ H ⟨m, σc, h, cf, p⟩ => ?_
  refine ⟨m, σc, h, cf, ?_⟩
  unfold cRaise at p
  cases ef : fa σc h with
  | no => rw [ef] at p; exact p
  | ex kk fs h1 =>
    rw [ef] at p
    exact fun m' H' dd vs e R x r => p m' H' σ dd vs e (cf.next e R) x r
  | ok cs h1 =>
    rw [ef] at p
    match cs, p with
    | [], p => exact p.elim
    | _ :: _ :: _, p => exact p.elim
    | [c], p =>
      dsimp only [Rs.st] at p ⊢
      revert p
      cases ev [c] h1 with
      | no => exact id
      | ex _ _ _ => exact id
      | ok d h2 => exact fun p m' H' y dd e R x r => p m' H' σ dd [("at", y)] e (cf.next e R) x ⟨y, [], rfl, r, rfl⟩
end
end Vm

/-! Vm13: the end of a law: its def called at the script, by the machine. -/
namespace Vm
open PySem PySem.Spec PyProof.Rows L2 NdefX
/-- the def's promise at the script -/
theorem end_call {P : Program} {w : World} {K : PySem.W.Frag} {mg mb : Str → Option Value} {k : Nat} {fa a : Addr} {fd : FuncData} {x : Str} {g : Gc} {ev : List CV → CH → Rs CV} {z : Shared} {us : List Value} {ns : List Int}
    (KX : K.In z.heap) (hns : z.heap.Ns mainGlobals mg) (hb : z.heap.Ns builtinsNs mb) (hbb : ∀ x : Str, x ≠ "__name__" → mb x = bootBuiltins x) (hlim : z.heap.NoLimit) (hz : z.gens = #[]) (hgk : g.K = K)
    (ha : z.heap.get? a = some { cls := .type "list", data := .seq us.toArray }) (hi : IntsAre us ns) (hl : ns.length ≤ sizeLine) (hr : Rm k callerA)
    (F : ∀ base : Heap, K.In base → base.Ns mainGlobals mg → FnV P w K mg base k fa fd [x] (spV g ev)) (hbind : ∀ (s : Shared) (u : Value), BindsTo s fd ⟨[u], []⟩ [(x, u)])
    (hev : ∃ h, ev [.fl (ns.map CV.int)] [] = .ok (.bl true) h) :
    codeAny (model P w) callerA (.call (.ref fa) ⟨[.ref a], []⟩) (fun r s' => r = .ok (.ret (.bool true)) ∧ OldK z.heap s'.heap ∧ s'.os = z.os ∧ AllBare s'.gens) z := by
  have rus := vals_ints hi
  have lus := hi.length
  have key : ∀ H : Hp, (∀ b, H b = none ∨ ∃ o, H b = some (.frz o (.lst (ns.map V.int)))) → FrL K H a (ns.map V.int) → HOk P w H z.heap → (∀ b, H b ≠ none → b = a) → (H a ≠ none → K.lookup a = none) →
      codeAny (model P w) callerA (.call (.ref fa) ⟨[.ref a], []⟩) (fun r s' => r = .ok (.ret (.bool true)) ∧ OldK z.heap s'.heap ∧ s'.os = z.os ∧ AllBare s'.gens) z := by
    intro H hO hS hok hA hK
    have only : ∀ {b : Addr}, b ≠ a → H b = none := fun {b} n => by
      cases q : H b with
      | none => rfl
      | some u => exact absurd (hA b (by rw [q]; simp)) n
    have seen : ∀ {b : Addr} {o : Obj}, z.heap.get? b = some o → H b = none → (hidT z.heap H).get? b = some o := fun e n => hidT_get e n
    have nsK : ∀ {b : Addr} {m : Str → Option Value}, z.heap.Ns b m → (hidT z.heap H).Ns b m := fun {b m} ⟨o, es, ep, e, d, r⟩ => by
      refine ⟨o, es, ep, seen e (only fun y => ?_), d, r⟩
      rw [y, ha] at e
      cases e
      have d' : Data.seq us.toArray _ = Data.dict es ep := d
      cases d'
    have inK : K.In (hidT z.heap H) := fun b o e => seen (KX b o e) (by
      by_cases y : b = a
      · subst y
        cases q : H b with
        | none => rfl
        | some u =>
          rw [hK (by rw [q]; simp)] at e
          cases e
      · exact only y)
    have modK : Mod K mg (hidT z.heap H) := ⟨inK, nsK hns, ⟨mb, nsK hb, hbb⟩, let ⟨mc, h1, h2⟩ := hlim; ⟨mc, nsK h1, h2⟩⟩
    have env : Env0 P w K mg (hidT z.heap H) callerA [] z H := by
      refine ⟨rfl, modK, fun b o e => of_hidT e, Nat.le_of_eq (hidT_size _ _), trivial, fun b hb => ?_, hok, .of_eq hz⟩
      exact absurd (show b ∈ ([] : List Addr) from hb) (by simp)
    obtain ⟨h, eh⟩ := hev
    have sp : spV g ev [.ref a] H (fun v _ => v = .bl true) (fun _ _ _ => False) := by
      refine ⟨[], [.fl (ns.map CV.int)], [], ⟨by simp, rfl, fun n o b e => nomatch e⟩, mks_cons ?_ mks_nil, ?_⟩
      · simp only [RelC]
        exact ⟨a, ns.map V.int, rfl, by rw [hgk]; exact hS, mks_ints ns⟩
      · rw [eh]
        exact fun m' H' v _ _ rv => rel_bl rv
    have run := (F _ inK (nsK hns)).go callerA [] z H ⟨[.ref a], []⟩ [.ref a] [.ref a] _ _ hr env (hbind z (.ref a)) (.cons rfl .nil) sp
    refine codeAny_mono run fun r s' hh => ?_
    match r, hh with
    | .error e, hh =>
      obtain ⟨_, _, _, _, _, _, _, _, _, _, _, _, hfalse⟩ := hh
      exact False.elim hfalse
    | .ok (.ret u), ⟨v, H', os, bare, un, hok', r', q⟩ =>
      obtain rfl : v = .bl true := q
      obtain rfl : u = Value.bool true := r'
      refine ⟨rfl, OldK.of_keep fun b o e => ?_, os, bare⟩
      rcases hO b with q | ⟨ob, q⟩
      · exact un.keep b o e q (fun y => absurd (show b ∈ ([] : List Addr) from y) (by simp)) (by simp)
      · have q2 := un.frzs b ob _ q
        obtain ⟨e1, _⟩ := hok b _ q
        obtain ⟨e2, _⟩ := hok' b _ q2
        rw [e] at e1
        cases e1
        exact e2
    | .ok .next, hh => exact hh.elim
    | .ok .brk, hh => exact hh.elim
    | .ok .cont, hh => exact hh.elim
  cases hk : K.lookup a with
  | some o =>
    have e := KX a o hk
    rw [ha] at e
    cases e
    have fr : FrL K (fun _ => none) a (ns.map V.int) := .inr ⟨_, us.toArray, _, hk, rfl, rfl, rfl, by rw [List.size_toArray, lus]; exact hl, by simpa using rus⟩
    exact key (fun _ => none) (fun _ => .inl rfl) fr (fun b u y => nomatch (show (none : Option HO) = some u from y)) (fun b y => absurd rfl y) (fun y => absurd rfl y)
  | none =>
    let ob : Obj := { cls := .type "list", data := .seq us.toArray }
    have at_a : ∀ b, (fun b => if b = a then some (HO.frz ob (.lst (ns.map V.int))) else none) b = if b = a then some (HO.frz ob (.lst (ns.map V.int))) else none := fun _ => rfl
    refine key (fun b => if b = a then some (.frz ob (.lst (ns.map V.int))) else none) (fun b => ?_) (.inl ⟨ob, if_pos rfl⟩) (fun b u y => ?_) (fun b y => ?_) (fun _ => hk)
    · by_cases q : b = a
      · exact .inr ⟨_, if_pos q⟩
      · exact .inl (if_neg q)
    · by_cases q : b = a
      · rw [at_a, if_pos q] at y
        cases y
        rw [q]
        exact ⟨ha, by rw [List.length_map]; exact hl, us, _, rus, ha⟩
      · rw [at_a, if_neg q] at y
        cases y
    · by_cases q : b = a
      · exact q
      · exact absurd (if_neg q) y
/-- THE END: what k_head leaves -/
theorem walk_end {l : PySem.W.OpenLaw} {n k : Nat} {q : Program} {loose : List Str} {XP : (Str → Option Value) → Heap → Prop} {YP : World → Heap → Prop} {d : DefRec} {K : Params → PySem.W.Frag} {x : Str} {ev : List CV → CH → Rs CV}
    (hn : l.most = some n) (hn2 : n ≤ sizeLine) (hdf : d.params.defaults = []) (hr : Rm k callerA) (hY : ∀ (w : World) (h : Heap), YP w h → (K w.params).In h)
    (F : ∀ (w : World) (mg : Str → Option Value) (fa : Addr) (h : Heap), (K w.params).In h → h.Ns mainGlobals mg → mg d.name = some (.ref fa) →
      ∃ (fd : FuncData) (g : Gc), g.K = K w.params ∧ (∀ (s : Shared) (u : Value), BindsTo s fd ⟨[u], []⟩ [(x, u)]) ∧
        ∀ base : Heap, (K w.params).In base → base.Ns mainGlobals mg → FnV l.prog w (K w.params) mg base k fa fd [x] (spV g ev))
    (hev : ∀ ns : List Int, ns.length ≤ n → ∃ h, ev [.fl (ns.map CV.int)] [] = .ok (.bl true) h) :
    PySem.W.WalkO q loose XP YP l.row.toRowW d [] (fun f vs => PySem.call f vs) := by
  refine Att.attach_call hn hdf fun w s₀ s₁ mg mb fa o pm cd doc a us ns G Y ho hd hcd hmg hobj hints hlen hg => ?_
  have KX := hY w _ Y
  obtain ⟨fd, g, hgk, hb, hF⟩ := F w mg fa _ KX G.T.g hmg
  exact end_call KX G.T.g G.T.b G.T.builtins G.T.nolimit hg hgk hobj hints (Nat.le_trans hlen hn2) hr hF hb (hev ns hlen)
end Vm

/-! Vm14: written dicts. -/
namespace Vm
open PySem PySem.Spec PyProof.Rows L2
def cNewK : ME := fun _ h => .ok (.ref h.length) (h ++ [.dK []])
def cNewT : ME := fun _ h => .ok (.ref h.length) (h ++ [.dT []])
section
variable {X : Cx} {W : Wd} {g : Gc} {pos : Pos}
theorem v_newK : PE X (.Dict [] [] pos) (te g W cNewK) := by
  refine PE_imp pe_dnewK fun σ H Q ⟨m, σc, h, cf, p⟩ q hn => ?_
  have R := cf.hr.alloc (o := .dK []) (ho := .dK []) hn ⟨[], upd_same, rfl⟩
  exact p _ _ _ (ext_alloc hn) R (mk_ref (new_at cf.hr q))
theorem v_newT : PE X (.Dict [] [] pos) (te g W cNewT) := by
  refine PE_imp pe_dnewT fun σ H Q ⟨m, σc, h, cf, p⟩ q hn => ?_
  have R := cf.hr.alloc (o := .dT []) (ho := .dT []) hn ⟨[], upd_same, rfl⟩
  exact p _ _ _ (ext_alloc hn) R (mk_ref (new_at cf.hr q))
end
def RelVV (g : Gc) : Rl (List (CV × CV)) (List (V × V)) := fun m H cs vs => match cs, vs with
  | [], [] => True
  | (a, b) :: r, (x, y) :: s => RelC g m H a x ∧ RelC g m H b y ∧ RelVV g m H r s
  | _, _ => False
theorem RelVV.mono {g : Gc} {m m' : List Addr} {H H' : Hp} (e : Ext m H m' H') : ∀ {cs : List (CV × CV)} {vs : List (V × V)}, RelVV g m H cs vs → RelVV g m' H' cs vs
  | [], [], h => True.intro
  | (a, b) :: r, (x, y) :: s, h => by
    unfold RelVV at h ⊢
    exact ⟨h.1.mono e, h.2.1.mono e, RelVV.mono e h.2.2⟩
  | [], _ :: _, h => h.elim
  | _ :: _, [], h => h.elim
def prs : List (ME × ME) → Env → CH → Rs (List (CV × CV))
  | [] => fun _ h => .ok [] h
  | (k, v) :: r => fun σ h => (k σ h).bind fun a h1 => (v σ h1).bind fun b h2 => (prs r σ h2).bind fun l h3 => .ok ((a, b) :: l) h3
structure PVs (X : Cx) (pos : Pos) (g : Gc) (W : Wd) (keys : List (Option Expr)) (values : List Expr) (fs : List (ME × ME)) : Prop where
  ex : ∃ trs, PPs X pos keys values trs ∧ ∀ σ H Q, tg (RelVV g) g W (prs fs) σ H Q → tPairs trs σ H Q
section
variable {X : Cx} {W : Wd} {g : Gc} {pos : Pos} {k v : Expr} {ks : List (Option Expr)} {vs : List Expr} {fk fv : ME} {fs : List (ME × ME)}
theorem pv_nil : PVs X pos g W [] [] [] := ⟨[], pps_nil, fun σ H Q ⟨m, σc, h, cf, p⟩ => p m H [] (.refl m H) cf.hr True.intro⟩
theorem pv_cons (hk : PE X k (te g W fk)) (hv : PE X v (te g W fv)) (hr : PVs X pos g W ks vs fs) : PVs X pos g W (some k :: ks) (v :: vs) ((fk, fv) :: fs) := by
  obtain ⟨trs, h1, h2⟩ := hr.ex
  refine ⟨(te g W fk, te g W fv) :: trs, pps_cons hk hv h1, fun σ H Q ⟨m, σc, h, cf, p⟩ => ?_⟩
  refine tg_bind (R2 := RelVV g) cf p fun a h1 m1 H1 x _ e1 cf1 ra p1 => ?_
  refine tg_bind (R2 := RelVV g) cf1 p1 fun b h2' m2 H2 y _ e2 cf2 rb p2 => ?_
  refine h2 _ _ _ (tg_bind (R2 := RelVV g) cf2 p2 fun l h3 m3 H3 z _ e3 cf3 rl p3 => ?_)
  exact OkP.here p3 cf3.hr ⟨ra.mono (e2.trans e3), rb.mono e3, rl⟩
end
def keysOf : List (CV × CV) → Option (List (Key × CV))
  | [] => some []
  | (a, b) :: r => (match keyC a, keysOf r with
    | some k, some l => some ((k, b) :: l)
    | _, _ => none)
def cDisp (fs : List (ME × ME)) : ME := fun σ h => (prs fs σ (h ++ [.dK []])).bind fun l h2 => match h2[h.length]?, keysOf l with
  | some (.dK []), some kvs => if kvs.length ≤ 15 then .ok (.ref h.length) (h2.set h.length (.dK (kvs.foldl (fun acc p => putC acc p.1 p.2) []))) else .no
  | _, _ => .no
theorem keysOf_rel {g : Gc} {m : List Addr} {H : Hp} : ∀ {l : List (CV × CV)} {ps : List (V × V)} {kvs : List (Key × CV)}, keysOf l = some kvs → RelVV g m H l ps → ∃ ws : List (Key × V), ps = ws.map (fun p => (kV p.1, p.2)) ∧ RelP g m H kvs ws
  | [], [], kvs, e, _ => by
    cases e
    exact ⟨[], rfl, rfl⟩
  | (a, b) :: r, (x, y) :: s, kvs, e, h => by
    unfold keysOf at e
    unfold RelVV at h
    obtain ⟨h1, h2, h3⟩ := h
    split at e
    · rename_i k l e1 e2
      cases e
      obtain ⟨ws, rfl, rp⟩ := keysOf_rel e2 h3
      exact ⟨(k, y) :: ws, by rw [keyC_rel e1 h1]; rfl, y, ws, rfl, h2, rp⟩
    · cases e
  | [], _ :: _, _, _, h => h.elim
  | _ :: _, [], _, _, h => h.elim
theorem merge_rel {g : Gc} {m : List Addr} {H : Hp} : ∀ {kvs : List (Key × CV)} {ws : List (Key × V)} {acc : List (Key × CV)} {bcc : List (Key × V)}, RelP g m H kvs ws → RelP g m H acc bcc → RelP g m H (kvs.foldl (fun acc p => putC acc p.1 p.2) acc) (mergeK bcc ws)
  | [], ws, acc, bcc, h, h2 => by
    cases h
    exact h2
  | p :: kvs, ws, acc, bcc, h, h2 => by
    obtain ⟨v, r, rfl, h1, h3⟩ := h
    exact merge_rel (kvs := kvs) (ws := r) h3 (RelP.put h1 h2)
section
variable {X : Cx} {W : Wd} {g : Gc} {pos : Pos} {keys : List (Option Expr)} {values : List Expr} {fs : List (ME × ME)}
theorem v_disp (h : PVs X pos g W keys values fs) (hall : keys.all (·.isSome) = true := by rfl) (hl : keys.length = values.length := by rfl) (h0 : keys ≠ [] := by intro z; cases z) (h15 : keys.length ≤ 15 := by decide) : PE X (.Dict keys values pos) (te g W (cDisp fs)) := by
  obtain ⟨trs, h1, h2⟩ := h.ex
  refine PE_imp (pe_disp h1 hall hl h0 h15) fun σ H Q ⟨m, σc, h, cf, p⟩ q hn => ?_
  have x0 : Ext m H (m ++ [q]) (upd H q (.dK [])) := ext_alloc hn
  have R := cf.hr.alloc (o := .dK []) (ho := .dK []) hn ⟨[], upd_same, rfl⟩
  refine h2 _ _ _ (tg_bind (R2 := RelC g) (cf.next x0 R) (PostG.go p x0) fun l h3 m3 H3 ps _ e3 cf3 rl p3 => ?_)
  split at p3
  · rename_i kvs en ek
    split at p3
    · rename_i h15'
      have mq : m3[h.length]? = some q := e3.get (new_at cf.hr q)
      obtain ⟨ws0, q3, r0⟩ := cf3.hr.ob _ _ _ en mq
      cases r0
      obtain ⟨ws, rfl, rp⟩ := keysOf_rel ek rl
      refine ⟨q3, ws, rfl, by rw [← rp.len]; exact h15', ?_⟩
      have ex : Ext m3 H3 m3 (upd H3 q (.dK (mergeK [] ws))) := ext_put mq q3 True.intro
      exact p3 m3 _ _ ex (cf3.hr.put mq q3 True.intro ⟨_, upd_same, merge_rel (rp.mono ex) rfl⟩) (mk_ref mq)
    · exact p3.elim
  · exact p3.elim
end
end Vm

/-! Vm15: a def whose arguments and answer hold no object of ours runs the same behind every heap. -/
namespace Vm
open PySem PySem.Spec PyProof.Rows L2
mutual
def flat : CV → Bool
  | .ref _ => false
  | .tup xs => flats xs
  | .kt xs => flats xs
  | .fl xs => flats xs
  | .non => true
  | .bl _ => true
  | .int _ => true
  | .str _ => true
  | .ty _ => true
  | .cls _ => true
def flats : List CV → Bool
  | [] => true
  | c :: cs => flat c && flats cs
end
def flatF : List (Str × CV) → Bool
  | [] => true
  | p :: ps => flat p.2 && flatF ps
mutual
theorem RelC.flat {g : Gc} {m m' : List Addr} {H : Hp} : ∀ {c : CV} {v : V}, flat c = true → RelC g m H c v → RelC g m' H c v
  | .ref _, _, f, _ => by cases f
  | .non, _, _, h => by simpa only [RelC] using h
  | .bl _, _, _, h => by simpa only [RelC] using h
  | .int _, _, _, h => by simpa only [RelC] using h
  | .str _, _, _, h => by simpa only [RelC] using h
  | .ty _, _, _, h => by simpa only [RelC] using h
  | .cls _, _, _, h => by simpa only [RelC] using h
  | .tup cs, v, f, h => by
    simp only [RelC] at h ⊢
    obtain ⟨a, vs, ev, hs, hr⟩ := h
    exact ⟨a, vs, ev, hs, RelCs.flat (cs := cs) (by simpa only [Vm.flat] using f) hr⟩
  | .kt cs, v, f, h => by
    simp only [RelC] at h ⊢
    obtain ⟨a, vs, ev, hs, hr⟩ := h
    exact ⟨a, vs, ev, hs, RelCs.flat (cs := cs) (by simpa only [Vm.flat] using f) hr⟩
  | .fl cs, v, f, h => by
    simp only [RelC] at h ⊢
    obtain ⟨a, vs, ev, hs, hr⟩ := h
    exact ⟨a, vs, ev, hs, RelCs.flat (cs := cs) (by simpa only [Vm.flat] using f) hr⟩
theorem RelCs.flat {g : Gc} {m m' : List Addr} {H : Hp} : ∀ {cs : List CV} {vs : List V}, flats cs = true → RelCs g m H cs vs → RelCs g m' H cs vs
  | [], _, _, h => by simpa only [RelCs] using h
  | c :: cs, vs, f, h => by
    simp only [RelCs] at h ⊢
    simp only [flats, Bool.and_eq_true] at f
    obtain ⟨v, r, ev, h1, h2⟩ := h
    exact ⟨v, r, ev, RelC.flat f.1 h1, RelCs.flat f.2 h2⟩
end
theorem RelP.flat {g : Gc} {m m' : List Addr} {H : Hp} : ∀ {fs : List (Str × CV)} {vs : List (Str × V)}, flatF fs = true → RelP g m H fs vs → RelP g m' H fs vs
  | [], _, _, h => h
  | p :: ps, vs, f, h => by
    unfold flatF at f
    rw [Bool.and_eq_true] at f
    obtain ⟨v, r, ev, h1, h2⟩ := h
    exact ⟨v, r, ev, RelC.flat f.1 h1, RelP.flat f.2 h2⟩
def pureOf (ev : List CV → CH → Rs CV) : List CV → CH → Rs CV := fun cs h =>
  if flats cs = true then (match ev cs [] with
    | .ok c h0 => if flat c = true then .ok c h else ev cs h
    | .ex k fs h0 => if flatF fs = true then .ex k fs h else ev cs h
    | .no => ev cs h)
  else ev cs h
theorem pure_ok {ev : List CV → CH → Rs CV} {cs : List CV} {c : CV} {h0 h : CH} (hf : flats cs = true) (e : ev cs [] = .ok c h0) (hc : flat c = true) : pureOf ev cs h = .ok c h := by
  unfold pureOf
  rw [if_pos hf, e]
  exact if_pos hc
theorem pure_ex {ev : List CV → CH → Rs CV} {cs : List CV} {k : Nat} {fs : List (Str × CV)} {h0 h : CH} (hf : flats cs = true) (e : ev cs [] = .ex k fs h0) (hc : flatF fs = true) : pureOf ev cs h = .ex k fs h := by
  unfold pureOf
  rw [if_pos hf, e]
  exact if_pos hc
theorem pure_no {ev : List CV → CH → Rs CV} {cs : List CV} {h : CH} (hf : flats cs = false) : pureOf ev cs h = ev cs h := by
  unfold pureOf
  rw [hf, if_neg Bool.false_ne_true]
/-- the frame: nothing was told, so nothing told has changed -/
theorem ext_nil {m m' : List Addr} {H H' : Hp} (e : Ext [] H m' H') : Ext m H m H' := by
  have k : ∀ a u, H a = some u → H' a = some u := fun a u h => e.fr a u h (by simp)
  exact ⟨List.prefix_refl m, ⟨fun a xs h => k a _ h, fun a o u h => k a _ h, fun a fs h => k a _ h, fun a φ h => k a _ h, fun a o h => ⟨o, k a o h⟩⟩, fun a u h _ => k a u h, fun a h => .inl h⟩
theorem hrel_nil {g : Gc} {m m' : List Addr} {H H' : Hp} {h : CH} (e : Ext [] H m' H') (R : HRel g m h H) : HRel g m h H' := by
  refine ⟨R.nd, R.len, fun n o a e1 e2 => ?_⟩
  have r := R.ob n o a e1 e2
  obtain ⟨u, q⟩ := r.got
  exact r.keep (ext_nil e) ((e.fr a u q (by simp)).trans q.symm)
theorem pure_sp {g : Gc} {ev : List CV → CH → Rs CV} {vs : List V} {H : Hp} {Q : VK} {E : XK} (s : spV g (pureOf ev) vs H Q E) : spV g ev vs H Q E := by
  obtain ⟨m, cs, h, R, rc, p⟩ := s
  unfold pureOf at p
  split at p
  · rename_i hf
    split at p
    · rename_i c h0 ee
      split at p
      · rename_i hc
        refine ⟨[], cs, [], ⟨by simp, rfl, fun n o b e => nomatch e⟩, rc.flat hf, ?_⟩
        rw [ee]
        exact fun m' H' v e R' rv => p m H' v (ext_nil e) (hrel_nil e R) (rv.flat hc)
      · exact ⟨m, cs, h, R, rc, p⟩
    · rename_i k fs h0 ee
      split at p
      · rename_i hc
        refine ⟨[], cs, [], ⟨by simp, rfl, fun n o b e => nomatch e⟩, rc.flat hf, ?_⟩
        rw [ee]
        exact fun m' H' dd vs e R' x rv => p m H' dd vs (ext_nil e) (hrel_nil e R) x (rv.flat hc)
      · exact ⟨m, cs, h, R, rc, p⟩
    · exact ⟨m, cs, h, R, rc, p⟩
  · exact ⟨m, cs, h, R, rc, p⟩
theorem FnV.pure {P : Program} {w : World} {K : PySem.W.Frag} {mg : Str → Option Value} {base : Heap} {k : Nat} {f : Addr} {fd : FuncData} {ps : List Str} {g : Gc} {ev : List CV → CH → Rs CV}
    (F : FnV P w K mg base k f fd ps (spV g ev)) : FnV P w K mg base k f fd ps (spV g (pureOf ev)) :=
  ⟨fun vs H Q E s => F.len vs H Q E (pure_sp s), fun A l s H args us vs Q E rm e0 hb r sp => F.go A l s H args us vs Q E rm e0 hb r (pure_sp sp)⟩
/-! small steps for plain readings -/
theorem forS_inv {t : MG} {f : MS} (I : Nat → Env → CH → Prop) : ∀ (cs : List CV) (i : Nat) (σ : Env) (h : CH), I i σ h →
    (∀ j c σ h, cs[j]? = some c → I (i + j) σ h → ∃ σ1 σ2 h2, t c σ h = some σ1 ∧ (f σ1 h = .nx σ2 h2 ∨ f σ1 h = .ct σ2 h2) ∧ I (i + j + 1) σ2 h2) → ∃ σ' h', forS t f cs σ h = .nx σ' h' ∧ I (i + cs.length) σ' h'
  | [], i, σ, h, h0, hs => ⟨σ, h, rfl, h0⟩
  | c :: cs, i, σ, h, h0, hs => by
    obtain ⟨σ1, σ2, h2, e1, e2, i2⟩ := hs 0 c σ h rfl h0
    obtain ⟨σ', h', e, i'⟩ := forS_inv I cs (i + 1) σ2 h2 i2 (fun j d σ h hj hi => by
      have := hs (j + 1) d σ h hj (by rw [show i + (j + 1) = i + 1 + j by omega]; exact hi)
      rw [show i + (j + 1) + 1 = i + 1 + j + 1 by omega] at this
      exact this)
    refine ⟨σ', h', ?_, by rw [List.length_cons, show i + (cs.length + 1) = i + 1 + cs.length by omega]; exact i'⟩
    unfold forS
    rw [e1]
    rcases e2 with e2 | e2
    · dsimp only
      rw [e2]
      exact e
    · dsimp only
      rw [e2]
      exact e
theorem forG_inv {t : MG} {f : MS} {n : Nat} {xs : List CV} (I : Nat → Env → CH → Prop) (hl : ∀ i σ h, I i σ h → h[n]? = some (.lst xs))
    (hs : ∀ i c σ h, xs[i]? = some c → I i σ h → ∃ σ1 σ2 h2, t c σ h = some σ1 ∧ (f σ1 h = .nx σ2 h2 ∨ f σ1 h = .ct σ2 h2) ∧ I (i + 1) σ2 h2) :
    ∀ (k i fuel : Nat) (σ : Env) (h : CH), xs.length - i = k → i ≤ xs.length → k < fuel → I i σ h → ∃ σ' h', forG (.ls n) t f fuel i σ h = .nx σ' h' ∧ I xs.length σ' h'
  | 0, i, 0, σ, h, hk, hi, hf, h0 => by omega
  | 0, i, fuel + 1, σ, h, hk, hi, hf, h0 => by
    have ei : i = xs.length := by omega
    refine ⟨σ, h, ?_, ei ▸ h0⟩
    unfold forG
    dsimp only [nxt]
    rw [hl i σ h h0]
    dsimp only
    rw [List.getElem?_eq_none_iff.mpr (by omega)]
  | k + 1, i, 0, σ, h, hk, hi, hf, h0 => by omega
  | k + 1, i, fuel + 1, σ, h, hk, hi, hf, h0 => by
    have hlt : i < xs.length := by omega
    obtain ⟨σ1, σ2, h2, e1, e2, i2⟩ := hs i xs[i] σ h (List.getElem?_eq_getElem hlt) h0
    obtain ⟨σ', h', e, i'⟩ := forG_inv I hl hs k (i + 1) fuel σ2 h2 (by omega) (by omega) (by omega) i2
    refine ⟨σ', h', ?_, i'⟩
    unfold forG
    dsimp only [nxt]
    rw [hl i σ h h0]
    dsimp only
    rw [List.getElem?_eq_getElem hlt]
    dsimp only
    rw [e1]
    rcases e2 with e2 | e2
    · dsimp only
      rw [e2]
      exact e
    · dsimp only
      rw [e2]
      exact e
end Vm

/-! Vm16: plain readings of the machine, step by step. -/
namespace Vm
open PySem PySem.Spec PyProof.Rows L2
def okIs (r : Rs CV) (p : CV → Bool) : Bool := match r with
  | .ok c _ => p c
  | _ => false
section
variable {n N : Nat} {body f u : MS} {fe fa fb : ME} {fs : MA} {ft : MT} {t : MG} {cs : List CV} {h h1 h2 : CH} {c a b : CV} {σ σ1 σ2 : Env} {rc : RC} {rk : RK} {x : Bool}
theorem def_rt (hl : cs.length = n) (e : body (cs.map some ++ List.replicate (N - n) none) h = .rt c h1) : cDef n N body cs h = .ok c h1 := by
  unfold cDef
  rw [if_pos hl, e]
theorem def_nx (hl : cs.length = n) (e : body (cs.map some ++ List.replicate (N - n) none) h = .nx σ1 h1) : cDef n N body cs h = .ok .non h1 := by
  unfold cDef
  rw [if_pos hl, e]
theorem seq_nx (e : f σ h = .nx σ1 h1) : cSeq f u σ h = u σ1 h1 := by
  unfold cSeq
  rw [e]
theorem seq_rt (e : f σ h = .rt c h1) : cSeq f u σ h = .rt c h1 := by
  unfold cSeq
  rw [e]
theorem seq_ex {k : Nat} {xs : List (Str × CV)} (e : f σ h = .ex k xs σ1 h1) : cSeq f u σ h = .ex k xs σ1 h1 := by
  unfold cSeq
  rw [e]
theorem asg_ok {i : Nat} (e : fe σ h = .ok c h1) : cAsg fe i σ h = .nx (σ.set i (some c)) h1 := by
  unfold cAsg
  rw [e]
  rfl
theorem asgT_ok (e : fe σ h = .ok c h1) (et : t c σ h1 = some σ1) : cAsgT fe t σ h = .nx σ1 h1 := by
  unfold cAsgT
  rw [e]
  unfold Rs.st
  dsimp only
  rw [et]
theorem expr_ok (e : fe σ h = .ok c h1) : cExpr fe σ h = .nx σ h1 := by
  unfold cExpr
  rw [e]
  rfl
theorem expr_ex {k : Nat} {xs : List (Str × CV)} (e : fe σ h = .ex k xs h1) : cExpr fe σ h = .ex k xs σ h1 := by
  unfold cExpr
  rw [e]
  rfl
theorem ret_ok (e : fe σ h = .ok c h1) : cRet fe σ h = .rt c h1 := by
  unfold cRet
  rw [e]
  rfl
theorem if_t (e : ft σ h = .ok true h1) : cIfS ft f u σ h = f σ h1 := by
  unfold cIfS
  rw [e]
  rfl
theorem if_f (e : ft σ h = .ok false h1) : cIfS ft f u σ h = u σ h1 := by
  unfold cIfS
  rw [e]
  rfl
theorem if_b (e : ft σ h = .ok x h1) : cIfS ft f u σ h = if x = true then f σ h1 else u σ h1 := by
  unfold cIfS
  rw [e]
  rfl
theorem par_ok {i j : Nat} (e : fs σ h = .ok [a, b] h1) : cPar i j fs σ h = .nx ((σ.set i (some a)).set j (some b)) h1 := by
  unfold cPar
  rw [e]
  rfl
theorem nil_ok : cNil σ h = .ok [] h := rfl
theorem cons_ok (e : fa σ h = .ok a h1) (es : fs σ h1 = .ok cs h2) : cCons fa fs σ h = .ok (a :: cs) h2 := by
  unfold cCons
  rw [e]
  unfold Rs.bind
  dsimp only
  rw [es]
theorem one_ok (e : fa σ h = .ok a h1) : cCons fa cNil σ h = .ok [a] h1 := cons_ok e rfl
theorem two_ok (e : fa σ h = .ok a h1) (e2 : fb σ h1 = .ok b h2) : cCons fa (cCons fb cNil) σ h = .ok [a, b] h2 := cons_ok e (cons_ok e2 rfl)
theorem tup_ok (e : fs σ h = .ok cs h1) (hl : cs.length ≤ line) : cTup fs σ h = .ok (.tup cs) h1 := by
  unfold cTup
  rw [e]
  exact if_pos hl
theorem lst_ok (e : fs σ h = .ok cs h1) (hl : cs.length ≤ line) : cLst fs σ h = .ok (.ref h1.length) (h1 ++ [.lst cs]) := by
  unfold cLst
  rw [e]
  exact if_pos hl
theorem op_ok {r : CV × CH} (ea : fa σ h = .ok a h1) (eb : fb σ h1 = .ok b h2) (e : rc a b h2 = some r) : cOp rc fa fb σ h = .ok r.1 r.2 := by
  unfold cOp
  rw [ea]
  unfold Rs.bind
  dsimp only
  rw [eb]
  dsimp only
  rw [e]
  rfl
theorem bi_ok {r : CV × CH} (e : fs σ h = .ok cs h1) (er : rk cs h1 = some r) : cBi rk fs σ h = .ok r.1 r.2 := by
  unfold cBi
  rw [e]
  unfold Rs.bind
  dsimp only
  rw [er]
  rfl
theorem call_ok {ev : List CV → CH → Rs CV} (e : fs σ h = .ok cs h1) : cCall ev fs σ h = ev cs h1 := by
  unfold cCall
  rw [e]
  rfl
theorem tst_ok (e : fe σ h = .ok (.bl x) h1) : cTst fe σ h = .ok x h1 := by
  unfold cTst
  rw [e]
  rfl
theorem not_ok (e : ft σ h = .ok x h1) : cNot ft σ h = .ok (!x) h1 := by
  unfold cNot
  rw [e]
  rfl
theorem or_t {fu : MT} (e : ft σ h = .ok true h1) : cOr ft fu σ h = .ok true h1 := by
  unfold cOr
  rw [e]
  rfl
theorem or_f {fu : MT} (e : ft σ h = .ok false h1) : cOr ft fu σ h = fu σ h1 := by
  unfold cOr
  rw [e]
  rfl
theorem and_t {fu : MT} (e : ft σ h = .ok true h1) : cAnd ft fu σ h = fu σ h1 := by
  unfold cAnd
  rw [e]
  rfl
theorem and_f {fu : MT} (e : ft σ h = .ok false h1) : cAnd ft fu σ h = .ok false h1 := by
  unfold cAnd
  rw [e]
  rfl
/-! ints -/
theorem add_i (ea : fa σ h = .ok (.int i) h1) (eb : fb σ h1 = .ok (.int j) h2) : cOp rcAdd fa fb σ h = .ok (.int (i + j)) h2 := op_ok (r := (_, _)) ea eb rfl
theorem sub_i (ea : fa σ h = .ok (.int i) h1) (eb : fb σ h1 = .ok (.int j) h2) : cOp rcSub fa fb σ h = .ok (.int (i - j)) h2 := op_ok (r := (_, _)) ea eb rfl
theorem mul_i {i j : Int} (m : mulOk i j = true) (ea : fa σ h = .ok (.int i) h1) (eb : fb σ h1 = .ok (.int j) h2) : cOp rcMul fa fb σ h = .ok (.int (i * j)) h2 := by
  refine op_ok (r := (_, _)) ea eb ?_
  unfold rcMul rcMulI rcI
  dsimp only
  rw [if_pos m]
  rfl
theorem mod_i {i j : Int} (m : 0 < j) (ea : fa σ h = .ok (.int i) h1) (eb : fb σ h1 = .ok (.int j) h2) : cOp rcMod fa fb σ h = .ok (.int (i % j)) h2 := by
  refine op_ok (r := (_, _)) ea eb ?_
  unfold rcMod rcI
  dsimp only
  rw [if_pos (decide_eq_true m)]
theorem div_i {i j : Int} (m : divOk i j = true) (ea : fa σ h = .ok (.int i) h1) (eb : fb σ h1 = .ok (.int j) h2) : cOp rcDiv fa fb σ h = .ok (.int (i / j)) h2 := by
  refine op_ok (r := (_, _)) ea eb ?_
  unfold rcDiv rcI
  dsimp only
  rw [if_pos m]
theorem lt_i (ea : fa σ h = .ok (.int i) h1) (eb : fb σ h1 = .ok (.int j) h2) : cTst (cOp rcLt fa fb) σ h = .ok (decide (i < j)) h2 := tst_ok (op_ok (r := (_, _)) ea eb rfl)
theorem le_i (ea : fa σ h = .ok (.int i) h1) (eb : fb σ h1 = .ok (.int j) h2) : cTst (cOp rcLe fa fb) σ h = .ok (decide (i ≤ j)) h2 := tst_ok (op_ok (r := (_, _)) ea eb rfl)
theorem gt_i (ea : fa σ h = .ok (.int i) h1) (eb : fb σ h1 = .ok (.int j) h2) : cTst (cOp rcGt fa fb) σ h = .ok (decide (j < i)) h2 := tst_ok (op_ok (r := (_, _)) ea eb rfl)
theorem ge_i (ea : fa σ h = .ok (.int i) h1) (eb : fb σ h1 = .ok (.int j) h2) : cTst (cOp rcGe fa fb) σ h = .ok (decide (j ≤ i)) h2 := tst_ok (op_ok (r := (_, _)) ea eb rfl)
theorem eqv_i (ea : fa σ h = .ok (.int i) h1) (eb : fb σ h1 = .ok (.int j) h2) : cOp (rcEq false) fa fb σ h = .ok (.bl (decide (i = j))) h2 := by
  refine op_ok (r := (_, _)) ea eb ?_
  unfold rcEq rcEqS eqS
  by_cases q : i = j <;> simp [q]
theorem nev_i (ea : fa σ h = .ok (.int i) h1) (eb : fb σ h1 = .ok (.int j) h2) : cOp (rcEq true) fa fb σ h = .ok (.bl (!decide (i = j))) h2 := by
  refine op_ok (r := (_, _)) ea eb ?_
  unfold rcEq rcEqS eqS
  by_cases q : i = j <;> simp [q]
theorem eq_i (ea : fa σ h = .ok (.int i) h1) (eb : fb σ h1 = .ok (.int j) h2) : cTst (cOp (rcEq false) fa fb) σ h = .ok (decide (i = j)) h2 := tst_ok (eqv_i ea eb)
theorem ne_i (ea : fa σ h = .ok (.int i) h1) (eb : fb σ h1 = .ok (.int j) h2) : cTst (cOp (rcEq true) fa fb) σ h = .ok (!decide (i = j)) h2 := tst_ok (nev_i ea eb)
theorem int_i (e : fa σ h = .ok (.int i) h1) : cBi rkInt (cCons fa cNil) σ h = .ok (.int i) h1 := bi_ok (r := (_, _)) (one_ok e) rfl
theorem neg_i (e : fa σ h = .ok (.int i) h1) : cNeg fa σ h = .ok (.int (-i)) h1 := by
  unfold cNeg
  rw [e]
  rfl
theorem for_r1 {j : Int} (e : fa σ h = .ok (.int j) h1) (hb : rngB j = true) : cFor (cRng1 (cCons fa cNil)) t f σ h = forS t f (rngC 0 j.toNat) σ h1 := by
  unfold cFor cRng1
  rw [one_ok e]
  unfold Rs.bind
  dsimp only
  rw [if_pos hb]
  rfl
theorem for_r2 {i j : Int} (e : fa σ h = .ok (.int i) h1) (e2 : fb σ h1 = .ok (.int j) h2) (hb : rngB i = true) (hb2 : rngB j = true) : cFor (cRng2 (cCons fa (cCons fb cNil))) t f σ h = forS t f (rngC i (j - i).toNat) σ h2 := by
  unfold cFor cRng2
  rw [two_ok e e2]
  unfold Rs.bind
  dsimp only
  rw [hb, hb2]
  rfl
end
theorem pow_i {i j : Int} {fa fb : ME} {σ : Env} {h h1 h2 : CH} (m : powOk i j = true) (ea : fa σ h = .ok (.int i) h1) (eb : fb σ h1 = .ok (.int j) h2) : cOp rcPow fa fb σ h = .ok (.int (i ^ j.toNat)) h2 := by
  refine op_ok (r := (_, _)) ea eb ?_
  unfold rcPow rcI
  dsimp only
  rw [if_pos m]
theorem app_ok {fo fa : ME} {σ : Env} {h h1 h2 : CH} {n : Nat} {xs : List CV} {c : CV} (eo : fo σ h = .ok (.ref n) h1) (e1 : h1[n]? = some (.lst xs)) (ea : fa σ h1 = .ok c h2) (e2 : h2[n]? = some (.lst xs)) (hl : xs.length < line) :
    cML rmApp fo (cCons fa cNil) σ h = .ok .non (h2.set n (.lst (xs ++ [c]))) := by
  unfold cML
  rw [eo]
  unfold Rs.bind
  dsimp only
  have il : isL h1 (.ref n) = true := by
    unfold isL lsC
    dsimp only
    rw [e1]
    rfl
  rw [if_pos il, one_ok ea]
  dsimp only
  unfold rmApp
  dsimp only
  rw [e2]
  dsimp only
  rw [if_pos hl]
  rfl
theorem for_seq {fe : ME} {t : MG} {f : MS} {σ : Env} {h h1 : CH} {c : CV} {xs : List CV} (e : fe σ h = .ok c h1) (ei : itC h1 c = some (.st xs)) : cFor (cItS fe) t f σ h = forS t f xs σ h1 := by
  unfold cFor cItS
  rw [e]
  unfold Rs.bind
  dsimp only
  rw [ei]
  rfl
theorem for_lst {fe : ME} {t : MG} {f : MS} {σ : Env} {h h1 : CH} {n : Nat} {xs : List CV} (e : fe σ h = .ok (.ref n) h1) (ei : h1[n]? = some (.lst xs)) : cFor (cItS fe) t f σ h = forG (.ls n) t f (xs.length + 1000001) 0 σ h1 := by
  unfold cFor cItS
  rw [e]
  unfold Rs.bind
  dsimp only [itC]
  rw [ei]
  unfold Rs.st fuelOf
  dsimp only
  rw [ei]
theorem forS_invB {t : MG} {f : MS} (I : Nat → Env → CH → Prop) : ∀ (cs : List CV) (i : Nat) (σ : Env) (h : CH), I i σ h →
    (∀ j c σ h, cs[j]? = some c → I (i + j) σ h → ∃ σ1 σ2 h2, t c σ h = some σ1 ∧ (f σ1 h = .nx σ2 h2 ∨ f σ1 h = .ct σ2 h2 ∨ f σ1 h = .bk σ2 h2) ∧ I (i + j + 1) σ2 h2) → ∃ k σ' h', forS t f cs σ h = .nx σ' h' ∧ k ≤ i + cs.length ∧ I k σ' h'
  | [], i, σ, h, h0, hs => ⟨i, σ, h, rfl, Nat.le_refl _, h0⟩
  | c :: cs, i, σ, h, h0, hs => by
    obtain ⟨σ1, σ2, h2, e1, e2, i2⟩ := hs 0 c σ h rfl h0
    rcases e2 with e2 | e2 | e2
    · obtain ⟨k, σ', h', e, hk, i'⟩ := forS_invB I cs (i + 1) σ2 h2 i2 (fun j d σ h hj hi => by
        have := hs (j + 1) d σ h hj (by rw [show i + (j + 1) = i + 1 + j by omega]; exact hi)
        rw [show i + (j + 1) + 1 = i + 1 + j + 1 by omega] at this
        exact this)
      refine ⟨k, σ', h', ?_, by rw [List.length_cons]; omega, i'⟩
      unfold forS
      rw [e1]
      dsimp only
      rw [e2]
      exact e
    · obtain ⟨k, σ', h', e, hk, i'⟩ := forS_invB I cs (i + 1) σ2 h2 i2 (fun j d σ h hj hi => by
        have := hs (j + 1) d σ h hj (by rw [show i + (j + 1) = i + 1 + j by omega]; exact hi)
        rw [show i + (j + 1) + 1 = i + 1 + j + 1 by omega] at this
        exact this)
      refine ⟨k, σ', h', ?_, by rw [List.length_cons]; omega, i'⟩
      unfold forS
      rw [e1]
      dsimp only
      rw [e2]
      exact e
    · refine ⟨i + 1, σ2, h2, ?_, by rw [List.length_cons]; omega, i2⟩
      unfold forS
      rw [e1]
      dsimp only
      rw [e2]
theorem pure_nil {ev : List CV → CH → Rs CV} {cs : List CV} {c : CV} {h0 : CH} (e : ev cs [] = .ok c h0) (hc : flat c = false) : pureOf ev cs [] = .ok c h0 := by
  unfold pureOf
  rw [e]
  dsimp only
  rw [hc, if_neg Bool.false_ne_true]
  split <;> rfl
theorem ix_dict {n : Nat} {h : CH} {kvs : List (Key × CV)} {x : Str} {c : CV} (e : h[n]? = some (.dK kvs)) (ev : valC kvs (.inr x) = some c) : rcIx (.ref n) (.str x) h = some (c, h) := by
  unfold rcIx rcIxS rcIxD sqIx dGet
  dsimp only
  rw [e]
  dsimp only [keyC]
  rw [Option.map_some, ev]
  rfl
theorem atI_n {α : Type} {xs : List α} {i : Nat} {x : α} (e : xs[i]? = some x) : atI xs (i : Int) = some x := by
  have hl := (List.getElem?_eq_some_iff.mp e).1
  unfold atI ixN
  rw [if_pos (by omega), if_pos (by omega), Int.toNat_natCast]
  exact e
theorem atI_last {α : Type} {xs : List α} {x : α} : atI (xs ++ [x]) (-1) = some x := by
  unfold atI ixN
  rw [if_neg (by omega), if_pos (by rw [List.length_append, List.length_singleton]; omega)]
  have : ((-1 : Int) + ((xs ++ [x]).length : Int)).toNat = xs.length := by
    rw [List.length_append, List.length_singleton]
    omega
  rw [this]
  simp
theorem ix_lst {n : Nat} {h : CH} {xs : List CV} {i : Int} {c : CV} (e : h[n]? = some (.lst xs)) (ei : atI xs i = some c) : rcIx (.ref n) (.int i) h = some (c, h) := by
  unfold rcIx rcIxS sqIx sqC
  dsimp only
  rw [e]
  dsimp only
  rw [Option.bind_some, ei]
  rfl
theorem ix_tup {h : CH} {xs : List CV} {i : Int} {c : CV} (ei : atI xs i = some c) : rcIx (.tup xs) (.int i) h = some (c, h) := by
  unfold rcIx rcIxS sqIx sqC
  dsimp only
  rw [Option.bind_some, ei]
  rfl
theorem len_lst {n : Nat} {h : CH} {xs : List CV} (e : h[n]? = some (.lst xs)) : (fun as h => (rkLen as h).or (rkLenD as h)) [.ref n] h = some (.int xs.length, h) := by
  show (rkLen [.ref n] h).or (rkLenD [.ref n] h) = _
  unfold rkLen lenC sqC
  dsimp only
  rw [e]
  rfl
theorem len_tup {h : CH} {xs : List CV} : (fun as h => (rkLen as h).or (rkLenD as h)) [.tup xs] h = some (.int xs.length, h) := rfl
theorem setix_dict {fo fi fv : ME} {σ : Env} {h h1 h2 h3 : CH} {n : Nat} {x : Str} {v : CV} {kvs : List (Key × CV)} (ev : fv σ h = .ok v h1) (eo : fo σ h1 = .ok (.ref n) h2) (ei : fi σ h2 = .ok (.str x) h3) (e : h3[n]? = some (.dK kvs)) (hl : kvs.length < line) :
    cSetIx fo fi fv σ h = .nx σ (h3.set n (.dK (putC kvs (.inr x) v))) := by
  unfold cSetIx
  rw [ev]
  unfold Rs.st
  dsimp only
  rw [eo]
  dsimp only
  rw [ei]
  dsimp only [setIx]
  rw [e]
  dsimp only
  unfold dPut
  rw [e]
  dsimp only [keyC]
  rw [if_pos hl]
theorem setix_lst {fo fi fv : ME} {σ : Env} {h h1 h2 h3 : CH} {n : Nat} {i : Nat} {v : CV} {xs : List CV} (ev : fv σ h = .ok v h1) (eo : fo σ h1 = .ok (.ref n) h2) (ei : fi σ h2 = .ok (.int i) h3) (e : h3[n]? = some (.lst xs)) (hl : i < xs.length) :
    cSetIx fo fi fv σ h = .nx σ (h3.set n (.lst (xs.set i v))) := by
  unfold cSetIx
  rw [ev]
  unfold Rs.st
  dsimp only
  rw [eo]
  dsimp only
  rw [ei]
  dsimp only [setIx]
  rw [e]
  dsimp only
  unfold ixN
  rw [if_pos (by omega), if_pos (by omega), Int.toNat_natCast]
  rfl
/-! a comprehension whose items leave the heap alone -/
theorem push_at {h : CH} {N : Nat} {acc : List CV} {y : CV} (e : h[N]? = some (.lst acc)) (hl : acc.length < line) : pushC h N y = some (h.set N (.lst (acc ++ [y]))) := by
  unfold pushC
  rw [e]
  dsimp only
  rw [if_pos hl]
theorem lcS_fm {t : MG} {c : MT} {e : ME} {N : Nat} {σ : Env} (g : CV → Option CV) : ∀ (xs : List CV) (acc : List CV) (h : CH), h[N]? = some (.lst acc) → acc.length + xs.length ≤ line →
    (∀ x ∈ xs, ∀ l : CO, ∃ σ1, t x σ (h.set N l) = some σ1 ∧ (match g x with
      | none => c σ1 (h.set N l) = .ok false (h.set N l)
      | some y => c σ1 (h.set N l) = .ok true (h.set N l) ∧ e σ1 (h.set N l) = .ok y (h.set N l))) →
    lcS t c e N xs σ h = .ok (.ref N) (h.set N (.lst (acc ++ xs.filterMap g)))
  | [], acc, h, e0, hl, hs => by
    unfold lcS
    rw [List.filterMap_nil, List.append_nil]
    congr 1
    apply List.ext_getElem?
    intro i
    by_cases hi : N = i
    · subst hi
      rw [List.getElem?_set_self (List.getElem?_eq_some_iff.mp e0).1, e0]
    · rw [List.getElem?_set_ne hi]
  | x :: xs, acc, h, e0, hl, hs => by
    have hN := (List.getElem?_eq_some_iff.mp e0).1
    have same : h.set N (.lst acc) = h := by
      apply List.ext_getElem?
      intro i
      by_cases hi : N = i
      · subst hi
        rw [List.getElem?_set_self hN, e0]
      · rw [List.getElem?_set_ne hi]
    obtain ⟨σ1, e1, e2⟩ := hs x List.mem_cons_self (.lst acc)
    rw [same] at e1 e2
    have step : ∀ acc' : List CV, acc'.length + xs.length ≤ line → lcS t c e N xs σ (h.set N (.lst acc')) = .ok (.ref N) (h.set N (.lst (acc' ++ xs.filterMap g))) := fun acc' hl' => by
      have := lcS_fm g xs acc' (h.set N (.lst acc')) (List.getElem?_set_self hN) hl' (fun x hx l => by
        rw [List.set_set]
        exact hs x (List.mem_cons_of_mem _ hx) l)
      rw [List.set_set] at this
      exact this
    unfold lcS
    rw [e1]
    dsimp only
    rw [List.length_cons] at hl
    cases hg : g x with
    | none =>
      rw [hg] at e2
      dsimp only at e2
      rw [e2]
      unfold Rs.bq
      dsimp only
      rw [if_neg Bool.false_ne_true, List.filterMap_cons_none hg]
      have := step acc (by omega)
      rw [same] at this
      exact this
    | some y =>
      rw [hg] at e2
      obtain ⟨e2, e3⟩ := e2
      rw [e2]
      unfold Rs.bq
      dsimp only
      rw [if_pos rfl, e3]
      dsimp only
      rw [push_at e0 (by omega)]
      dsimp only
      rw [List.filterMap_cons_some hg]
      have := step (acc ++ [y]) (by rw [List.length_append, List.length_singleton]; omega)
      rw [List.append_assoc] at this
      exact this
theorem lc_st {fi : MI} {vs : List Nat} {t : MG} {c : MT} {e : ME} {σ : Env} {h h1 : CH} {xs : List CV} (g : CV → Option CV) (ei : fi σ h = .ok (.st xs) h1) (hl : xs.length ≤ line)
    (hs : ∀ x ∈ xs, ∀ l : CO, ∃ σ1, t x (wipeC σ vs) (h1 ++ [l]) = some σ1 ∧ (match g x with
      | none => c σ1 (h1 ++ [l]) = .ok false (h1 ++ [l])
      | some y => c σ1 (h1 ++ [l]) = .ok true (h1 ++ [l]) ∧ e σ1 (h1 ++ [l]) = .ok y (h1 ++ [l]))) :
    cLc fi vs t c e σ h = .ok (.ref h1.length) (h1 ++ [.lst (xs.filterMap g)]) := by
  have st : ∀ l l' : CO, (h1 ++ [l]).set h1.length l' = h1 ++ [l'] := fun l l' => by
    rw [List.set_append_right _ _ (Nat.le_refl _), Nat.sub_self]
    rfl
  unfold cLc
  rw [ei]
  unfold Rs.bind
  dsimp only
  have := lcS_fm (t := t) (c := c) (e := e) (N := h1.length) (σ := wipeC σ vs) g xs [] (h1 ++ [.lst []]) (by simp) (by simpa using hl) (fun x hx l => by
    rw [st]
    exact hs x hx l)
  rw [st, List.nil_append] at this
  exact this
theorem rng1_ok {fa : ME} {σ : Env} {h h1 : CH} {j : Int} (e : fa σ h = .ok (.int j) h1) (hb : rngB j = true) : cRng1 (cCons fa cNil) σ h = .ok (.st (rngC 0 j.toNat)) h1 := by
  unfold cRng1
  rw [one_ok e]
  unfold Rs.bind
  dsimp only
  rw [if_pos hb]
theorem rng2_ok {fa fb : ME} {σ : Env} {h h1 h2 : CH} {i j : Int} (e : fa σ h = .ok (.int i) h1) (e2 : fb σ h1 = .ok (.int j) h2) (hb : rngB i = true) (hb2 : rngB j = true) : cRng2 (cCons fa (cCons fb cNil)) σ h = .ok (.st (rngC i (j - i).toNat)) h2 := by
  unfold cRng2
  rw [two_ok e e2]
  unfold Rs.bind
  dsimp only
  rw [hb, hb2]
  rfl
theorem its_ok {fa : ME} {σ : Env} {h h1 : CH} {c : CV} {it : It0} (e : fa σ h = .ok c h1) (ei : itC h1 c = some it) : cItS fa σ h = .ok it h1 := by
  unfold cItS
  rw [e]
  unfold Rs.bind
  dsimp only
  rw [ei]
theorem lk_dict {i n : Nat} {f : ME} {σ : Env} {h : CH} {kvs : List (Key × CV)} {c : CV} {ext : CH} (es : slotRef σ i = some n) (e : h[n]? = some (.dK kvs)) (ef : f σ (h.set n (.fdK kvs)) = .ok c (h.set n (.fdK kvs) ++ ext)) : cLk i f σ h = .ok c (h ++ ext) := by
  have hl := (List.getElem?_eq_some_iff.mp e).1
  unfold cLk
  rw [es]
  dsimp only
  have e1 : lockC h n = some (h.set n (.fdK kvs)) := by
    unfold lockC
    rw [e]
  rw [e1]
  dsimp only
  rw [ef]
  dsimp only
  have e2 : unlockC (h.set n (.fdK kvs) ++ ext) n = some (h ++ ext) := by
    unfold unlockC
    rw [List.getElem?_append_left (by rw [List.length_set]; exact hl), List.getElem?_set_self hl]
    dsimp only
    rw [List.set_append_left _ _ (by rw [List.length_set]; exact hl), List.set_set]
    congr 2
    apply List.ext_getElem?
    intro j
    by_cases hj : n = j
    · subst hj
      rw [List.getElem?_set_self hl, e]
    · rw [List.getElem?_set_ne hj]
  rw [e2]
theorem ix_fdict {n : Nat} {h : CH} {kvs : List (Key × CV)} {x : Int} {c : CV} (e : h[n]? = some (.fdK kvs)) (ev : valC kvs (.inl x) = some c) : rcIx (.ref n) (.int x) h = some (c, h) := by
  unfold rcIx rcIxS rcIxD sqIx sqC dGet
  dsimp only
  rw [e]
  dsimp only [keyC]
  rw [Option.map_some, ev]
  rfl
theorem ix_idict {n : Nat} {h : CH} {kvs : List (Key × CV)} {x : Int} {c : CV} (e : h[n]? = some (.dK kvs)) (ev : valC kvs (.inl x) = some c) : rcIx (.ref n) (.int x) h = some (c, h) := by
  unfold rcIx rcIxS rcIxD sqIx sqC dGet
  dsimp only
  rw [e]
  dsimp only [keyC]
  rw [Option.map_some, ev]
  rfl
theorem setix_idict {fo fi fv : ME} {σ : Env} {h h1 h2 h3 : CH} {n : Nat} {x : Int} {v : CV} {kvs : List (Key × CV)} (ev : fv σ h = .ok v h1) (eo : fo σ h1 = .ok (.ref n) h2) (ei : fi σ h2 = .ok (.int x) h3) (e : h3[n]? = some (.dK kvs)) (hl : kvs.length < line) :
    cSetIx fo fi fv σ h = .nx σ (h3.set n (.dK (putC kvs (.inl x) v))) := by
  unfold cSetIx
  rw [ev]
  unfold Rs.st
  dsimp only
  rw [eo]
  dsimp only
  rw [ei]
  dsimp only [setIx]
  rw [e]
  dsimp only
  unfold dPut
  rw [e]
  dsimp only [keyC]
  rw [if_pos hl]
theorem sum_lst {n : Nat} {h : CH} {ns : List Int} (e : h[n]? = some (.lst (ns.map CV.int))) : rkSum [.ref n] h = some (.int ns.sum, h) := by
  unfold rkSum lsC
  dsimp only
  rw [e]
  dsimp only
  rw [Option.bind_some, intsC_map]
  rfl
theorem add_lst {fa fb : ME} {σ : Env} {h h1 h2 : CH} {a b : Nat} {xs ys : List CV} (ea : fa σ h = .ok (.ref a) h1) (eb : fb σ h1 = .ok (.ref b) h2) (e1 : h2[a]? = some (.lst xs)) (e2 : h2[b]? = some (.lst ys)) (hl : xs.length + ys.length ≤ line) :
    cOp rcAdd fa fb σ h = .ok (.ref h2.length) (h2 ++ [.lst (xs ++ ys)]) := by
  refine op_ok (r := (_, _)) ea eb ?_
  show (none : Option (CV × CH)).or (none |>.or (none |>.or (rcAddL (.ref a) (.ref b) h2))) = _
  unfold rcAddL
  dsimp only
  rw [e1, e2]
  dsimp only
  rw [if_pos hl]
  rfl
theorem mul_lst {fa fb : ME} {σ : Env} {h h1 h2 : CH} {a : Nat} {k : Int} {xs : List CV} (ea : fa σ h = .ok (.ref a) h1) (eb : fb σ h1 = .ok (.int k) h2) (e1 : h2[a]? = some (.lst xs)) (h0 : 0 ≤ k) (hk : k < 1000000) (hl : xs.length * k.toNat ≤ line) :
    cOp rcMul fa fb σ h = .ok (.ref h2.length) (h2 ++ [.lst (List.replicate k.toNat xs).flatten]) := by
  refine op_ok (r := (_, _)) ea eb ?_
  unfold rcMul rcMulI rcMulT rcI
  dsimp only
  rw [Option.none_or, Option.none_or]
  unfold rcMulL
  dsimp only
  rw [e1]
  dsimp only
  rw [if_pos ⟨by omega, by omega, hl⟩]
theorem rng_at {L : Nat} {lo : Int} {j : Nat} {c : CV} (h : (rngC lo L)[j]? = some c) : j < L ∧ c = .int (lo + j) := by
  rw [rngC_at] at h
  split at h
  · rename_i hl
    cases h
    exact ⟨hl, rfl⟩
  · cases h
theorem mulOk_r {i j : Int} (h1 : -(2 ^ 64) < j) (h2 : j < 2 ^ 64) : mulOk i j = true := by
  unfold mulOk
  rw [decide_eq_true (.inr ⟨h1, h2⟩), Bool.true_or]
theorem mulOk_l {i j : Int} (h1 : -(2 ^ 64) < i) (h2 : i < 2 ^ 64) : mulOk i j = true := by
  unfold mulOk
  rw [decide_eq_true (.inl ⟨h1, h2⟩), Bool.true_or]
theorem rngB_i {i : Int} (h1 : -1000 < i) (h : i < 1000000) : rngB i = true := by
  unfold rngB
  exact decide_eq_true ⟨by omega, by omega⟩
end Vm

/-! printed by gen.py: the defs of the text as the machine runs them, and the walk. -/
namespace Vm
open PySem PySem.Spec PyProof.Rows L2 NdefX
def top (i : Nat) : Stmt := PySem.Challenge.pw_ofthecode_k24_ways_counted.main.body.getD i (.Pass ⟨0, 0, 0, 0⟩)
abbrev st_tupled : Stmt := top 1
abbrev st_is_int : Stmt := top 6
abbrev st_check_least : Stmt := top 8
abbrev st_is_way_form : Stmt := top 9
abbrev st_is_way_short : Stmt := top 10
abbrev st_is_way : Stmt := top 11
abbrev st_words_of : Stmt := top 12
abbrev st_unrepeated_words : Stmt := top 13
abbrev st_words_number : Stmt := top 14
abbrev st_ways_number : Stmt := top 15
abbrev st_law_purse : Stmt := top 17
abbrev st_law_pick : Stmt := top 18
abbrev st_law_number : Stmt := top 19
abbrev st_law_refused : Stmt := top 20
abbrev st_law_words : Stmt := top 21
abbrev st_law_repeats : Stmt := top 22
abbrev st_law_tried : Stmt := top 23
abbrev st_law_sign : Stmt := top 24
abbrev st_law_formed : Stmt := top 25
abbrev st_law : Stmt := top 26
abbrev st_init : Stmt := inClass (top 2) 0
abbrev rkLenA : RK := fun as h => (rkLen as h).or (rkLenD as h)
abbrev rkIsiA : RK := fun as h => (rkIsi as h).or (rkIsiT as h)
abbrev tb_BadNumber : List Bool := [false, true, false]
abbrev tb_BadTable : List Bool := [false, false, true]
abbrev tb_BesideError : List Bool := [true, true, true]
theorem nohxH {i a d k : Nat} {fs : List (Str × CV)} {ix : List Nat} (h : ix.contains i = false) : NoHx (some ⟨i, a, d, k, fs⟩) ix := fun e he => by
  cases he
  simpa using h
theorem nohx {ix : List Nat} : NoHx none ix := fun _ h => nomatch h
def b_is_int : MS :=
  (cRet (cAndV (cBi rkIsiA (cCons (cVar 0) (cCons (cC (.ty "int")) cNil))) (cNotV (cBi rkIsiA (cCons (cVar 0) (cCons (cC (.ty "bool")) cNil))))))
def ev_is_int : List CV → CH → Rs CV := pureOf (cDef 1 1 b_is_int)
def b_tupled : MS :=
  (cSeq (cIfS (cNot (cTst (cBi rkIsiA (cCons (cVar 0) (cCons (cTup (cCons (cC (.ty "tuple")) (cCons (cC (.ty "list")) cNil))) cNil))))) (cRet (cVar 0)) cNext)
    (cSeq (cAsg (cLst (cCons (cTup (cCons (cVar 0) (cCons (cLst cNil) cNil))) cNil)) 1)
    (cWhile 100000 (cTst (cC (.bl true))) (cSeq (cAsgT (cIx (cVar 1) (cNeg (cC (.int 1)))) (gT 2 (gsC (gN 2) (gsC (gN 3) gsN))))
    (cSeq (cIfS (cTst (cOp rcLt (cBi rkLenA (cCons (cVar 3) cNil)) (cBi rkLenA (cCons (cVar 2) cNil)))) (cSeq (cAsg (cIx (cVar 2) (cBi rkLenA (cCons (cVar 3) cNil))) 4)
    (cSeq (cIfS (cTst (cBi rkIsiA (cCons (cVar 4) (cCons (cTup (cCons (cC (.ty "tuple")) (cCons (cC (.ty "list")) cNil))) cNil)))) (cExpr (cML rmApp (cVar 1) (cCons (cTup (cCons (cVar 4) (cCons (cLst cNil) cNil))) cNil))) (cExpr (cML rmApp (cVar 3) (cCons (cVar 4) cNil))))
    cCont)) cNext)
    (cSeq (cExpr (cML rmPop (cVar 1) cNil))
    (cSeq (cIfS (cTst (cOp (rcEq false) (cBi rkLenA (cCons (cVar 1) cNil)) (cC (.int 0)))) (cRet (cBi rkTup (cCons (cVar 3) cNil))) cNext)
    (cExpr (cML rmApp (cIx (cIx (cVar 1) (cNeg (cC (.int 1)))) (cC (.int 1))) (cCons (cBi rkTup (cCons (cVar 3) cNil)) cNil))))))))))
def ev_tupled : List CV → CH → Rs CV := pureOf (cDef 1 5 b_tupled)
def b_check_least : MS :=
  (cSeq (cIfS (cOr (cNot (cTst (cCall ev_is_int (cCons (cVar 0) cNil)))) (cTst (cOp rcLt (cVar 0) (cVar 1)))) (cRaise 1 ev_tupled (cCons (cVar 0) cNil)) cNext)
    (cRet (cVar 0)))
def ev_check_least : List CV → CH → Rs CV := pureOf (cDef 2 2 b_check_least)
def b_words_of : MS :=
  (cSeq (cAsg (cC (.int 1)) 2)
    (cSeq (cFor (cRng1 (cCons (cVar 1) cNil)) (gN 3) (cAsg (cOp rcMul (cVar 2) (cVar 0)) 2))
    (cRet (cVar 2))))
def ev_words_of : List CV → CH → Rs CV := pureOf (cDef 2 4 b_words_of)
def b_unrepeated_words : MS :=
  (cSeq (cAsg cNewK 2)
    (cSeq (cFor (cRng2 (cCons (cC (.int 1)) (cCons (cOp rcAdd (cVar 0) (cC (.int 1))) cNil))) (gN 3) (cIfS (cTst (cOp (rcEq false) (cOp rcMod (cBi rkInt (cCons (cVar 0) cNil)) (cVar 3)) (cC (.int 0)))) (cSeq (cAsg (cBi rkSum (cCons (cLk 2 (cLc (cItS (cVar 2)) [5] (gN 5) (cTst (cOp (rcEq false) (cOp rcMod (cBi rkInt (cCons (cVar 3) cNil)) (cVar 5)) (cC (.int 0)))) (cIx (cVar 2) (cVar 5)))) cNil)) 4)
    (cSetIx (cVar 2) (cVar 3) (cOp rcSub (cCall ev_words_of (cCons (cVar 1) (cCons (cVar 3) cNil))) (cVar 4)))) cNext))
    (cRet (cIx (cVar 2) (cVar 0)))))
def ev_unrepeated_words : List CV → CH → Rs CV := pureOf (cDef 2 6 b_unrepeated_words)
def b_words_number : MS :=
  (cSeq (cExpr (cCall ev_check_least (cCons (cVar 0) (cCons (cC (.int 1)) cNil))))
    (cSeq (cExpr (cCall ev_check_least (cCons (cVar 1) (cCons (cC (.int 1)) cNil))))
    (cRet (cCall ev_unrepeated_words (cCons (cVar 0) (cCons (cVar 1) cNil))))))
def ev_words_number : List CV → CH → Rs CV := pureOf (cDef 2 2 b_words_number)
def b_ways_number : MS :=
  (cSeq (cExpr (cCall ev_check_least (cCons (cVar 0) (cCons (cC (.int 1)) cNil))))
    (cSeq (cExpr (cCall ev_check_least (cCons (cVar 1) (cCons (cC (.int 1)) cNil))))
    (cSeq (cAsg (cCall ev_unrepeated_words (cCons (cVar 0) (cCons (cVar 1) cNil))) 2)
    (cSeq (cFor (cRng2 (cCons (cC (.int 1)) (cCons (cVar 0) cNil))) (gN 3) (cAsg (cOp rcAdd (cVar 2) (cOp rcMul (cOp rcMul (cCall ev_words_of (cCons (cVar 1) (cCons (cOp rcSub (cOp rcSub (cVar 0) (cVar 3)) (cC (.int 1))) cNil))) (cOp rcSub (cVar 1) (cC (.int 1)))) (cCall ev_unrepeated_words (cCons (cVar 3) (cCons (cVar 1) cNil))))) 2))
    (cRet (cVar 2))))))
def ev_ways_number : List CV → CH → Rs CV := pureOf (cDef 2 4 b_ways_number)
def b_law_purse : MS :=
  (cSeq (cAsg (cLst cNil) 1)
    (cSeq (cFor (cItS (cSl (cVar 0) cNo (cPart (cC (.int 40))))) (gN 2) (cSeq (cAsg (cOp rcMul (cC (.int 2)) (cBi rkInt (cCons (cVar 2) cNil))) 3)
    (cSeq (cIfS (cTst (cOp rcLt (cVar 3) (cC (.int 0)))) (cAsg (cOp rcSub (cC (.int 1)) (cVar 3)) 3) cNext)
    (cSeq (cAsg (cOp rcMod (cBi rkInt (cCons (cVar 3) cNil)) (cOp rcPow (cC (.int 60)) (cC (.int 18)))) 3)
    (cFor (cRng1 (cCons (cC (.int 18)) cNil)) (gN 4) (cSeq (cExpr (cML rmApp (cVar 1) (cCons (cOp rcMod (cBi rkInt (cCons (cVar 3) cNil)) (cC (.int 60))) cNil)))
    (cSeq (cAsg (cOp rcDiv (cVar 3) (cC (.int 60))) 3)
    (cIfS (cTst (cOp (rcEq false) (cVar 3) (cC (.int 0)))) cBreak cNext))))))))
    (cRet (cDisp [((cC (.str "coins")), (cVar 1)), ((cC (.str "next")), (cC (.int 0)))]))))
def ev_law_purse : List CV → CH → Rs CV := pureOf (cDef 1 5 b_law_purse)
def b_law_pick : MS :=
  (cSeq (cAsg (cBi rkInt (cCons (cIx (cVar 0) (cC (.str "next"))) cNil)) 2)
    (cSeq (cSetIx (cVar 0) (cC (.str "next")) (cOp rcAdd (cVar 2) (cC (.int 1))))
    (cSeq (cIfS (cTst (cOp rcGe (cVar 2) (cBi rkLenA (cCons (cIx (cVar 0) (cC (.str "coins"))) cNil)))) (cRet (cC (.int 0))) cNext)
    (cRet (cOp rcMod (cBi rkInt (cCons (cIx (cIx (cVar 0) (cC (.str "coins"))) (cVar 2)) cNil)) (cVar 1))))))
def ev_law_pick : List CV → CH → Rs CV := pureOf (cDef 2 3 b_law_pick)
def b_law_number : MS :=
  (cRet (cAndV (cBi rkIsiA (cCons (cVar 0) (cCons (cC (.ty "int")) cNil))) (cAndV (cNotV (cBi rkIsiA (cCons (cVar 0) (cCons (cC (.ty "bool")) cNil)))) (cOp (rcEq false) (cVar 0) (cVar 1)))))
def ev_law_number : List CV → CH → Rs CV := pureOf (cDef 2 2 b_law_number)
def b_law_refused : MS :=
  (cSeq (cAsgT (cTup (cCons (cC (.bl false)) (cCons (cC .non) cNil))) (gT 2 (gsC (gN 5) (gsC (gN 6) gsN))))
    (cSeq (cTry (cIfS (cTst (cOp (rcEq false) (cVar 0) (cC (.str "words")))) (cExpr (cCall ev_words_number (cCons (cVar 1) (cCons (cVar 2) cNil)))) (cExpr (cCall ev_ways_number (cCons (cVar 1) (cCons (cVar 2) cNil))))) [⟨tb_BadNumber, some 4, fun k fs => (cSeq (cAsg (cXf "at" fs) 6)
    (cAsg (cAndV (cIsE tb_BesideError k) (cNotV (cIsE tb_BadTable k))) 5))⟩])
    (cRet (cAndV (cVar 5) (cOp (rcEq false) (cBi rkRepr (cCons (cVar 6) cNil)) (cBi rkRepr (cCons (cVar 3) cNil)))))))
def ev_law_refused : List CV → CH → Rs CV := pureOf (cDef 4 7 b_law_refused)
def b_is_way_form : MS :=
  (cSeq (cIfS (cOr (cNot (cTst (cBi rkIsiA (cCons (cVar 0) (cCons (cTup (cCons (cC (.ty "tuple")) (cCons (cC (.ty "list")) cNil))) cNil))))) (cTst (cOp (rcEq true) (cBi rkLenA (cCons (cVar 0) cNil)) (cC (.int 2))))) (cRet (cC (.bl false))) cNext)
    (cSeq (cIfS (cOr (cNot (cTst (cCall ev_is_int (cCons (cIx (cVar 0) (cC (.int 0))) cNil)))) (cTst (cOp rcLt (cIx (cVar 0) (cC (.int 0))) (cC (.int 0))))) (cRet (cC (.bl false))) cNext)
    (cSeq (cIfS (cOr (cNot (cTst (cBi rkIsiA (cCons (cIx (cVar 0) (cC (.int 1))) (cCons (cTup (cCons (cC (.ty "tuple")) (cCons (cC (.ty "list")) cNil))) cNil))))) (cTst (cOp rcLe (cBi rkLenA (cCons (cIx (cVar 0) (cC (.int 1))) cNil)) (cIx (cVar 0) (cC (.int 0)))))) (cRet (cC (.bl false))) cNext)
    (cRet (cOp (rcEq false) (cLc (cItS (cIx (cVar 0) (cC (.int 1)))) [1] (gN 1) (cOr (cNot (cTst (cCall ev_is_int (cCons (cVar 1) cNil)))) (cTst (cOp rcLt (cVar 1) (cC (.int 0))))) (cVar 1)) (cLst cNil))))))
def ev_is_way_form : List CV → CH → Rs CV := pureOf (cDef 1 2 b_is_way_form)
def b_is_way_short : MS :=
  (cSeq (cAsg (cSl (cVar 1) (cPart (cVar 0)) cNo) 2)
    (cSeq (cIfS (cAnd (cTst (cOp rcGe (cVar 0) (cC (.int 1)))) (cTst (cOp (rcEq false) (cIx (cVar 1) (cOp rcSub (cVar 0) (cC (.int 1)))) (cIx (cVar 2) (cNeg (cC (.int 1))))))) (cRet (cC (.bl true))) cNext)
    (cSeq (cAsg (cBi rkLenA (cCons (cVar 2) cNil)) 3)
    (cSeq (cFor (cRng2 (cCons (cC (.int 1)) (cCons (cVar 3) cNil))) (gN 4) (cIfS (cAnd (cTst (cOp (rcEq false) (cOp rcMod (cBi rkInt (cCons (cVar 3) cNil)) (cVar 4)) (cC (.int 0)))) (cTst (cOp (rcEq false) (cOp rcAdd (cSl (cVar 2) (cPart (cVar 4)) cNo) (cSl (cVar 2) cNo (cPart (cVar 4)))) (cVar 2)))) (cRet (cC (.bl true))) cNext))
    (cRet (cC (.bl false)))))))
def ev_is_way_short : List CV → CH → Rs CV := pureOf (cDef 2 5 b_is_way_short)
def b_is_way : MS :=
  (cSeq (cIfS (cNot (cTst (cCall ev_is_way_form (cCons (cVar 0) cNil)))) (cRet (cC (.bl false))) cNext)
    (cSeq (cAsg (cBi rkTup (cCons (cIx (cVar 0) (cC (.int 1))) cNil)) 1)
    (cSeq (cIfS (cTst (cOp (rcEq true) (cLc (cItS (cVar 1)) [2] (gN 2) (cTst (cOp rcGt (cVar 2) (cC (.int 999)))) (cVar 2)) (cLst cNil))) (cRet (cC (.bl false))) cNext)
    (cRet (cNotV (cCall ev_is_way_short (cCons (cIx (cVar 0) (cC (.int 0))) (cCons (cVar 1) cNil))))))))
def ev_is_way : List CV → CH → Rs CV := pureOf (cDef 1 3 b_is_way)
def b_law_words : MS :=
  (cSeq (cAsg (cLst (cCons (cTup cNil) cNil)) 2)
    (cSeq (cFor (cRng1 (cCons (cVar 0) cNil)) (gN 3) (cSeq (cAsg (cLst cNil) 4)
    (cSeq (cFor (cItS (cVar 2)) (gN 5) (cExpr (cML rmExt (cVar 4) (cCons (cLc (cRng1 (cCons (cVar 1) cNil)) [6] (gN 6) cYes (cOp rcAdd (cVar 5) (cTup (cCons (cVar 6) cNil)))) cNil))))
    (cAsg (cVar 4) 2))))
    (cRet (cVar 2))))
def ev_law_words : List CV → CH → Rs CV := pureOf (cDef 2 7 b_law_words)
def b_law_repeats : MS :=
  (cSeq (cFor (cRng2 (cCons (cC (.int 1)) (cCons (cBi rkLenA (cCons (cVar 0) cNil)) cNil))) (gN 1) (cIfS (cAnd (cTst (cOp (rcEq false) (cOp rcMod (cBi rkInt (cCons (cBi rkLenA (cCons (cVar 0) cNil)) cNil)) (cVar 1)) (cC (.int 0)))) (cTst (cOp (rcEq false) (cVar 0) (cOp rcMul (cSl (cVar 0) cNo (cPart (cVar 1))) (cOp rcDiv (cBi rkLenA (cCons (cVar 0) cNil)) (cVar 1)))))) (cRet (cC (.bl true))) cNext))
    (cRet (cC (.bl false))))
def ev_law_repeats : List CV → CH → Rs CV := pureOf (cDef 1 2 b_law_repeats)
def b_law_tried : MS :=
  (cSeq (cPar 4 5 (cCons (cCall ev_law_words (cCons (cVar 0) (cCons (cVar 1) cNil))) (cCons (cC (.int 0)) cNil)))
    (cSeq (cAsg (cBi rkLenA (cCons (cLc (cItS (cVar 4)) [3] (gN 3) (cNot (cTst (cCall ev_law_repeats (cCons (cVar 3) cNil)))) (cVar 3)) cNil)) 2)
    (cSeq (cFor (cItS (cVar 4)) (gN 3) (cFor (cRng1 (cCons (cVar 0) cNil)) (gN 6) (cSeq (cAsg (cAndV (cNotV (cCall ev_law_repeats (cCons (cSl (cVar 3) (cPart (cVar 6)) cNo) cNil))) (cOrV (cOp (rcEq false) (cVar 6) (cC (.int 0))) (cOp (rcEq true) (cIx (cVar 3) (cOp rcSub (cVar 6) (cC (.int 1)))) (cIx (cVar 3) (cNeg (cC (.int 1))))))) 7)
    (cSeq (cAsg (cOp rcAdd (cVar 5) (cBi rkInt (cCons (cVar 7) cNil))) 5)
    (cSeq (cAsg (cCall ev_is_way (cCons (cTup (cCons (cVar 6) (cCons (cVar 3) cNil))) cNil)) 8)
    (cIfS (cOr (cNot (cTst (cBi rkIsiA (cCons (cVar 8) (cCons (cC (.ty "bool")) cNil))))) (cTst (cOp (rcEq true) (cVar 8) (cVar 7)))) (cRet (cC .non)) cNext))))))
    (cRet (cTup (cCons (cVar 2) (cCons (cVar 5) cNil)))))))
def ev_law_tried : List CV → CH → Rs CV := pureOf (cDef 2 9 b_law_tried)
def b_law_sign : MS :=
  (cSeq (cPar 2 3 (cCons (cVar 0) (cCons (cC (.int 1)) cNil)))
    (cSeq (cFor (cRng2 (cCons (cC (.int 2)) (cCons (cC (.int 18)) cNil))) (gN 1) (cIfS (cTst (cOp (rcEq false) (cOp rcMod (cBi rkInt (cCons (cVar 2) cNil)) (cVar 1)) (cC (.int 0)))) (cSeq (cPar 2 3 (cCons (cOp rcDiv (cVar 2) (cVar 1)) (cCons (cNeg (cVar 3)) cNil)))
    (cIfS (cTst (cOp (rcEq false) (cOp rcMod (cBi rkInt (cCons (cVar 2) cNil)) (cVar 1)) (cC (.int 0)))) (cRet (cC (.int 0))) cNext)) cNext))
    (cSeq (cIfS (cTst (cOp rcGt (cVar 2) (cC (.int 1)))) (cRet (cNeg (cVar 3))) cNext)
    (cRet (cVar 3)))))
def ev_law_sign : List CV → CH → Rs CV := pureOf (cDef 1 4 b_law_sign)
def b_law_formed : MS :=
  (cSeq (cAsg (cLst (cCons (cC (.int 1)) cNil)) 2)
    (cSeq (cFor (cRng1 (cCons (cVar 0) cNil)) (gN 3) (cExpr (cML rmApp (cVar 2) (cCons (cOp rcMul (cIx (cVar 2) (cNeg (cC (.int 1)))) (cVar 1)) cNil))))
    (cSeq (cAsg (cOp rcAdd (cLst (cCons (cC (.int 0)) cNil)) (cLc (cRng2 (cCons (cC (.int 1)) (cCons (cOp rcAdd (cVar 0) (cC (.int 1))) cNil))) [9] (gN 9) cYes (cCall ev_law_sign (cCons (cVar 9) cNil)))) 4)
    (cSeq (cAsg (cOp rcMul (cLst (cCons (cC (.int 0)) cNil)) (cOp rcAdd (cVar 0) (cC (.int 1)))) 5)
    (cSeq (cFor (cRng2 (cCons (cC (.int 1)) (cCons (cOp rcAdd (cVar 0) (cC (.int 1))) cNil))) (gN 6) (cFor (cRng2 (cCons (cC (.int 1)) (cCons (cOp rcAdd (cVar 6) (cC (.int 1))) cNil))) (gN 9) (cIfS (cTst (cOp (rcEq false) (cOp rcMod (cBi rkInt (cCons (cVar 6) cNil)) (cVar 9)) (cC (.int 0)))) (cSetIx (cVar 5) (cVar 6) (cOp rcAdd (cIx (cVar 5) (cVar 6)) (cOp rcMul (cIx (cVar 4) (cOp rcDiv (cVar 6) (cVar 9))) (cIx (cVar 2) (cVar 9))))) cNext)))
    (cSeq (cAsg (cIx (cVar 5) (cVar 0)) 7)
    (cSeq (cFor (cRng2 (cCons (cC (.int 1)) (cCons (cVar 0) cNil))) (gN 8) (cAsg (cOp rcAdd (cVar 7) (cOp rcMul (cOp rcMul (cIx (cVar 2) (cOp rcSub (cOp rcSub (cVar 0) (cVar 8)) (cC (.int 1)))) (cOp rcSub (cVar 1) (cC (.int 1)))) (cIx (cVar 5) (cVar 8)))) 7))
    (cRet (cTup (cCons (cIx (cVar 5) (cVar 0)) (cCons (cVar 7) cNil)))))))))))
def ev_law_formed : List CV → CH → Rs CV := pureOf (cDef 2 10 b_law_formed)
def b_law : MS :=
  (cSeq (cAsg (cCall ev_law_purse (cCons (cVar 0) cNil)) 1)
    (cSeq (cAsg (cTup (cCons (cTup (cCons (cC (.int 2)) (cCons (cC (.int 2)) cNil))) (cCons (cTup (cCons (cC (.int 1)) (cCons (cC (.int 1)) cNil))) (cCons (cTup (cCons (cC (.int 3)) (cCons (cC (.int 2)) cNil))) (cCons (cTup (cCons (cC (.int 2)) (cCons (cC (.int 3)) cNil))) (cCons (cTup (cCons (cC (.int 4)) (cCons (cC (.int 2)) cNil))) (cCons (cTup (cCons (cC (.int 1)) (cCons (cC (.int 5)) cNil))) (cCons (cTup (cCons (cC (.int 3)) (cCons (cC (.int 3)) cNil))) (cCons (cTup (cCons (cC (.int 5)) (cCons (cC (.int 2)) cNil))) (cCons (cTup (cCons (cC (.int 6)) (cCons (cC (.int 2)) cNil))) (cCons (cTup (cCons (cC (.int 4)) (cCons (cC (.int 3)) cNil))) (cCons (cTup (cCons (cC (.int 2)) (cCons (cC (.int 8)) cNil))) (cCons (cTup (cCons (cC (.int 3)) (cCons (cC (.int 5)) cNil))) (cCons (cTup (cCons (cC (.int 5)) (cCons (cC (.int 1)) cNil))) (cCons (cTup (cCons (cC (.int 7)) (cCons (cC (.int 2)) cNil))) (cCons (cTup (cCons (cC (.int 6)) (cCons (cC (.int 1)) cNil))) cNil)))))))))))))))) 2)
    (cSeq (cAsgT (cIx (cVar 2) (cCall ev_law_pick (cCons (cVar 1) (cCons (cC (.int 15)) cNil)))) (gT 2 (gsC (gN 4) (gsC (gN 5) gsN))))
    (cSeq (cAsg (cCall ev_law_tried (cCons (cVar 4) (cCons (cVar 5) cNil))) 3)
    (cSeq (cIfS (cOr (cTst (cOp (rcIsN false) (cVar 3) (cC .non))) (cTst (cOp (rcEq true) (cVar 3) (cCall ev_law_formed (cCons (cVar 4) (cCons (cVar 5) cNil)))))) (cRet (cC (.bl false))) cNext)
    (cSeq (cIfS (cOr (cNot (cTst (cCall ev_law_number (cCons (cCall ev_words_number (cCons (cVar 4) (cCons (cVar 5) cNil))) (cCons (cIx (cVar 3) (cC (.int 0))) cNil))))) (cNot (cTst (cCall ev_law_number (cCons (cCall ev_ways_number (cCons (cVar 4) (cCons (cVar 5) cNil))) (cCons (cIx (cVar 3) (cC (.int 1))) cNil)))))) (cRet (cC (.bl false))) cNext)
    (cSeq (cAsg (cOp rcAdd (cC (.int 1)) (cCall ev_law_pick (cCons (cVar 1) (cCons (cC (.int 60)) cNil)))) 4)
    (cSeq (cIfS (cTst (cOp (rcEq false) (cCall ev_law_pick (cCons (cVar 1) (cCons (cC (.int 12)) cNil))) (cC (.int 11)))) (cAsg (cOp rcSub (cC (.int 300)) (cOp rcMul (cCall ev_law_pick (cCons (cVar 1) (cCons (cC (.int 2)) cNil))) (cCall ev_law_pick (cCons (cVar 1) (cCons (cC (.int 60)) cNil))))) 4) cNext)
    (cSeq (cAsg (cOp rcAdd (cIx (cTup (cCons (cC (.int 2)) (cCons (cC (.int 3)) (cCons (cC (.int 1)) (cCons (cC (.int 10)) (cCons (cC (.int 1000)) (cCons (cOp rcAdd (cOp rcPow (cC (.int 10)) (cC (.int 12))) (cC (.int 1))) (cCons (cC (.int 7)) (cCons (cC (.int 999)) cNil))))))))) (cCall ev_law_pick (cCons (cVar 1) (cCons (cC (.int 8)) cNil)))) (cCall ev_law_pick (cCons (cVar 1) (cCons (cC (.int 3)) cNil)))) 5)
    (cSeq (cAsg (cCall ev_law_formed (cCons (cVar 4) (cCons (cVar 5) cNil))) 3)
    (cSeq (cIfS (cOr (cNot (cTst (cCall ev_law_number (cCons (cCall ev_words_number (cCons (cVar 4) (cCons (cVar 5) cNil))) (cCons (cIx (cVar 3) (cC (.int 0))) cNil))))) (cNot (cTst (cCall ev_law_number (cCons (cCall ev_ways_number (cCons (cVar 4) (cCons (cVar 5) cNil))) (cCons (cIx (cVar 3) (cC (.int 1))) cNil)))))) (cRet (cC (.bl false))) cNext)
    (cSeq (cAsg (cIx (cTup (cCons (cC (.int 0)) (cCons (cNeg (cC (.int 1))) (cCons (cC (.bl true)) (cCons (cC .non) (cCons (cC (.str "3")) (cCons (cTup (cCons (cC (.int 3)) cNil)) (cCons (cNeg (cOp rcPow (cC (.int 10)) (cC (.int 20)))) (cCons (cC (.bl false)) cNil))))))))) (cCall ev_law_pick (cCons (cVar 1) (cCons (cC (.int 8)) cNil)))) 6)
    (cSeq (cFor (cItS (cTup (cCons (cC (.str "words")) (cCons (cC (.str "ways")) cNil)))) (gN 7) (cIfS (cOr (cNot (cTst (cCall ev_law_refused (cCons (cVar 7) (cCons (cVar 6) (cCons (cC (.int 0)) (cCons (cVar 6) cNil))))))) (cNot (cTst (cCall ev_law_refused (cCons (cVar 7) (cCons (cVar 4) (cCons (cVar 6) (cCons (cVar 6) cNil)))))))) (cRet (cC (.bl false))) cNext))
    (cRet (cC (.bl true))))))))))))))))
def ev_law : List CV → CH → Rs CV := cDef 1 8 b_law
/-- where the defs and the classes stand -/
structure Ad where
  f_tupled : Addr
  d_tupled : FuncData
  f_is_int : Addr
  d_is_int : FuncData
  f_check_least : Addr
  d_check_least : FuncData
  f_is_way_form : Addr
  d_is_way_form : FuncData
  f_is_way_short : Addr
  d_is_way_short : FuncData
  f_is_way : Addr
  d_is_way : FuncData
  f_words_of : Addr
  d_words_of : FuncData
  f_unrepeated_words : Addr
  d_unrepeated_words : FuncData
  f_words_number : Addr
  d_words_number : FuncData
  f_ways_number : Addr
  d_ways_number : FuncData
  f_law_purse : Addr
  d_law_purse : FuncData
  f_law_pick : Addr
  d_law_pick : FuncData
  f_law_number : Addr
  d_law_number : FuncData
  f_law_refused : Addr
  d_law_refused : FuncData
  f_law_words : Addr
  d_law_words : FuncData
  f_law_repeats : Addr
  d_law_repeats : FuncData
  f_law_tried : Addr
  d_law_tried : FuncData
  f_law_sign : Addr
  d_law_sign : FuncData
  f_law_formed : Addr
  d_law_formed : FuncData
  f_law : Addr
  d_law : FuncData
  c_BesideError : Addr
  c_BadNumber : Addr
  c_BadTable : Addr
  f_init : Addr
  cc : Addr
  cda : Addr
def gC (d : Ad) (K : PySem.W.Frag) : Gc := ⟨K, fun n => match n with
  | 0 => d.c_BesideError
  | 1 => d.c_BadNumber
  | _ => d.c_BadTable⟩
structure Tx (P : Program) (K : PySem.W.Frag) (mg : Str → Option Value) (d : Ad) : Prop where
  F_tupled : Fun K "tupled" "tupled" st_tupled d.f_tupled d.d_tupled
  m_tupled : mg "tupled" = some (.ref d.f_tupled)
  b_tupled : Binds K d.d_tupled ["x"] []
  F_is_int : Fun K "is_int" "is_int" st_is_int d.f_is_int d.d_is_int
  m_is_int : mg "is_int" = some (.ref d.f_is_int)
  b_is_int : Binds K d.d_is_int ["x"] []
  F_check_least : Fun K "check_least" "check_least" st_check_least d.f_check_least d.d_check_least
  m_check_least : mg "check_least" = some (.ref d.f_check_least)
  b_check_least : Binds K d.d_check_least ["x", "least"] []
  F_is_way_form : Fun K "is_way_form" "is_way_form" st_is_way_form d.f_is_way_form d.d_is_way_form
  m_is_way_form : mg "is_way_form" = some (.ref d.f_is_way_form)
  b_is_way_form : Binds K d.d_is_way_form ["x"] []
  F_is_way_short : Fun K "is_way_short" "is_way_short" st_is_way_short d.f_is_way_short d.d_is_way_short
  m_is_way_short : mg "is_way_short" = some (.ref d.f_is_way_short)
  b_is_way_short : Binds K d.d_is_way_short ["t", "shown"] []
  F_is_way : Fun K "is_way" "is_way" st_is_way d.f_is_way d.d_is_way
  m_is_way : mg "is_way" = some (.ref d.f_is_way)
  b_is_way : Binds K d.d_is_way ["way"] []
  F_words_of : Fun K "words_of" "words_of" st_words_of d.f_words_of d.d_words_of
  m_words_of : mg "words_of" = some (.ref d.f_words_of)
  b_words_of : Binds K d.d_words_of ["many", "length"] []
  F_unrepeated_words : Fun K "unrepeated_words" "unrepeated_words" st_unrepeated_words d.f_unrepeated_words d.d_unrepeated_words
  m_unrepeated_words : mg "unrepeated_words" = some (.ref d.f_unrepeated_words)
  b_unrepeated_words : Binds K d.d_unrepeated_words ["n", "k"] []
  F_words_number : Fun K "words_number" "words_number" st_words_number d.f_words_number d.d_words_number
  m_words_number : mg "words_number" = some (.ref d.f_words_number)
  b_words_number : Binds K d.d_words_number ["n", "k"] []
  F_ways_number : Fun K "ways_number" "ways_number" st_ways_number d.f_ways_number d.d_ways_number
  m_ways_number : mg "ways_number" = some (.ref d.f_ways_number)
  b_ways_number : Binds K d.d_ways_number ["n", "k"] []
  F_law_purse : Fun K "_law_purse" "_law_purse" st_law_purse d.f_law_purse d.d_law_purse
  m_law_purse : mg "_law_purse" = some (.ref d.f_law_purse)
  b_law_purse : Binds K d.d_law_purse ["script"] []
  F_law_pick : Fun K "_law_pick" "_law_pick" st_law_pick d.f_law_pick d.d_law_pick
  m_law_pick : mg "_law_pick" = some (.ref d.f_law_pick)
  b_law_pick : Binds K d.d_law_pick ["purse", "many"] []
  F_law_number : Fun K "_law_number" "_law_number" st_law_number d.f_law_number d.d_law_number
  m_law_number : mg "_law_number" = some (.ref d.f_law_number)
  b_law_number : Binds K d.d_law_number ["told", "due"] []
  F_law_refused : Fun K "_law_refused" "_law_refused" st_law_refused d.f_law_refused d.d_law_refused
  m_law_refused : mg "_law_refused" = some (.ref d.f_law_refused)
  b_law_refused : Binds K d.d_law_refused ["which", "n", "k", "kept"] []
  F_law_words : Fun K "_law_words" "_law_words" st_law_words d.f_law_words d.d_law_words
  m_law_words : mg "_law_words" = some (.ref d.f_law_words)
  b_law_words : Binds K d.d_law_words ["n", "k"] []
  F_law_repeats : Fun K "_law_repeats" "_law_repeats" st_law_repeats d.f_law_repeats d.d_law_repeats
  m_law_repeats : mg "_law_repeats" = some (.ref d.f_law_repeats)
  b_law_repeats : Binds K d.d_law_repeats ["word"] []
  F_law_tried : Fun K "_law_tried" "_law_tried" st_law_tried d.f_law_tried d.d_law_tried
  m_law_tried : mg "_law_tried" = some (.ref d.f_law_tried)
  b_law_tried : Binds K d.d_law_tried ["n", "k"] []
  F_law_sign : Fun K "_law_sign" "_law_sign" st_law_sign d.f_law_sign d.d_law_sign
  m_law_sign : mg "_law_sign" = some (.ref d.f_law_sign)
  b_law_sign : Binds K d.d_law_sign ["n"] []
  F_law_formed : Fun K "_law_formed" "_law_formed" st_law_formed d.f_law_formed d.d_law_formed
  m_law_formed : mg "_law_formed" = some (.ref d.f_law_formed)
  b_law_formed : Binds K d.d_law_formed ["n", "k"] []
  F_law : Fun K "law" "law" st_law d.f_law d.d_law
  m_law : mg "law" = some (.ref d.f_law)
  b_law : Binds K d.d_law ["script"] []
  z_bool : mg "bool" = none
  z_int : mg "int" = none
  z_isinstance : mg "isinstance" = none
  z_len : mg "len" = none
  z_list : mg "list" = none
  z_range : mg "range" = none
  z_repr : mg "repr" = none
  z_sum : mg "sum" = none
  z_tuple : mg "tuple" = none
  z_super : mg "super" = none
  m_BesideError : mg "BesideError" = some (.ref d.c_BesideError)
  s_BesideError : SupC K d.f_init d.c_BesideError d.c_BesideError
  m_BadNumber : mg "BadNumber" = some (.ref d.c_BadNumber)
  s_BadNumber : SupC K d.f_init d.c_BesideError d.c_BadNumber
  m_BadTable : mg "BadTable" = some (.ref d.c_BadTable)
  s_BadTable : SupC K d.f_init d.c_BesideError d.c_BadTable
  SK : SupK P K st_init "BesideError.__init__" d.f_init d.cc d.cda d.c_BesideError
  xC : ∀ k, ExcC K ((gC d K).C k)
  xf : ∀ k, XfC K ((gC d K).C k)
  x_at : ∀ k, PySem.W.findIn K (.ref ((gC d K).C k)) "at" = some none
  e_BadNumber : ∀ k b, tb_BadNumber[k]? = some b → PySem.W.exmOne K (.ref ((gC d K).C k)) (.ref d.c_BadNumber) = some b
  k_BadTable : ∀ k b, tb_BadTable[k]? = some b → PySem.W.kitOne K (.ref ((gC d K).C k)) (.ref d.c_BadTable) = some b
  k_BesideError : ∀ k b, tb_BesideError[k]? = some b → PySem.W.kitOne K (.ref ((gC d K).C k)) (.ref d.c_BesideError) = some b
theorem sc_is_int : FnScope ["x"] ["x"] (defScope st_is_int) := ⟨rfl, rfl, rfl, by decide +kernel, rfl, by decide +kernel, by decide +kernel⟩
theorem ok_is_int {P : Program} {w : World} {K : PySem.W.Frag} {mg : Str → Option Value} {base : Heap} {d : Ad} (T : Tx P K mg d) : FnV P w K mg base 1 d.f_is_int d.d_is_int ["x"] (spV (gC d K) ev_is_int) :=
  FnV.pure (fnV_of T.F_is_int sc_is_int fun cdv A l s H E O hp => by
  unfold b_is_int
  exact (ss_one (s_ret (v_and (v_bi (bi_isi rfl) rfl T.z_isinstance PyProof.Rows.Boot.«isinstance» (va_cons (v_var 0) (va_cons (v_ty rfl T.z_int PyProof.Rows.Boot.«int») va_nil))) (v_one (v_not (v_bi (bi_isi rfl) rfl T.z_isinstance PyProof.Rows.Boot.«isinstance» (va_cons (v_var 0) (va_cons (v_ty rfl T.z_bool PyProof.Rows.Boot.«bool») va_nil)))))))))
theorem sc_tupled : FnScope ["x", "frames", "things", "out", "part"] ["x"] (defScope st_tupled) := ⟨rfl, rfl, rfl, by decide +kernel, rfl, by decide +kernel, by decide +kernel⟩
theorem ok_tupled {P : Program} {w : World} {K : PySem.W.Frag} {mg : Str → Option Value} {base : Heap} {d : Ad} (T : Tx P K mg d) : FnV P w K mg base 1 d.f_tupled d.d_tupled ["x"] (spV (gC d K) ev_tupled) :=
  FnV.pure (fnV_of T.F_tupled sc_tupled fun cdv A l s H E O hp => by
  unfold b_tupled
  exact (ss_cons (s_if (t_not (t_val (v_bi (bi_isi rfl) rfl T.z_isinstance PyProof.Rows.Boot.«isinstance» (va_cons (v_var 0) (va_cons (v_tup (va_cons (v_ty rfl T.z_tuple PyProof.Rows.Boot.«tuple») (va_cons (v_ty rfl T.z_list PyProof.Rows.Boot.«list») va_nil))) va_nil))))) (ss_one (s_ret (v_var 0))) ss_nil)
    (ss_cons (s_asg 1 nohx O.nd rfl (by first | exact Or.inl rfl | exact Or.inr rfl) (v_lst (va_cons (v_tup (va_cons (v_var 0) (va_cons (v_lst va_nil) va_nil))) va_nil)))
    (ss_one (s_while 100000 hp (t_val v_bl) (ss_cons (s_asgT nohx (v_ix rfl O.rm (v_var 1) (v_neg v_int)) (g_tup rfl O.calm (gs_cons nohx (g_name 2 O.nd rfl (by first | exact Or.inl rfl | exact Or.inr rfl)) (gs_cons nohx (g_name 3 O.nd rfl (by first | exact Or.inl rfl | exact Or.inr rfl)) gs_nil))))
    (ss_cons (s_if (t_cmp cm_lt (v_bi (bi_len rfl) rfl T.z_len PyProof.Rows.Boot.«len» (va_cons (v_var 3) va_nil)) (v_bi (bi_len rfl) rfl T.z_len PyProof.Rows.Boot.«len» (va_cons (v_var 2) va_nil))) (ss_cons (s_asg 4 nohx O.nd rfl (by first | exact Or.inl rfl | exact Or.inr rfl) (v_ix rfl O.rm (v_var 2) (v_bi (bi_len rfl) rfl T.z_len PyProof.Rows.Boot.«len» (va_cons (v_var 3) va_nil))))
    (ss_cons (s_if (t_val (v_bi (bi_isi rfl) rfl T.z_isinstance PyProof.Rows.Boot.«isinstance» (va_cons (v_var 4) (va_cons (v_tup (va_cons (v_ty rfl T.z_tuple PyProof.Rows.Boot.«tuple») (va_cons (v_ty rfl T.z_list PyProof.Rows.Boot.«list») va_nil))) va_nil)))) (ss_one (s_expr (v_ml rfl ml_append (v_var 1) (va_cons (v_tup (va_cons (v_var 4) (va_cons (v_lst va_nil) va_nil))) va_nil)))) (ss_one (s_expr (v_ml rfl ml_append (v_var 3) (va_cons (v_var 4) va_nil)))))
    (ss_one s_cont))) ss_nil)
    (ss_cons (s_expr (v_ml0 rfl ml_pop (v_var 1)))
    (ss_cons (s_if (t_cmp (cm_eq rfl O.rm) (v_bi (bi_len rfl) rfl T.z_len PyProof.Rows.Boot.«len» (va_cons (v_var 1) va_nil)) v_int) (ss_one (s_ret (v_biT (bi_tuple rfl) rfl T.z_tuple PyProof.Rows.Boot.«tuple» (va_cons (v_var 3) va_nil)))) ss_nil)
    (ss_one (s_expr (v_ml rfl ml_append (v_ix rfl O.rm (v_ix rfl O.rm (v_var 1) (v_neg v_int)) v_int) (va_cons (v_biT (bi_tuple rfl) rfl T.z_tuple PyProof.Rows.Boot.«tuple» (va_cons (v_var 3) va_nil)) va_nil)))))))))))))
theorem init_v {P : Program} {w : World} {K : PySem.W.Frag} {mg : Str → Option Value} {base : Heap} {d : Ad} (T : Tx P K mg d) : InitV P w K mg base (gC d K) 2 d.f_init d.c_BesideError ev_tupled := by
  intro A l s H u v c a C m h Q hT rm e0 e rv hh rc hq
  exact init_run (fe := cCall ev_tupled (cCons (cVar 1) cNil)) (pl := _) T.SK T.z_super rfl (fun c h => rfl) (fun A l s H => ⟨rfl, rfl, rfl, rfl⟩)
    (fun A l s H O => pss_one (ps_ost (pe_var (i := 0) rfl (Or.inl rfl)) (v_call O (ok_tupled T) (by decide) rfl T.m_tupled T.F_tupled.kp T.b_tupled (va_cons (v_var 1) va_nil))))
    hT rm e0 e rv hh rc hq

theorem sc_check_least : FnScope ["x", "least"] ["x", "least"] (defScope st_check_least) := ⟨rfl, rfl, rfl, by decide +kernel, rfl, by decide +kernel, by decide +kernel⟩
theorem ok_check_least {P : Program} {w : World} {K : PySem.W.Frag} {mg : Str → Option Value} {base : Heap} {d : Ad} (T : Tx P K mg d) : FnV P w K mg base 4 d.f_check_least d.d_check_least ["x", "least"] (spV (gC d K) ev_check_least) :=
  FnV.pure (fnV_of T.F_check_least sc_check_least fun cdv A l s H E O hp => by
  unfold b_check_least
  exact (ss_cons (s_if (PW.pt (w_or (t_not (t_val (v_call O (ok_is_int T) (by decide) rfl T.m_is_int T.F_is_int.kp T.b_is_int (va_cons (v_var 0) va_nil)))) (w_or1 (t_cmp cm_lt (v_var 0) (v_var 1))))) (ss_one (s_raise (kc := 1) O (by decide) rfl (init_v T) T.s_BadNumber rfl T.m_BadNumber (va_cons (v_var 0) va_nil))) ss_nil)
    (ss_one (s_ret (v_var 0)))))
theorem sc_words_of : FnScope ["many", "length", "number", "_"] ["many", "length"] (defScope st_words_of) := ⟨rfl, rfl, rfl, by decide +kernel, rfl, by decide +kernel, by decide +kernel⟩
theorem ok_words_of {P : Program} {w : World} {K : PySem.W.Frag} {mg : Str → Option Value} {base : Heap} {d : Ad} (T : Tx P K mg d) : FnV P w K mg base 1 d.f_words_of d.d_words_of ["many", "length"] (spV (gC d K) ev_words_of) :=
  FnV.pure (fnV_of T.F_words_of sc_words_of fun cdv A l s H E O hp => by
  unfold b_words_of
  exact (ss_cons (s_asg 2 nohx O.nd rfl (by first | exact Or.inl rfl | exact Or.inr rfl) v_int)
    (ss_cons (s_for hp O.calm nohx (i_range1 rfl T.z_range (va_cons (v_var 1) va_nil)) (g_name 3 O.nd rfl (by first | exact Or.inl rfl | exact Or.inr rfl)) (ss_one (s_asg 2 nohx O.nd rfl (by first | exact Or.inl rfl | exact Or.inr rfl) (v_mul rfl (v_var 2) (v_var 0)))))
    (ss_one (s_ret (v_var 2))))))
theorem sc_unrepeated_words : FnScope ["n", "k", "found", "part", "lesser", "near"] ["n", "k"] (defScope st_unrepeated_words) := ⟨rfl, rfl, rfl, by decide +kernel, rfl, by decide +kernel, by decide +kernel⟩
theorem ok_unrepeated_words {P : Program} {w : World} {K : PySem.W.Frag} {mg : Str → Option Value} {base : Heap} {d : Ad} (T : Tx P K mg d) : FnV P w K mg base 2 d.f_unrepeated_words d.d_unrepeated_words ["n", "k"] (spV (gC d K) ev_unrepeated_words) :=
  FnV.pure (fnV_of T.F_unrepeated_words sc_unrepeated_words fun cdv A l s H E O hp => by
  unfold b_unrepeated_words
  exact (ss_cons (s_asg 2 nohx O.nd rfl (by first | exact Or.inl rfl | exact Or.inr rfl) v_newK)
    (ss_cons (s_for hp O.calm nohx (i_range2 rfl T.z_range (va_cons v_int (va_cons (v_add rfl (v_var 0) v_int) va_nil))) (g_name 3 O.nd rfl (by first | exact Or.inl rfl | exact Or.inr rfl)) (ss_one (s_if (t_cmp (cm_eq rfl O.rm) (v_mod (v_biT bi_int rfl T.z_int PyProof.Rows.Boot.«int» (va_cons (v_var 0) va_nil)) (v_var 3)) v_int) (ss_cons (s_asg 4 nohx O.nd rfl (by first | exact Or.inl rfl | exact Or.inr rfl) (v_bi (bi_sum rfl O.calm) rfl T.z_sum PyProof.Rows.Boot.«sum» (va_cons (v_lk 2 (v_lc O.calm O.nd [("near", 5)] (by decide) (show blkC ["n", "k", "found", "part", "lesser", "near"] (defScope st_unrepeated_words) _ [("near", 5)] = true by decide +kernel) (i_seq rfl (v_var 2)) (fun s H C cl fp => (g_name 5 O.nd rfl (by first | exact Or.inl rfl | exact Or.inr rfl))) (fun s H C cl fp => (ts_one (t_cmp (cm_eq rfl O.rm) (v_mod (v_biT bi_int rfl T.z_int PyProof.Rows.Boot.«int» (va_cons (v_var 3) va_nil)) (v_var 5)) v_int))) (fun s H C cl fp => (v_ix rfl O.rm (v_var 2) (v_var 5))))) va_nil)))
    (ss_one (s_setix O.rm (v_var 2) (v_var 3) (v_sub (v_call O (ok_words_of T) (by decide) rfl T.m_words_of T.F_words_of.kp T.b_words_of (va_cons (v_var 1) (va_cons (v_var 3) va_nil))) (v_var 4))))) ss_nil)))
    (ss_one (s_ret (v_ix rfl O.rm (v_var 2) (v_var 0)))))))
theorem sc_words_number : FnScope ["n", "k"] ["n", "k"] (defScope st_words_number) := ⟨rfl, rfl, rfl, by decide +kernel, rfl, by decide +kernel, by decide +kernel⟩
theorem ok_words_number {P : Program} {w : World} {K : PySem.W.Frag} {mg : Str → Option Value} {base : Heap} {d : Ad} (T : Tx P K mg d) : FnV P w K mg base 5 d.f_words_number d.d_words_number ["n", "k"] (spV (gC d K) ev_words_number) :=
  FnV.pure (fnV_of T.F_words_number sc_words_number fun cdv A l s H E O hp => by
  unfold b_words_number
  exact (ss_cons (s_expr (v_call O (ok_check_least T) (by decide) rfl T.m_check_least T.F_check_least.kp T.b_check_least (va_cons (v_var 0) (va_cons v_int va_nil))))
    (ss_cons (s_expr (v_call O (ok_check_least T) (by decide) rfl T.m_check_least T.F_check_least.kp T.b_check_least (va_cons (v_var 1) (va_cons v_int va_nil))))
    (ss_one (s_ret (v_call O (ok_unrepeated_words T) (by decide) rfl T.m_unrepeated_words T.F_unrepeated_words.kp T.b_unrepeated_words (va_cons (v_var 0) (va_cons (v_var 1) va_nil))))))))
theorem sc_ways_number : FnScope ["n", "k", "number", "ring"] ["n", "k"] (defScope st_ways_number) := ⟨rfl, rfl, rfl, by decide +kernel, rfl, by decide +kernel, by decide +kernel⟩
theorem ok_ways_number {P : Program} {w : World} {K : PySem.W.Frag} {mg : Str → Option Value} {base : Heap} {d : Ad} (T : Tx P K mg d) : FnV P w K mg base 5 d.f_ways_number d.d_ways_number ["n", "k"] (spV (gC d K) ev_ways_number) :=
  FnV.pure (fnV_of T.F_ways_number sc_ways_number fun cdv A l s H E O hp => by
  unfold b_ways_number
  exact (ss_cons (s_expr (v_call O (ok_check_least T) (by decide) rfl T.m_check_least T.F_check_least.kp T.b_check_least (va_cons (v_var 0) (va_cons v_int va_nil))))
    (ss_cons (s_expr (v_call O (ok_check_least T) (by decide) rfl T.m_check_least T.F_check_least.kp T.b_check_least (va_cons (v_var 1) (va_cons v_int va_nil))))
    (ss_cons (s_asg 2 nohx O.nd rfl (by first | exact Or.inl rfl | exact Or.inr rfl) (v_call O (ok_unrepeated_words T) (by decide) rfl T.m_unrepeated_words T.F_unrepeated_words.kp T.b_unrepeated_words (va_cons (v_var 0) (va_cons (v_var 1) va_nil))))
    (ss_cons (s_for hp O.calm nohx (i_range2 rfl T.z_range (va_cons v_int (va_cons (v_var 0) va_nil))) (g_name 3 O.nd rfl (by first | exact Or.inl rfl | exact Or.inr rfl)) (ss_one (s_asg 2 nohx O.nd rfl (by first | exact Or.inl rfl | exact Or.inr rfl) (v_add rfl (v_var 2) (v_mul rfl (v_mul rfl (v_call O (ok_words_of T) (by decide) rfl T.m_words_of T.F_words_of.kp T.b_words_of (va_cons (v_var 1) (va_cons (v_sub (v_sub (v_var 0) (v_var 3)) v_int) va_nil))) (v_sub (v_var 1) v_int)) (v_call O (ok_unrepeated_words T) (by decide) rfl T.m_unrepeated_words T.F_unrepeated_words.kp T.b_unrepeated_words (va_cons (v_var 3) (va_cons (v_var 1) va_nil))))))))
    (ss_one (s_ret (v_var 2))))))))
theorem sc_law_purse : FnScope ["script", "coins", "number", "rest", "turn"] ["script"] (defScope st_law_purse) := ⟨rfl, rfl, rfl, by decide +kernel, rfl, by decide +kernel, by decide +kernel⟩
theorem ok_law_purse {P : Program} {w : World} {K : PySem.W.Frag} {mg : Str → Option Value} {base : Heap} {d : Ad} (T : Tx P K mg d) : FnV P w K mg base 1 d.f_law_purse d.d_law_purse ["script"] (spV (gC d K) ev_law_purse) :=
  FnV.pure (fnV_of T.F_law_purse sc_law_purse fun cdv A l s H E O hp => by
  unfold b_law_purse
  exact (ss_cons (s_asg 1 nohx O.nd rfl (by first | exact Or.inl rfl | exact Or.inr rfl) (v_lst va_nil))
    (ss_cons (s_for hp O.calm nohx (i_seq rfl (v_sl rfl (v_var 0) o_none (o_some v_int))) (g_name 2 O.nd rfl (by first | exact Or.inl rfl | exact Or.inr rfl)) (ss_cons (s_asg 3 nohx O.nd rfl (by first | exact Or.inl rfl | exact Or.inr rfl) (v_mul rfl v_int (v_biT bi_int rfl T.z_int PyProof.Rows.Boot.«int» (va_cons (v_var 2) va_nil))))
    (ss_cons (s_if (t_cmp cm_lt (v_var 3) v_int) (ss_one (s_asg 3 nohx O.nd rfl (by first | exact Or.inl rfl | exact Or.inr rfl) (v_sub v_int (v_var 3)))) ss_nil)
    (ss_cons (s_asg 3 nohx O.nd rfl (by first | exact Or.inl rfl | exact Or.inr rfl) (v_mod (v_biT bi_int rfl T.z_int PyProof.Rows.Boot.«int» (va_cons (v_var 3) va_nil)) (v_pow v_int v_int)))
    (ss_one (s_for hp O.calm nohx (i_range1 rfl T.z_range (va_cons v_int va_nil)) (g_name 4 O.nd rfl (by first | exact Or.inl rfl | exact Or.inr rfl)) (ss_cons (s_expr (v_ml rfl ml_append (v_var 1) (va_cons (v_mod (v_biT bi_int rfl T.z_int PyProof.Rows.Boot.«int» (va_cons (v_var 3) va_nil)) v_int) va_nil)))
    (ss_cons (s_asg 3 nohx O.nd rfl (by first | exact Or.inl rfl | exact Or.inr rfl) (v_div (v_var 3) v_int))
    (ss_one (s_if (t_cmp (cm_eq rfl O.rm) (v_var 3) v_int) (ss_one s_break) ss_nil))))))))))
    (ss_one (s_ret (v_disp (pv_cons v_str (v_var 1) (pv_cons v_str v_int pv_nil))))))))
theorem sc_law_pick : FnScope ["purse", "many", "at"] ["purse", "many"] (defScope st_law_pick) := ⟨rfl, rfl, rfl, by decide +kernel, rfl, by decide +kernel, by decide +kernel⟩
theorem ok_law_pick {P : Program} {w : World} {K : PySem.W.Frag} {mg : Str → Option Value} {base : Heap} {d : Ad} (T : Tx P K mg d) : FnV P w K mg base 1 d.f_law_pick d.d_law_pick ["purse", "many"] (spV (gC d K) ev_law_pick) :=
  FnV.pure (fnV_of T.F_law_pick sc_law_pick fun cdv A l s H E O hp => by
  unfold b_law_pick
  exact (ss_cons (s_asg 2 nohx O.nd rfl (by first | exact Or.inl rfl | exact Or.inr rfl) (v_biT bi_int rfl T.z_int PyProof.Rows.Boot.«int» (va_cons (v_ix rfl O.rm (v_var 0) v_str) va_nil)))
    (ss_cons (s_setix O.rm (v_var 0) v_str (v_add rfl (v_var 2) v_int))
    (ss_cons (s_if (t_cmp cm_ge (v_var 2) (v_bi (bi_len rfl) rfl T.z_len PyProof.Rows.Boot.«len» (va_cons (v_ix rfl O.rm (v_var 0) v_str) va_nil))) (ss_one (s_ret v_int)) ss_nil)
    (ss_one (s_ret (v_mod (v_biT bi_int rfl T.z_int PyProof.Rows.Boot.«int» (va_cons (v_ix rfl O.rm (v_ix rfl O.rm (v_var 0) v_str) (v_var 2)) va_nil)) (v_var 1))))))))
theorem sc_law_number : FnScope ["told", "due"] ["told", "due"] (defScope st_law_number) := ⟨rfl, rfl, rfl, by decide +kernel, rfl, by decide +kernel, by decide +kernel⟩
theorem ok_law_number {P : Program} {w : World} {K : PySem.W.Frag} {mg : Str → Option Value} {base : Heap} {d : Ad} (T : Tx P K mg d) : FnV P w K mg base 1 d.f_law_number d.d_law_number ["told", "due"] (spV (gC d K) ev_law_number) :=
  FnV.pure (fnV_of T.F_law_number sc_law_number fun cdv A l s H E O hp => by
  unfold b_law_number
  exact (ss_one (s_ret (v_and (v_bi (bi_isi rfl) rfl T.z_isinstance PyProof.Rows.Boot.«isinstance» (va_cons (v_var 0) (va_cons (v_ty rfl T.z_int PyProof.Rows.Boot.«int») va_nil))) (v_and (v_not (v_bi (bi_isi rfl) rfl T.z_isinstance PyProof.Rows.Boot.«isinstance» (va_cons (v_var 0) (va_cons (v_ty rfl T.z_bool PyProof.Rows.Boot.«bool») va_nil)))) (v_one (v_cmp (cm_eq rfl O.rm) (v_var 0) (v_var 1))))))))
theorem sc_law_refused : FnScope ["which", "n", "k", "kept", "error", "sure", "told"] ["which", "n", "k", "kept"] (defScope st_law_refused) := ⟨rfl, rfl, rfl, by decide +kernel, rfl, by decide +kernel, by decide +kernel⟩
theorem ok_law_refused {P : Program} {w : World} {K : PySem.W.Frag} {mg : Str → Option Value} {base : Heap} {d : Ad} (T : Tx P K mg d) : FnV P w K mg base 6 d.f_law_refused d.d_law_refused ["which", "n", "k", "kept"] (spV (gC d K) ev_law_refused) :=
  FnV.pure (fnV_of T.F_law_refused sc_law_refused fun cdv A l s H E O hp => by
  unfold b_law_refused
  exact (ss_cons (s_asgT nohx (v_tup (va_cons v_bl (va_cons v_non va_nil))) (g_tup rfl O.calm (gs_cons nohx (g_name 5 O.nd rfl (by first | exact Or.inl rfl | exact Or.inr rfl)) (gs_cons nohx (g_name 6 O.nd rfl (by first | exact Or.inl rfl | exact Or.inr rfl)) gs_nil))))
    (ss_cons (s_try rfl rfl O.nd O.tk rfl (fun w1 pn xe tk hp1 => (ss_one (s_if (t_cmp (cm_eq rfl O.rm) (v_var 0) v_str) (ss_one (s_expr (v_call ⟨tk, O.rm, O.calm, O.nd⟩ (ok_words_number T) (by decide) rfl T.m_words_number T.F_words_number.kp T.b_words_number (va_cons (v_var 1) (va_cons (v_var 2) va_nil))))) (ss_one (s_expr (v_call ⟨tk, O.rm, O.calm, O.nd⟩ (ok_ways_number T) (by decide) rfl T.m_ways_number T.F_ways_number.kp T.b_ways_number (va_cons (v_var 1) (va_cons (v_var 2) va_nil)))))))) (HvOk.as ⟨rfl, by decide, .inl T.m_BadNumber⟩ T.e_BadNumber rfl rfl (fun a dd oe k fs pn hz hf => (ss_cons (s_asg 6 (nohxH (by decide)) O.nd rfl (by first | exact Or.inl rfl | exact Or.inr rfl) (v_xf T.xf T.x_at hz hf rfl (Or.inl rfl)))
    (ss_one (s_asg 5 (nohxH (by decide)) O.nd rfl (by first | exact Or.inl rfl | exact Or.inr rfl) (v_and (v_isE (v := .ref d.c_BesideError) (i := 4) T.xC T.k_BesideError (fun _ h => h) hz hf (pe_glob (v := .ref d.c_BesideError) rfl T.m_BesideError rfl) rfl T.z_isinstance PyProof.Rows.Boot.«isinstance» rfl (Or.inl rfl)) (v_one (v_not (v_isE (v := .ref d.c_BadTable) (i := 4) T.xC T.k_BadTable (fun _ h => h) hz hf (pe_glob (v := .ref d.c_BadTable) rfl T.m_BadTable rfl) rfl T.z_isinstance PyProof.Rows.Boot.«isinstance» rfl (Or.inl rfl))))))))) HvOk.nil))
    (ss_one (s_ret (v_and (v_var 5) (v_one (v_cmp (cm_eq rfl O.rm) (v_bi (bi_repr rfl O.rm) rfl T.z_repr PyProof.Rows.Boot.«repr» (va_cons (v_var 6) va_nil)) (v_bi (bi_repr rfl O.rm) rfl T.z_repr PyProof.Rows.Boot.«repr» (va_cons (v_var 3) va_nil))))))))))
theorem sc_is_way_form : FnScope ["x", "number"] ["x"] (defScope st_is_way_form) := ⟨rfl, rfl, rfl, by decide +kernel, rfl, by decide +kernel, by decide +kernel⟩
theorem ok_is_way_form {P : Program} {w : World} {K : PySem.W.Frag} {mg : Str → Option Value} {base : Heap} {d : Ad} (T : Tx P K mg d) : FnV P w K mg base 2 d.f_is_way_form d.d_is_way_form ["x"] (spV (gC d K) ev_is_way_form) :=
  FnV.pure (fnV_of T.F_is_way_form sc_is_way_form fun cdv A l s H E O hp => by
  unfold b_is_way_form
  exact (ss_cons (s_if (PW.pt (w_or (t_not (t_val (v_bi (bi_isi rfl) rfl T.z_isinstance PyProof.Rows.Boot.«isinstance» (va_cons (v_var 0) (va_cons (v_tup (va_cons (v_ty rfl T.z_tuple PyProof.Rows.Boot.«tuple») (va_cons (v_ty rfl T.z_list PyProof.Rows.Boot.«list») va_nil))) va_nil))))) (w_or1 (t_cmp (cm_ne rfl O.rm) (v_bi (bi_len rfl) rfl T.z_len PyProof.Rows.Boot.«len» (va_cons (v_var 0) va_nil)) v_int)))) (ss_one (s_ret v_bl)) ss_nil)
    (ss_cons (s_if (PW.pt (w_or (t_not (t_val (v_call O (ok_is_int T) (by decide) rfl T.m_is_int T.F_is_int.kp T.b_is_int (va_cons (v_ix rfl O.rm (v_var 0) v_int) va_nil)))) (w_or1 (t_cmp cm_lt (v_ix rfl O.rm (v_var 0) v_int) v_int)))) (ss_one (s_ret v_bl)) ss_nil)
    (ss_cons (s_if (PW.pt (w_or (t_not (t_val (v_bi (bi_isi rfl) rfl T.z_isinstance PyProof.Rows.Boot.«isinstance» (va_cons (v_ix rfl O.rm (v_var 0) v_int) (va_cons (v_tup (va_cons (v_ty rfl T.z_tuple PyProof.Rows.Boot.«tuple») (va_cons (v_ty rfl T.z_list PyProof.Rows.Boot.«list») va_nil))) va_nil))))) (w_or1 (t_cmp cm_le (v_bi (bi_len rfl) rfl T.z_len PyProof.Rows.Boot.«len» (va_cons (v_ix rfl O.rm (v_var 0) v_int) va_nil)) (v_ix rfl O.rm (v_var 0) v_int))))) (ss_one (s_ret v_bl)) ss_nil)
    (ss_one (s_ret (v_cmp (cm_eq rfl O.rm) (v_lc O.calm O.nd [("number", 1)] (by decide) (show blkC ["x", "number"] (defScope st_is_way_form) _ [("number", 1)] = true by decide +kernel) (i_seq rfl (v_ix rfl O.rm (v_var 0) v_int)) (fun s H C cl fp => (g_name 1 O.nd rfl (by first | exact Or.inl rfl | exact Or.inr rfl))) (fun s H C cl fp => (ts_one (PW.pt (w_or (t_not (t_val (v_call (XOk.blk O) (ok_is_int T) (by decide) rfl T.m_is_int T.F_is_int.kp T.b_is_int (va_cons (v_var 1) va_nil)))) (w_or1 (t_cmp cm_lt (v_var 1) v_int)))))) (fun s H C cl fp => (v_var 1))) (v_lst va_nil))))))))
theorem sc_is_way_short : FnScope ["t", "shown", "ring", "many", "part"] ["t", "shown"] (defScope st_is_way_short) := ⟨rfl, rfl, rfl, by decide +kernel, rfl, by decide +kernel, by decide +kernel⟩
theorem ok_is_way_short {P : Program} {w : World} {K : PySem.W.Frag} {mg : Str → Option Value} {base : Heap} {d : Ad} (T : Tx P K mg d) : FnV P w K mg base 1 d.f_is_way_short d.d_is_way_short ["t", "shown"] (spV (gC d K) ev_is_way_short) :=
  FnV.pure (fnV_of T.F_is_way_short sc_is_way_short fun cdv A l s H E O hp => by
  unfold b_is_way_short
  exact (ss_cons (s_asg 2 nohx O.nd rfl (by first | exact Or.inl rfl | exact Or.inr rfl) (v_sl rfl (v_var 1) (o_some (v_var 0)) o_none))
    (ss_cons (s_if (PW.pt (w_and (t_cmp cm_ge (v_var 0) v_int) (w_and1 (t_cmp (cm_eq rfl O.rm) (v_ix rfl O.rm (v_var 1) (v_sub (v_var 0) v_int)) (v_ix rfl O.rm (v_var 2) (v_neg v_int)))))) (ss_one (s_ret v_bl)) ss_nil)
    (ss_cons (s_asg 3 nohx O.nd rfl (by first | exact Or.inl rfl | exact Or.inr rfl) (v_bi (bi_len rfl) rfl T.z_len PyProof.Rows.Boot.«len» (va_cons (v_var 2) va_nil)))
    (ss_cons (s_for hp O.calm nohx (i_range2 rfl T.z_range (va_cons v_int (va_cons (v_var 3) va_nil))) (g_name 4 O.nd rfl (by first | exact Or.inl rfl | exact Or.inr rfl)) (ss_one (s_if (PW.pt (w_and (t_cmp (cm_eq rfl O.rm) (v_mod (v_biT bi_int rfl T.z_int PyProof.Rows.Boot.«int» (va_cons (v_var 3) va_nil)) (v_var 4)) v_int) (w_and1 (t_cmp (cm_eq rfl O.rm) (v_add rfl (v_sl rfl (v_var 2) (o_some (v_var 4)) o_none) (v_sl rfl (v_var 2) o_none (o_some (v_var 4)))) (v_var 2))))) (ss_one (s_ret v_bl)) ss_nil)))
    (ss_one (s_ret v_bl)))))))
theorem sc_is_way : FnScope ["way", "shown", "number"] ["way"] (defScope st_is_way) := ⟨rfl, rfl, rfl, by decide +kernel, rfl, by decide +kernel, by decide +kernel⟩
theorem ok_is_way {P : Program} {w : World} {K : PySem.W.Frag} {mg : Str → Option Value} {base : Heap} {d : Ad} (T : Tx P K mg d) : FnV P w K mg base 3 d.f_is_way d.d_is_way ["way"] (spV (gC d K) ev_is_way) :=
  FnV.pure (fnV_of T.F_is_way sc_is_way fun cdv A l s H E O hp => by
  unfold b_is_way
  exact (ss_cons (s_if (t_not (t_val (v_call O (ok_is_way_form T) (by decide) rfl T.m_is_way_form T.F_is_way_form.kp T.b_is_way_form (va_cons (v_var 0) va_nil)))) (ss_one (s_ret v_bl)) ss_nil)
    (ss_cons (s_asg 1 nohx O.nd rfl (by first | exact Or.inl rfl | exact Or.inr rfl) (v_biT (bi_tuple rfl) rfl T.z_tuple PyProof.Rows.Boot.«tuple» (va_cons (v_ix rfl O.rm (v_var 0) v_int) va_nil)))
    (ss_cons (s_if (t_cmp (cm_ne rfl O.rm) (v_lc O.calm O.nd [("number", 2)] (by decide) (show blkC ["way", "shown", "number"] (defScope st_is_way) _ [("number", 2)] = true by decide +kernel) (i_seq rfl (v_var 1)) (fun s H C cl fp => (g_name 2 O.nd rfl (by first | exact Or.inl rfl | exact Or.inr rfl))) (fun s H C cl fp => (ts_one (t_cmp cm_gt (v_var 2) v_int))) (fun s H C cl fp => (v_var 2))) (v_lst va_nil)) (ss_one (s_ret v_bl)) ss_nil)
    (ss_one (s_ret (v_not (v_call O (ok_is_way_short T) (by decide) rfl T.m_is_way_short T.F_is_way_short.kp T.b_is_way_short (va_cons (v_ix rfl O.rm (v_var 0) v_int) (va_cons (v_var 1) va_nil))))))))))
theorem sc_law_words : FnScope ["n", "k", "words", "place", "longer", "word", "sign"] ["n", "k"] (defScope st_law_words) := ⟨rfl, rfl, rfl, by decide +kernel, rfl, by decide +kernel, by decide +kernel⟩
theorem ok_law_words {P : Program} {w : World} {K : PySem.W.Frag} {mg : Str → Option Value} {base : Heap} {d : Ad} (T : Tx P K mg d) : FnV P w K mg base 1 d.f_law_words d.d_law_words ["n", "k"] (spV (gC d K) ev_law_words) :=
  FnV.pure (fnV_of T.F_law_words sc_law_words fun cdv A l s H E O hp => by
  unfold b_law_words
  exact (ss_cons (s_asg 2 nohx O.nd rfl (by first | exact Or.inl rfl | exact Or.inr rfl) (v_lst (va_cons (v_tup va_nil) va_nil)))
    (ss_cons (s_for hp O.calm nohx (i_range1 rfl T.z_range (va_cons (v_var 0) va_nil)) (g_name 3 O.nd rfl (by first | exact Or.inl rfl | exact Or.inr rfl)) (ss_cons (s_asg 4 nohx O.nd rfl (by first | exact Or.inl rfl | exact Or.inr rfl) (v_lst va_nil))
    (ss_cons (s_for hp O.calm nohx (i_seq rfl (v_var 2)) (g_name 5 O.nd rfl (by first | exact Or.inl rfl | exact Or.inr rfl)) (ss_one (s_expr (v_ml rfl ml_extend (v_var 4) (va_cons (v_lc O.calm O.nd [("sign", 6)] (by decide) (show blkC ["n", "k", "words", "place", "longer", "word", "sign"] (defScope st_law_words) _ [("sign", 6)] = true by decide +kernel) (i_range1 rfl T.z_range (va_cons (v_var 1) va_nil)) (fun s H C cl fp => (g_name 6 O.nd rfl (by first | exact Or.inl rfl | exact Or.inr rfl))) (fun s H C cl fp => ts_nil) (fun s H C cl fp => (v_add rfl (v_var 5) (v_tup (va_cons (v_var 6) va_nil))))) va_nil)))))
    (ss_one (s_asg 2 nohx O.nd rfl (by first | exact Or.inl rfl | exact Or.inr rfl) (v_var 4))))))
    (ss_one (s_ret (v_var 2))))))
theorem sc_law_repeats : FnScope ["word", "part"] ["word"] (defScope st_law_repeats) := ⟨rfl, rfl, rfl, by decide +kernel, rfl, by decide +kernel, by decide +kernel⟩
theorem ok_law_repeats {P : Program} {w : World} {K : PySem.W.Frag} {mg : Str → Option Value} {base : Heap} {d : Ad} (T : Tx P K mg d) : FnV P w K mg base 1 d.f_law_repeats d.d_law_repeats ["word"] (spV (gC d K) ev_law_repeats) :=
  FnV.pure (fnV_of T.F_law_repeats sc_law_repeats fun cdv A l s H E O hp => by
  unfold b_law_repeats
  exact (ss_cons (s_for hp O.calm nohx (i_range2 rfl T.z_range (va_cons v_int (va_cons (v_bi (bi_len rfl) rfl T.z_len PyProof.Rows.Boot.«len» (va_cons (v_var 0) va_nil)) va_nil))) (g_name 1 O.nd rfl (by first | exact Or.inl rfl | exact Or.inr rfl)) (ss_one (s_if (PW.pt (w_and (t_cmp (cm_eq rfl O.rm) (v_mod (v_biT bi_int rfl T.z_int PyProof.Rows.Boot.«int» (va_cons (v_bi (bi_len rfl) rfl T.z_len PyProof.Rows.Boot.«len» (va_cons (v_var 0) va_nil)) va_nil)) (v_var 1)) v_int) (w_and1 (t_cmp (cm_eq rfl O.rm) (v_var 0) (v_mul rfl (v_sl rfl (v_var 0) o_none (o_some (v_var 1))) (v_div (v_bi (bi_len rfl) rfl T.z_len PyProof.Rows.Boot.«len» (va_cons (v_var 0) va_nil)) (v_var 1))))))) (ss_one (s_ret v_bl)) ss_nil)))
    (ss_one (s_ret v_bl))))
theorem sc_law_tried : FnScope ["n", "k", "prime", "word", "words", "ways", "t", "right", "told"] ["n", "k"] (defScope st_law_tried) := ⟨rfl, rfl, rfl, by decide +kernel, rfl, by decide +kernel, by decide +kernel⟩
theorem ok_law_tried {P : Program} {w : World} {K : PySem.W.Frag} {mg : Str → Option Value} {base : Heap} {d : Ad} (T : Tx P K mg d) : FnV P w K mg base 4 d.f_law_tried d.d_law_tried ["n", "k"] (spV (gC d K) ev_law_tried) :=
  FnV.pure (fnV_of T.F_law_tried sc_law_tried fun cdv A l s H E O hp => by
  unfold b_law_tried
  exact (ss_cons (s_par 4 5 nohx O.calm O.nd rfl rfl (by decide) rfl rfl (va_cons (v_call O (ok_law_words T) (by decide) rfl T.m_law_words T.F_law_words.kp T.b_law_words (va_cons (v_var 0) (va_cons (v_var 1) va_nil))) (va_cons v_int va_nil)))
    (ss_cons (s_asg 2 nohx O.nd rfl (by first | exact Or.inl rfl | exact Or.inr rfl) (v_bi (bi_len rfl) rfl T.z_len PyProof.Rows.Boot.«len» (va_cons (v_lc O.calm O.nd [("word", 3)] (by decide) (show blkC ["n", "k", "prime", "word", "words", "ways", "t", "right", "told"] (defScope st_law_tried) _ [("word", 3)] = true by decide +kernel) (i_seq rfl (v_var 4)) (fun s H C cl fp => (g_name 3 O.nd rfl (by first | exact Or.inl rfl | exact Or.inr rfl))) (fun s H C cl fp => (ts_one (t_not (t_val (v_call (XOk.blk O) (ok_law_repeats T) (by decide) rfl T.m_law_repeats T.F_law_repeats.kp T.b_law_repeats (va_cons (v_var 3) va_nil)))))) (fun s H C cl fp => (v_var 3))) va_nil)))
    (ss_cons (s_for hp O.calm nohx (i_seq rfl (v_var 4)) (g_name 3 O.nd rfl (by first | exact Or.inl rfl | exact Or.inr rfl)) (ss_one (s_for hp O.calm nohx (i_range1 rfl T.z_range (va_cons (v_var 0) va_nil)) (g_name 6 O.nd rfl (by first | exact Or.inl rfl | exact Or.inr rfl)) (ss_cons (s_asg 7 nohx O.nd rfl (by first | exact Or.inl rfl | exact Or.inr rfl) (v_and (v_not (v_call O (ok_law_repeats T) (by decide) rfl T.m_law_repeats T.F_law_repeats.kp T.b_law_repeats (va_cons (v_sl rfl (v_var 3) (o_some (v_var 6)) o_none) va_nil))) (v_one (v_or (v_cmp (cm_eq rfl O.rm) (v_var 6) v_int) (v_one (v_cmp (cm_ne rfl O.rm) (v_ix rfl O.rm (v_var 3) (v_sub (v_var 6) v_int)) (v_ix rfl O.rm (v_var 3) (v_neg v_int))))))))
    (ss_cons (s_asg 5 nohx O.nd rfl (by first | exact Or.inl rfl | exact Or.inr rfl) (v_add rfl (v_var 5) (v_biT bi_int rfl T.z_int PyProof.Rows.Boot.«int» (va_cons (v_var 7) va_nil))))
    (ss_cons (s_asg 8 nohx O.nd rfl (by first | exact Or.inl rfl | exact Or.inr rfl) (v_call O (ok_is_way T) (by decide) rfl T.m_is_way T.F_is_way.kp T.b_is_way (va_cons (v_tup (va_cons (v_var 6) (va_cons (v_var 3) va_nil))) va_nil)))
    (ss_one (s_if (PW.pt (w_or (t_not (t_val (v_bi (bi_isi rfl) rfl T.z_isinstance PyProof.Rows.Boot.«isinstance» (va_cons (v_var 8) (va_cons (v_ty rfl T.z_bool PyProof.Rows.Boot.«bool») va_nil))))) (w_or1 (t_cmp (cm_ne rfl O.rm) (v_var 8) (v_var 7))))) (ss_one (s_ret v_non)) ss_nil))))))))
    (ss_one (s_ret (v_tup (va_cons (v_var 2) (va_cons (v_var 5) va_nil)))))))))
theorem sc_law_sign : FnScope ["n", "part", "rest", "sign"] ["n"] (defScope st_law_sign) := ⟨rfl, rfl, rfl, by decide +kernel, rfl, by decide +kernel, by decide +kernel⟩
theorem ok_law_sign {P : Program} {w : World} {K : PySem.W.Frag} {mg : Str → Option Value} {base : Heap} {d : Ad} (T : Tx P K mg d) : FnV P w K mg base 1 d.f_law_sign d.d_law_sign ["n"] (spV (gC d K) ev_law_sign) :=
  FnV.pure (fnV_of T.F_law_sign sc_law_sign fun cdv A l s H E O hp => by
  unfold b_law_sign
  exact (ss_cons (s_par 2 3 nohx O.calm O.nd rfl rfl (by decide) rfl rfl (va_cons (v_var 0) (va_cons v_int va_nil)))
    (ss_cons (s_for hp O.calm nohx (i_range2 rfl T.z_range (va_cons v_int (va_cons v_int va_nil))) (g_name 1 O.nd rfl (by first | exact Or.inl rfl | exact Or.inr rfl)) (ss_one (s_if (t_cmp (cm_eq rfl O.rm) (v_mod (v_biT bi_int rfl T.z_int PyProof.Rows.Boot.«int» (va_cons (v_var 2) va_nil)) (v_var 1)) v_int) (ss_cons (s_par 2 3 nohx O.calm O.nd rfl rfl (by decide) rfl rfl (va_cons (v_div (v_var 2) (v_var 1)) (va_cons (v_neg (v_var 3)) va_nil)))
    (ss_one (s_if (t_cmp (cm_eq rfl O.rm) (v_mod (v_biT bi_int rfl T.z_int PyProof.Rows.Boot.«int» (va_cons (v_var 2) va_nil)) (v_var 1)) v_int) (ss_one (s_ret v_int)) ss_nil))) ss_nil)))
    (ss_cons (s_if (t_cmp cm_gt (v_var 2) v_int) (ss_one (s_ret (v_neg (v_var 3)))) ss_nil)
    (ss_one (s_ret (v_var 3)))))))
theorem sc_law_formed : FnScope ["n", "k", "powers", "place", "signs", "prime", "many", "ways", "ring", "part"] ["n", "k"] (defScope st_law_formed) := ⟨rfl, rfl, rfl, by decide +kernel, rfl, by decide +kernel, by decide +kernel⟩
theorem ok_law_formed {P : Program} {w : World} {K : PySem.W.Frag} {mg : Str → Option Value} {base : Heap} {d : Ad} (T : Tx P K mg d) : FnV P w K mg base 2 d.f_law_formed d.d_law_formed ["n", "k"] (spV (gC d K) ev_law_formed) :=
  FnV.pure (fnV_of T.F_law_formed sc_law_formed fun cdv A l s H E O hp => by
  unfold b_law_formed
  exact (ss_cons (s_asg 2 nohx O.nd rfl (by first | exact Or.inl rfl | exact Or.inr rfl) (v_lst (va_cons v_int va_nil)))
    (ss_cons (s_for hp O.calm nohx (i_range1 rfl T.z_range (va_cons (v_var 0) va_nil)) (g_name 3 O.nd rfl (by first | exact Or.inl rfl | exact Or.inr rfl)) (ss_one (s_expr (v_ml rfl ml_append (v_var 2) (va_cons (v_mul rfl (v_ix rfl O.rm (v_var 2) (v_neg v_int)) (v_var 1)) va_nil)))))
    (ss_cons (s_asg 4 nohx O.nd rfl (by first | exact Or.inl rfl | exact Or.inr rfl) (v_add rfl (v_lst (va_cons v_int va_nil)) (v_lc O.calm O.nd [("part", 9)] (by decide) (show blkC ["n", "k", "powers", "place", "signs", "prime", "many", "ways", "ring", "part"] (defScope st_law_formed) _ [("part", 9)] = true by decide +kernel) (i_range2 rfl T.z_range (va_cons v_int (va_cons (v_add rfl (v_var 0) v_int) va_nil))) (fun s H C cl fp => (g_name 9 O.nd rfl (by first | exact Or.inl rfl | exact Or.inr rfl))) (fun s H C cl fp => ts_nil) (fun s H C cl fp => (v_call (XOk.blk O) (ok_law_sign T) (by decide) rfl T.m_law_sign T.F_law_sign.kp T.b_law_sign (va_cons (v_var 9) va_nil))))))
    (ss_cons (s_asg 5 nohx O.nd rfl (by first | exact Or.inl rfl | exact Or.inr rfl) (v_mul rfl (v_lst (va_cons v_int va_nil)) (v_add rfl (v_var 0) v_int)))
    (ss_cons (s_for hp O.calm nohx (i_range2 rfl T.z_range (va_cons v_int (va_cons (v_add rfl (v_var 0) v_int) va_nil))) (g_name 6 O.nd rfl (by first | exact Or.inl rfl | exact Or.inr rfl)) (ss_one (s_for hp O.calm nohx (i_range2 rfl T.z_range (va_cons v_int (va_cons (v_add rfl (v_var 6) v_int) va_nil))) (g_name 9 O.nd rfl (by first | exact Or.inl rfl | exact Or.inr rfl)) (ss_one (s_if (t_cmp (cm_eq rfl O.rm) (v_mod (v_biT bi_int rfl T.z_int PyProof.Rows.Boot.«int» (va_cons (v_var 6) va_nil)) (v_var 9)) v_int) (ss_one (s_setix O.rm (v_var 5) (v_var 6) (v_add rfl (v_ix rfl O.rm (v_var 5) (v_var 6)) (v_mul rfl (v_ix rfl O.rm (v_var 4) (v_div (v_var 6) (v_var 9))) (v_ix rfl O.rm (v_var 2) (v_var 9)))))) ss_nil)))))
    (ss_cons (s_asg 7 nohx O.nd rfl (by first | exact Or.inl rfl | exact Or.inr rfl) (v_ix rfl O.rm (v_var 5) (v_var 0)))
    (ss_cons (s_for hp O.calm nohx (i_range2 rfl T.z_range (va_cons v_int (va_cons (v_var 0) va_nil))) (g_name 8 O.nd rfl (by first | exact Or.inl rfl | exact Or.inr rfl)) (ss_one (s_asg 7 nohx O.nd rfl (by first | exact Or.inl rfl | exact Or.inr rfl) (v_add rfl (v_var 7) (v_mul rfl (v_mul rfl (v_ix rfl O.rm (v_var 2) (v_sub (v_sub (v_var 0) (v_var 8)) v_int)) (v_sub (v_var 1) v_int)) (v_ix rfl O.rm (v_var 5) (v_var 8)))))))
    (ss_one (s_ret (v_tup (va_cons (v_ix rfl O.rm (v_var 5) (v_var 0)) (va_cons (v_var 7) va_nil)))))))))))))
theorem sc_law : FnScope ["script", "purse", "small", "due", "n", "k", "odd", "which"] ["script"] (defScope st_law) := ⟨rfl, rfl, rfl, by decide +kernel, rfl, by decide +kernel, by decide +kernel⟩
theorem ok_law {P : Program} {w : World} {K : PySem.W.Frag} {mg : Str → Option Value} {base : Heap} {d : Ad} (T : Tx P K mg d) : FnV P w K mg base 7 d.f_law d.d_law ["script"] (spV (gC d K) ev_law) :=
  (fnV_of T.F_law sc_law fun cdv A l s H E O hp => by
  unfold b_law
  exact (ss_cons (s_asg 1 nohx O.nd rfl (by first | exact Or.inl rfl | exact Or.inr rfl) (v_call O (ok_law_purse T) (by decide) rfl T.m_law_purse T.F_law_purse.kp T.b_law_purse (va_cons (v_var 0) va_nil)))
    (ss_cons (s_asg 2 nohx O.nd rfl (by first | exact Or.inl rfl | exact Or.inr rfl) (v_tup (va_cons (v_tup (va_cons v_int (va_cons v_int va_nil))) (va_cons (v_tup (va_cons v_int (va_cons v_int va_nil))) (va_cons (v_tup (va_cons v_int (va_cons v_int va_nil))) (va_cons (v_tup (va_cons v_int (va_cons v_int va_nil))) (va_cons (v_tup (va_cons v_int (va_cons v_int va_nil))) (va_cons (v_tup (va_cons v_int (va_cons v_int va_nil))) (va_cons (v_tup (va_cons v_int (va_cons v_int va_nil))) (va_cons (v_tup (va_cons v_int (va_cons v_int va_nil))) (va_cons (v_tup (va_cons v_int (va_cons v_int va_nil))) (va_cons (v_tup (va_cons v_int (va_cons v_int va_nil))) (va_cons (v_tup (va_cons v_int (va_cons v_int va_nil))) (va_cons (v_tup (va_cons v_int (va_cons v_int va_nil))) (va_cons (v_tup (va_cons v_int (va_cons v_int va_nil))) (va_cons (v_tup (va_cons v_int (va_cons v_int va_nil))) (va_cons (v_tup (va_cons v_int (va_cons v_int va_nil))) va_nil)))))))))))))))))
    (ss_cons (s_asgT nohx (v_ix rfl O.rm (v_var 2) (v_call O (ok_law_pick T) (by decide) rfl T.m_law_pick T.F_law_pick.kp T.b_law_pick (va_cons (v_var 1) (va_cons v_int va_nil)))) (g_tup rfl O.calm (gs_cons nohx (g_name 4 O.nd rfl (by first | exact Or.inl rfl | exact Or.inr rfl)) (gs_cons nohx (g_name 5 O.nd rfl (by first | exact Or.inl rfl | exact Or.inr rfl)) gs_nil))))
    (ss_cons (s_asg 3 nohx O.nd rfl (by first | exact Or.inl rfl | exact Or.inr rfl) (v_call O (ok_law_tried T) (by decide) rfl T.m_law_tried T.F_law_tried.kp T.b_law_tried (va_cons (v_var 4) (va_cons (v_var 5) va_nil))))
    (ss_cons (s_if (PW.pt (w_or (t_cmp cm_is (v_var 3) v_non) (w_or1 (t_cmp (cm_ne rfl O.rm) (v_var 3) (v_call O (ok_law_formed T) (by decide) rfl T.m_law_formed T.F_law_formed.kp T.b_law_formed (va_cons (v_var 4) (va_cons (v_var 5) va_nil))))))) (ss_one (s_ret v_bl)) ss_nil)
    (ss_cons (s_if (PW.pt (w_or (t_not (t_val (v_call O (ok_law_number T) (by decide) rfl T.m_law_number T.F_law_number.kp T.b_law_number (va_cons (v_call O (ok_words_number T) (by decide) rfl T.m_words_number T.F_words_number.kp T.b_words_number (va_cons (v_var 4) (va_cons (v_var 5) va_nil))) (va_cons (v_ix rfl O.rm (v_var 3) v_int) va_nil))))) (w_or1 (t_not (t_val (v_call O (ok_law_number T) (by decide) rfl T.m_law_number T.F_law_number.kp T.b_law_number (va_cons (v_call O (ok_ways_number T) (by decide) rfl T.m_ways_number T.F_ways_number.kp T.b_ways_number (va_cons (v_var 4) (va_cons (v_var 5) va_nil))) (va_cons (v_ix rfl O.rm (v_var 3) v_int) va_nil)))))))) (ss_one (s_ret v_bl)) ss_nil)
    (ss_cons (s_asg 4 nohx O.nd rfl (by first | exact Or.inl rfl | exact Or.inr rfl) (v_add rfl v_int (v_call O (ok_law_pick T) (by decide) rfl T.m_law_pick T.F_law_pick.kp T.b_law_pick (va_cons (v_var 1) (va_cons v_int va_nil)))))
    (ss_cons (s_if (t_cmp (cm_eq rfl O.rm) (v_call O (ok_law_pick T) (by decide) rfl T.m_law_pick T.F_law_pick.kp T.b_law_pick (va_cons (v_var 1) (va_cons v_int va_nil))) v_int) (ss_one (s_asg 4 nohx O.nd rfl (by first | exact Or.inl rfl | exact Or.inr rfl) (v_sub v_int (v_mul rfl (v_call O (ok_law_pick T) (by decide) rfl T.m_law_pick T.F_law_pick.kp T.b_law_pick (va_cons (v_var 1) (va_cons v_int va_nil))) (v_call O (ok_law_pick T) (by decide) rfl T.m_law_pick T.F_law_pick.kp T.b_law_pick (va_cons (v_var 1) (va_cons v_int va_nil))))))) ss_nil)
    (ss_cons (s_asg 5 nohx O.nd rfl (by first | exact Or.inl rfl | exact Or.inr rfl) (v_add rfl (v_ix rfl O.rm (v_tup (va_cons v_int (va_cons v_int (va_cons v_int (va_cons v_int (va_cons v_int (va_cons (v_add rfl (v_pow v_int v_int) v_int) (va_cons v_int (va_cons v_int va_nil))))))))) (v_call O (ok_law_pick T) (by decide) rfl T.m_law_pick T.F_law_pick.kp T.b_law_pick (va_cons (v_var 1) (va_cons v_int va_nil)))) (v_call O (ok_law_pick T) (by decide) rfl T.m_law_pick T.F_law_pick.kp T.b_law_pick (va_cons (v_var 1) (va_cons v_int va_nil)))))
    (ss_cons (s_asg 3 nohx O.nd rfl (by first | exact Or.inl rfl | exact Or.inr rfl) (v_call O (ok_law_formed T) (by decide) rfl T.m_law_formed T.F_law_formed.kp T.b_law_formed (va_cons (v_var 4) (va_cons (v_var 5) va_nil))))
    (ss_cons (s_if (PW.pt (w_or (t_not (t_val (v_call O (ok_law_number T) (by decide) rfl T.m_law_number T.F_law_number.kp T.b_law_number (va_cons (v_call O (ok_words_number T) (by decide) rfl T.m_words_number T.F_words_number.kp T.b_words_number (va_cons (v_var 4) (va_cons (v_var 5) va_nil))) (va_cons (v_ix rfl O.rm (v_var 3) v_int) va_nil))))) (w_or1 (t_not (t_val (v_call O (ok_law_number T) (by decide) rfl T.m_law_number T.F_law_number.kp T.b_law_number (va_cons (v_call O (ok_ways_number T) (by decide) rfl T.m_ways_number T.F_ways_number.kp T.b_ways_number (va_cons (v_var 4) (va_cons (v_var 5) va_nil))) (va_cons (v_ix rfl O.rm (v_var 3) v_int) va_nil)))))))) (ss_one (s_ret v_bl)) ss_nil)
    (ss_cons (s_asg 6 nohx O.nd rfl (by first | exact Or.inl rfl | exact Or.inr rfl) (v_ix rfl O.rm (v_tup (va_cons v_int (va_cons (v_neg v_int) (va_cons v_bl (va_cons v_non (va_cons v_str (va_cons (v_tup (va_cons v_int va_nil)) (va_cons (v_neg (v_pow v_int v_int)) (va_cons v_bl va_nil))))))))) (v_call O (ok_law_pick T) (by decide) rfl T.m_law_pick T.F_law_pick.kp T.b_law_pick (va_cons (v_var 1) (va_cons v_int va_nil)))))
    (ss_cons (s_for hp O.calm nohx (i_seq rfl (v_tup (va_cons v_str (va_cons v_str va_nil)))) (g_name 7 O.nd rfl (by first | exact Or.inl rfl | exact Or.inr rfl)) (ss_one (s_if (PW.pt (w_or (t_not (t_val (v_call O (ok_law_refused T) (by decide) rfl T.m_law_refused T.F_law_refused.kp T.b_law_refused (va_cons (v_var 7) (va_cons (v_var 6) (va_cons v_int (va_cons (v_var 6) va_nil))))))) (w_or1 (t_not (t_val (v_call O (ok_law_refused T) (by decide) rfl T.m_law_refused T.F_law_refused.kp T.b_law_refused (va_cons (v_var 7) (va_cons (v_var 4) (va_cons (v_var 6) (va_cons (v_var 6) va_nil)))))))))) (ss_one (s_ret v_bl)) ss_nil)))
    (ss_one (s_ret v_bl))))))))))))))))
end Vm

namespace Vm
open PySem PySem.Spec PyProof.Rows L2
/-! the coins of a script -/
theorem purse_in (r : Int) (coins : List Int) (xs : List CV) (o4 : Option CV) (s0 : CV) (n2 : CV) (hc : coins.length ≤ 5000) :
    ∃ σ' h' coins' r' o4', forS (gN 4) (cSeq (cExpr (cML rmApp (cVar 1) (cCons (cOp rcMod (cBi rkInt (cCons (cVar 3) cNil)) (cC (.int 60))) cNil))) (cSeq (cAsg (cOp rcDiv (cVar 3) (cC (.int 60))) 3)
      (cIfS (cTst (cOp (rcEq false) (cVar 3) (cC (.int 0)))) cBreak cNext))) (rngC 0 18) [some s0, some (.ref 0), some n2, some (.int r), o4] [.lst (coins.map CV.int), .lst xs] = .nx σ' h' ∧
      σ' = [some s0, some (.ref 0), some n2, some (.int r'), o4'] ∧ h' = [.lst (List.map CV.int coins'), .lst xs] ∧ coins'.length ≤ coins.length + 18 := by
  obtain ⟨k, σ', h', e, hk, r', o4', cs', rfl, rfl, hl⟩ := forS_invB (t := gN 4) (f := cSeq (cExpr (cML rmApp (cVar 1) (cCons (cOp rcMod (cBi rkInt (cCons (cVar 3) cNil)) (cC (.int 60))) cNil))) (cSeq (cAsg (cOp rcDiv (cVar 3) (cC (.int 60))) 3)
      (cIfS (cTst (cOp (rcEq false) (cVar 3) (cC (.int 0)))) cBreak cNext)))
    (fun i σ h => ∃ (r : Int) (o4 : Option CV) (cs : List Int), σ = [some s0, some (.ref 0), some n2, some (.int r), o4] ∧ h = [.lst (cs.map CV.int), .lst xs] ∧ cs.length ≤ coins.length + i) (rngC 0 18) 0 _ _ ⟨r, o4, coins, rfl, rfl, Nat.le_refl _⟩ (by
      rintro j c σ h hj ⟨r, o4, cs, rfl, rfl, hl⟩
      obtain ⟨hj, rfl⟩ := rng_at hj
      have l1 : (cs.map CV.int).length < line := by
        rw [List.length_map]
        show cs.length < 16777216
        omega
      have s1 : cExpr (cML rmApp (cVar 1) (cCons (cOp rcMod (cBi rkInt (cCons (cVar 3) cNil)) (cC (.int 60))) cNil)) [some s0, some (.ref 0), some n2, some (.int r), some (.int (0 + j))] [.lst (cs.map CV.int), .lst xs] =
          .nx [some s0, some (.ref 0), some n2, some (.int r), some (.int (0 + j))] [.lst ((cs ++ [r % 60]).map CV.int), .lst xs] := by
        refine (expr_ok (app_ok (n := 0) (xs := cs.map CV.int) rfl rfl (mod_i (by omega) (int_i rfl) rfl) rfl l1)).trans ?_
        rw [List.map_append]
        rfl
      have s2 : ∀ h : CH, cAsg (cOp rcDiv (cVar 3) (cC (.int 60))) 3 [some s0, some (.ref 0), some n2, some (.int r), some (.int (0 + j))] h = .nx [some s0, some (.ref 0), some n2, some (.int (r / 60)), some (.int (0 + j))] h :=
        fun h => asg_ok (div_i (by unfold divOk; decide) rfl rfl)
      refine ⟨_, [some s0, some (.ref 0), some n2, some (.int (r / 60)), some (.int (0 + j))], [.lst ((cs ++ [r % 60]).map CV.int), .lst xs], rfl, ?_, r / 60, _, cs ++ [r % 60], rfl, rfl, by rw [List.length_append, List.length_singleton]; omega⟩
      have s3 : ∀ h : CH, cIfS (cTst (cOp (rcEq false) (cVar 3) (cC (.int 0)))) cBreak cNext [some s0, some (.ref 0), some n2, some (.int (r / 60)), some (.int (0 + j))] h =
          if decide (r / 60 = 0) = true then .bk [some s0, some (.ref 0), some n2, some (.int (r / 60)), some (.int (0 + j))] h else .nx [some s0, some (.ref 0), some n2, some (.int (r / 60)), some (.int (0 + j))] h :=
        fun h => (if_b (eq_i rfl rfl)).trans rfl
      have all := (seq_nx (u := cSeq (cAsg (cOp rcDiv (cVar 3) (cC (.int 60))) 3) (cIfS (cTst (cOp (rcEq false) (cVar 3) (cC (.int 0)))) cBreak cNext)) s1).trans ((seq_nx (s2 _)).trans (s3 _))
      by_cases z : r / 60 = 0
      · exact .inr (.inr (all.trans (if_pos (decide_eq_true z))))
      · exact .inl (all.trans (if_neg (by rw [decide_eq_false z]; exact Bool.false_ne_true))))
  exact ⟨_, _, cs', r', o4', e, rfl, rfl, by rw [rngC_len] at hk; omega⟩
/-- a purse: its coins at 0, its place at 2 -/
structure Purse (h : CH) : Prop where
  ex : ∃ (coins : List Int) (at_ : Nat), h[0]? = some (.lst (coins.map CV.int)) ∧ h[2]? = some (.dK [(.inr "coins", .ref 0), (.inr "next", .int at_)])
theorem purse_ok (ns : List Int) (hn : ns.length ≤ 63) : ∃ h, ev_law_purse [.fl (ns.map CV.int)] [] = .ok (.ref 2) h ∧ h.length = 3 ∧ Purse h := by
  obtain ⟨xs, exs, ixs, lxs⟩ : ∃ xs : List CV, slC (.fl (ns.map CV.int)) none (some 40) [.lst []] = some (.ref 1, [.lst [], .lst xs]) ∧ (∀ c ∈ xs, ∃ i, c = CV.int i) ∧ xs.length ≤ 63 := by
    refine ⟨cutC (ns.map CV.int) none (some 40), rfl, fun c hc => ?_, ?_⟩
    · unfold cutC at hc
      have := List.mem_of_mem_drop (List.mem_of_mem_take hc)
      obtain ⟨i, _, e⟩ := List.mem_map.mp this
      exact ⟨i, e.symm⟩
    · unfold cutC
      rw [List.length_take, List.length_drop, List.length_map]
      omega
  have run : ∃ σ' h', forG (.ls 1) (gN 2) (cSeq (cAsg (cOp rcMul (cC (.int 2)) (cBi rkInt (cCons (cVar 2) cNil))) 3) (cSeq (cIfS (cTst (cOp rcLt (cVar 3) (cC (.int 0)))) (cAsg (cOp rcSub (cC (.int 1)) (cVar 3)) 3) cNext)
      (cSeq (cAsg (cOp rcMod (cBi rkInt (cCons (cVar 3) cNil)) (cOp rcPow (cC (.int 60)) (cC (.int 18)))) 3) (cFor (cRng1 (cCons (cC (.int 18)) cNil)) (gN 4) (cSeq (cExpr (cML rmApp (cVar 1) (cCons (cOp rcMod (cBi rkInt (cCons (cVar 3) cNil)) (cC (.int 60))) cNil))) (cSeq (cAsg (cOp rcDiv (cVar 3) (cC (.int 60))) 3)
      (cIfS (cTst (cOp (rcEq false) (cVar 3) (cC (.int 0)))) cBreak cNext))))))) (xs.length + 1000001) 0 [some (.fl (ns.map CV.int)), some (.ref 0), none, none, none] [.lst [], .lst xs] = .nx σ' h' ∧
      ∃ (o2 o3 o4 : Option CV) (cs : List Int), σ' = [some (.fl (ns.map CV.int)), some (.ref 0), o2, o3, o4] ∧ h' = [.lst (cs.map CV.int), .lst xs] ∧ cs.length ≤ 18 * xs.length := by
    refine forG_inv (n := 1) (xs := xs) (fun i σ h => ∃ (o2 o3 o4 : Option CV) (cs : List Int), σ = [some (.fl (ns.map CV.int)), some (.ref 0), o2, o3, o4] ∧ h = [.lst (cs.map CV.int), .lst xs] ∧ cs.length ≤ 18 * i ∧ i ≤ xs.length) ?_ ?_ xs.length 0 (xs.length + 1000001) _ _ rfl (Nat.zero_le _) (by omega) ⟨none, none, none, [], rfl, rfl, Nat.le_refl _, Nat.zero_le _⟩ |>.imp fun σ' => Exists.imp fun h' => And.imp_right ?_
    · rintro i σ h ⟨_, _, _, _, rfl, rfl, _⟩
      rfl
    · rintro i c σ h hi ⟨o2, o3, o4, cs, rfl, rfl, hl, hi2⟩
      obtain ⟨z, rfl⟩ := ixs c (List.mem_of_getElem? hi)
      have hlt := (List.getElem?_eq_some_iff.mp hi).1
      obtain ⟨r1, e1⟩ : ∃ r1 : Int, cIfS (cTst (cOp rcLt (cVar 3) (cC (.int 0)))) (cAsg (cOp rcSub (cC (.int 1)) (cVar 3)) 3) cNext [some (.fl (ns.map CV.int)), some (.ref 0), some (.int z), some (.int (2 * z)), o4] [.lst (cs.map CV.int), .lst xs] =
          .nx [some (.fl (ns.map CV.int)), some (.ref 0), some (.int z), some (.int r1), o4] [.lst (cs.map CV.int), .lst xs] := by
        by_cases q : 2 * z < 0
        · refine ⟨1 - 2 * z, (if_b (lt_i rfl rfl)).trans ((if_pos (decide_eq_true q)).trans ?_)⟩
          exact asg_ok (sub_i rfl rfl)
        · exact ⟨2 * z, (if_b (lt_i rfl rfl)).trans ((if_neg (by rw [decide_eq_false q]; exact Bool.false_ne_true)).trans rfl)⟩
      obtain ⟨σ', h', cs', r', o4', e2, rfl, rfl, hl2⟩ := purse_in (r1 % 60 ^ 18) cs xs o4 (.fl (ns.map CV.int)) (.int z) (by omega)
      refine ⟨_, _, _, rfl, .inl ?_, some (.int z), some (.int r'), o4', cs', rfl, rfl, by omega, hlt⟩
      refine (seq_nx (asg_ok (mul_i (mulOk_l (by decide) (by decide)) rfl (int_i rfl)))).trans ?_
      refine (seq_nx e1).trans ?_
      refine (seq_nx (asg_ok (mod_i (by decide) (int_i rfl) (pow_i (by decide) rfl rfl)))).trans ?_
      exact (for_r1 (j := 18) rfl (by decide)).trans e2
    · rintro ⟨o2, o3, o4, cs, h1, h2, h3, _⟩
      exact ⟨o2, o3, o4, cs, h1, h2, h3⟩
  obtain ⟨σ', h', e, o2, o3, o4, cs, rfl, rfl, hl⟩ := run
  refine ⟨[.lst (cs.map CV.int), .lst xs, .dK [(.inr "coins", .ref 0), (.inr "next", .int 0)]], ?_, rfl, ⟨cs, 0, rfl, rfl⟩⟩
  refine pure_nil (def_rt rfl ?_) rfl
  unfold b_law_purse
  refine (seq_nx (asg_ok (lst_ok (cs := []) rfl (Nat.zero_le _)))).trans ?_
  refine (seq_nx (σ1 := [some (.fl (ns.map CV.int)), some (.ref 0), o2, o3, o4]) (h1 := [.lst (cs.map CV.int), .lst xs]) ?_).trans ?_
  · refine (for_lst (n := 1) (xs := xs) (h1 := [.lst [], .lst xs]) ?_ rfl).trans e
    unfold cSl
    show (Rs.of (slC (.fl (ns.map CV.int)) none (some 40) [.lst []]) : Rs CV) = _
    rw [exs]
    rfl
  · rfl
theorem pick_ok {h : CH} (P : Purse h) (many : Nat) (hm : 0 < many) : ∃ (v : Nat) (h' : CH), ev_law_pick [.ref 2, .int many] h = .ok (.int v) h' ∧ v < many ∧ Purse h' ∧ h'.length = h.length ∧ ∀ i, i ≠ 2 → h'[i]? = h[i]? := by
  obtain ⟨coins, a, e0, e2⟩ := P.ex
  have l2 : 2 < h.length := (List.getElem?_eq_some_iff.mp e2).1
  have k0 : (h.set 2 (.dK [(.inr "coins", .ref 0), (.inr "next", .int (a + 1 : Nat))]))[0]? = some (.lst (coins.map CV.int)) := by
    rw [List.getElem?_set_ne (by decide)]
    exact e0
  have k2 : (h.set 2 (.dK [(.inr "coins", .ref 0), (.inr "next", .int (a + 1 : Nat))]))[2]? = some (.dK [(.inr "coins", .ref 0), (.inr "next", .int (a + 1 : Nat))]) := List.getElem?_set_self l2
  have fin : ∀ v : Nat, cDef 2 3 b_law_pick [.ref 2, .int many] h = .ok (.int v) (h.set 2 (.dK [(.inr "coins", .ref 0), (.inr "next", .int (a + 1 : Nat))])) → v < many →
      ∃ (v : Nat) (h' : CH), ev_law_pick [.ref 2, .int many] h = .ok (.int v) h' ∧ v < many ∧ Purse h' ∧ h'.length = h.length ∧ ∀ i, i ≠ 2 → h'[i]? = h[i]? := fun v e hv =>
    ⟨v, _, (pure_no rfl).trans e, hv, ⟨coins, a + 1, k0, k2⟩, List.length_set .., fun i hi => List.getElem?_set_ne (Ne.symm hi)⟩
  have vc : ∀ x : CV, valC [((.inr "coins" : Key), CV.ref 0), (.inr "next", x)] (.inr "coins") = some (.ref 0) := fun x => rfl
  have vn : ∀ x : CV, valC [((.inr "coins" : Key), CV.ref 0), (.inr "next", x)] (.inr "next") = some x := fun x => rfl
  have pn : putC [((.inr "coins" : Key), CV.ref 0), (.inr "next", CV.int a)] (.inr "next") (.int (a + 1 : Nat)) = [(.inr "coins", .ref 0), (.inr "next", .int (a + 1 : Nat))] := rfl
  have s1 : cAsg (cBi rkInt (cCons (cIx (cVar 0) (cC (.str "next"))) cNil)) 2 [some (.ref 2), some (.int many), none] h = .nx [some (.ref 2), some (.int many), some (.int a)] h :=
    asg_ok (int_i (op_ok (r := (_, _)) rfl rfl (ix_dict e2 (vn _))))
  have s2 : cSetIx (cVar 0) (cC (.str "next")) (cOp rcAdd (cVar 2) (cC (.int 1))) [some (.ref 2), some (.int many), some (.int a)] h = .nx [some (.ref 2), some (.int many), some (.int a)] (h.set 2 (.dK [(.inr "coins", .ref 0), (.inr "next", .int (a + 1 : Nat))])) := by
    refine (setix_dict (v := .int (a + 1 : Nat)) (add_i (i := (a : Int)) (j := 1) rfl rfl) rfl rfl e2 (show 2 < 16777216 by decide)).trans ?_
    rw [pn]
  generalize hh' : h.set 2 (.dK [(.inr "coins", .ref 0), (.inr "next", .int (a + 1 : Nat))]) = h' at *
  have c0 : (cIx (cVar 0) (cC (.str "coins"))) [some (.ref 2), some (.int many), some (.int a)] h' = .ok (.ref 0) h' := op_ok (r := (_, _)) rfl rfl (ix_dict k2 (vc _))
  have tst := ge_i (fa := cVar 2) (σ := [some (.ref 2), some (.int many), some (.int a)]) (h := h') rfl (bi_ok (rk := rkLenA) (r := (_, _)) (one_ok c0) (len_lst k0))
  by_cases hc : a < (coins.map CV.int).length
  · have ht : decide (((coins.map CV.int).length : Int) ≤ (a : Int)) = false := decide_eq_false (by omega)
    rw [ht] at tst
    have hc' : a < coins.length := by rw [List.length_map] at hc; exact hc
    have ea : (coins.map CV.int)[a]? = some (.int coins[a]) := by
      rw [List.getElem?_map, List.getElem?_eq_getElem hc']
      rfl
    have hv : 0 ≤ coins[a] % (many : Int) := Int.emod_nonneg _ (by omega)
    have hv2 : coins[a] % (many : Int) < many := Int.emod_lt_of_pos _ (by omega)
    refine fin (coins[a] % (many : Int)).toNat ?_ (by omega)
    refine def_rt rfl ?_
    unfold b_law_pick
    refine (seq_nx s1).trans ((seq_nx s2).trans ((seq_nx (if_f tst)).trans ?_))
    rw [Int.toNat_of_nonneg hv]
    exact ret_ok (mod_i (by omega) (int_i (op_ok (r := (_, _)) c0 rfl (ix_lst k0 (atI_n ea)))) rfl)
  · have ht : decide (((coins.map CV.int).length : Int) ≤ (a : Int)) = true := decide_eq_true (by omega)
    rw [ht] at tst
    refine fin 0 ?_ hm
    refine def_rt rfl ?_
    unfold b_law_pick
    exact (seq_nx s1).trans ((seq_nx s2).trans (seq_rt ((if_t tst).trans rfl)))
end Vm

/-! Mob24: sums over the parts of a number, plainly. -/
namespace Vm
def sgn24 : List Int := [0, 1, -1, -1, 0, -1, 1, -1, 0, 0, 1, -1, 0, -1, 1, 1, 0, -1, 0, -1, 0, 1, 1, -1, 0, 0, 1, 0, 0, -1, -1, -1, 0, 1, 1, 1, 0, -1, 1, 1, 0, -1, -1, -1, 0, 0, 1, -1, 0, 0, 0, 1, 0, -1, 0, 1, 0, 1, 1, -1, 0, -1, 1, 0, 0, 1, -1, -1, 0, 1, -1, -1, 0, -1, 1, 0, 0, 1, -1, -1, 0, 0, 1, -1, 0, 1, 1, 1, 0, -1, 0, 1, 0, 1, 1, 1, 0, -1, 0, 0, 0, -1, -1, -1, 0, -1, 1, -1, 0, -1, -1, 1, 0, -1, -1, 1, 0, 0, 1, 1, 0, 0, 1, 1, 0, 0, 0, -1, 0, 1, -1, -1, 0, 1, 1, 0, 0, -1, -1, -1, 0, 1, 1, 1, 0, 1, 1, 0, 0, -1, 0, -1, 0, 0, -1, 1, 0, -1, 1, 1, 0, 1, 0, -1, 0, -1, 1, -1, 0, 0, -1, 0, 0, -1, -1, 0, 0, 1, 1, -1, 0, -1, -1, 1, 0, 1, -1, 1, 0, 0, -1, -1, 0, -1, 1, -1, 0, -1, 0, -1, 0, 1, 1, 1, 0, 1, 1, 0, 0, 1, 1, -1, 0, 1, 1, 1, 0, 1, 1, 1, 0, 1, -1, -1, 0, 0, 1, -1, 0, -1, -1, -1, 0, -1, 0, 1, 0, 1, -1, -1, 0, -1, 0, 0, 0, 0, -1, 1, 0, 1, 0, -1, 0, 1, 1, -1, 0, -1, -1, 1, 0, 0, 1, -1, 0, 1, -1, 1, 0, -1, 0, -1, 0, -1, 1, 0, 0, -1, 1, 0, 0, -1, -1, -1, 0, -1, -1, 1, 0, 0, -1, 1, 0, -1, 0, 1, 0, 0, 1, 1, 0]
def sg (n : Nat) : Int := sgn24.getD n 0
def sumUp (f : Nat → Int) : Nat → Int
  | 0 => 0
  | n + 1 => sumUp f n + f (n + 1)
theorem sumUp_congr {f g : Nat → Int} : ∀ n : Nat, (∀ d, 0 < d → d ≤ n → f d = g d) → sumUp f n = sumUp g n
  | 0, _ => rfl
  | n + 1, h => by
    unfold sumUp
    rw [sumUp_congr n fun d h1 h2 => h d h1 (by omega), h (n + 1) (by omega) (Nat.le_refl _)]
theorem sumUp_zero : ∀ n : Nat, sumUp (fun _ => 0) n = 0
  | 0 => rfl
  | n + 1 => by unfold sumUp; rw [sumUp_zero n]; rfl
theorem sumUp_add (f g : Nat → Int) : ∀ n : Nat, sumUp (fun d => f d + g d) n = sumUp f n + sumUp g n
  | 0 => rfl
  | n + 1 => by unfold sumUp; rw [sumUp_add f g n]; omega
theorem sumUp_mul (f : Nat → Int) (c : Int) : ∀ n : Nat, sumUp (fun d => f d * c) n = sumUp f n * c
  | 0 => by simp [sumUp]
  | n + 1 => by unfold sumUp; rw [sumUp_mul f c n, Int.add_mul]
/-- longer, if the rest is nothing -/
theorem sumUp_more {f : Nat → Int} {m : Nat} : ∀ k : Nat, (∀ d, m < d → d ≤ m + k → f d = 0) → sumUp f (m + k) = sumUp f m
  | 0, _ => rfl
  | k + 1, h => by
    show sumUp f (m + k) + f (m + k + 1) = _
    rw [sumUp_more k fun d h1 h2 => h d h1 (by omega), h (m + k + 1) (by omega) (by omega), Int.add_zero]
theorem sumUp_swap (f : Nat → Nat → Int) (m : Nat) : ∀ n : Nat, sumUp (fun d => sumUp (fun e => f d e) m) n = sumUp (fun e => sumUp (fun d => f d e) n) m
  | 0 => (sumUp_zero m).symm
  | n + 1 => by
    show sumUp (fun d => sumUp (fun e => f d e) m) n + sumUp (fun e => f (n + 1) e) m = _
    rw [sumUp_swap f m n, ← sumUp_add]
    rfl
theorem sumUp_one {c : Int} {a : Nat} {f : Nat → Int} (h0 : ∀ d, d ≠ a → f d = 0) : ∀ n : Nat, 0 < a → a ≤ n → sumUp f n = f a
  | 0, h1, h2 => by omega
  | n + 1, h1, h2 => by
    unfold sumUp
    by_cases h : a = n + 1
    · subst h
      rw [sumUp_congr n (g := fun _ => 0) fun d _ hd => h0 d (by omega), sumUp_zero, Int.zero_add]
    · rw [sumUp_one (c := c) h0 n h1 (by omega), h0 (n + 1) (Ne.symm h), Int.add_zero]
/-- the words of length m over k signs that are no repetition -/
def pr (k : Int) (m : Nat) : Int := sumUp (fun d => if m % d = 0 then sg (m / d) * k ^ d else 0) m
def co (p e : Nat) : Int := sumUp (fun d => if p % d = 0 then (if d % e = 0 then sg (d / e) else 0) else 0) p
def coOk (p e : Nat) : Bool := decide (p % e ≠ 0) || decide (co p e = if e = p then 1 else 0)
def allUp (f : Nat → Bool) : Nat → Bool
  | 0 => true
  | n + 1 => allUp f n && f (n + 1)
theorem allUp_at {f : Nat → Bool} : ∀ {n : Nat}, allUp f n = true → ∀ d, 0 < d → d ≤ n → f d = true
  | 0, _, d, h1, h2 => by omega
  | n + 1, h, d, h1, h2 => by
    unfold allUp at h
    rw [Bool.and_eq_true] at h
    by_cases e : d = n + 1
    · rw [e]; exact h.2
    · exact allUp_at h.1 d h1 (by omega)
theorem co_all : allUp (fun p => allUp (fun e => coOk p e) p) 300 = true := by decide +kernel
theorem co_eq {p e : Nat} (hp : p ≤ 300) (h1 : 0 < e) (h2 : e ≤ p) : co p e = if e = p then 1 else 0 := by
  have q := allUp_at (allUp_at co_all p (by omega) hp) e h1 h2
  unfold coOk at q
  rw [Bool.or_eq_true] at q
  rcases q with q | q
  · have hn : p % e ≠ 0 := of_decide_eq_true q
    have hne : e ≠ p := fun z => hn (by rw [z]; exact Nat.mod_self p)
    rw [if_neg hne]
    unfold co
    rw [sumUp_congr p (g := fun _ => 0) fun d _ _ => ?_, sumUp_zero]
    by_cases h3 : p % d = 0
    · rw [if_pos h3]
      by_cases h4 : d % e = 0
      · exact absurd (Nat.mod_eq_zero_of_dvd (Nat.dvd_trans (Nat.dvd_of_mod_eq_zero h4) (Nat.dvd_of_mod_eq_zero h3))) hn
      · exact if_neg h4
    · exact if_neg h3
  · exact of_decide_eq_true q
/-- THE IDENTITY -/
theorem pr_sum (k : Int) {p : Nat} (h0 : 0 < p) (hp : p ≤ 300) : sumUp (fun d => if p % d = 0 then pr k d else 0) p = k ^ p := by
  have s1 : ∀ d, 0 < d → d ≤ p → (if p % d = 0 then pr k d else 0) = sumUp (fun e => (if p % d = 0 then (if d % e = 0 then sg (d / e) else 0) else 0) * k ^ e) p := fun d h1 h2 => by
    by_cases h : p % d = 0
    · rw [if_pos h]
      have e1 : sumUp (fun e => (if p % d = 0 then (if d % e = 0 then sg (d / e) else 0) else 0) * k ^ e) p = sumUp (fun e => if d % e = 0 then sg (d / e) * k ^ e else 0) p :=
        sumUp_congr p fun e _ _ => by
          rw [if_pos h]
          by_cases h4 : d % e = 0
          · rw [if_pos h4, if_pos h4]
          · rw [if_neg h4, if_neg h4, Int.zero_mul]
      rw [e1]
      obtain ⟨t, rfl⟩ := Nat.le.dest h2
      refine (sumUp_more t fun e he _ => ?_).symm
      exact if_neg (by rw [Nat.mod_eq_of_lt he]; omega)
    · rw [if_neg h]
      refine ((sumUp_congr p fun e _ _ => ?_).trans (sumUp_zero p)).symm
      rw [if_neg h, Int.zero_mul]
  rw [sumUp_congr p s1, sumUp_swap]
  have s2 : ∀ e, 0 < e → e ≤ p → sumUp (fun d => (if p % d = 0 then (if d % e = 0 then sg (d / e) else 0) else 0) * k ^ e) p = (if e = p then 1 else 0) * k ^ e := fun e h1 h2 => by
    rw [sumUp_mul]
    exact congrArg (· * k ^ e) (co_eq hp h1 h2)
  rw [sumUp_congr p s2]
  rw [sumUp_one (c := 0) (a := p) (fun d hd => by rw [if_neg hd, Int.zero_mul]) p h0 (Nat.le_refl _), if_pos rfl, Int.one_mul]
end Vm

/-! P24: what the counting defs give. -/
namespace Vm
open PySem PySem.Spec PyProof.Rows L2
theorem words_of_ok (k : Int) (k1 : -(2 ^ 64) < k) (k2 : k < 2 ^ 64) (L : Nat) (hL : (L : Int) < 1000000) (h : CH) : ev_words_of [.int k, .int L] h = .ok (.int (k ^ L)) h := by
  refine pure_ok (h0 := []) rfl ?_ rfl
  obtain ⟨σ', h', e, ⟨o, rfl⟩, rfl⟩ := forS_inv (t := gN 3) (f := cAsg (cOp rcMul (cVar 2) (cVar 0)) 2) (fun i σ h => (∃ o, σ = [some (.int k), some (.int L), some (.int (k ^ i)), o]) ∧ h = []) (rngC 0 L) 0
    [some (.int k), some (.int L), some (.int 1), none] [] ⟨⟨none, by simp⟩, rfl⟩ (by
      rintro j c σ h hj ⟨⟨o, rfl⟩, rfl⟩
      obtain ⟨hj, rfl⟩ := rng_at hj
      refine ⟨_, _, _, rfl, .inl (asg_ok (mul_i (mulOk_r k1 k2) rfl rfl)), ⟨some (.int (0 + j)), ?_⟩, rfl⟩
      rw [Int.pow_succ]
      rfl)
  rw [rngC_len] at e
  refine def_rt rfl ?_
  unfold b_words_of
  refine (seq_nx (σ1 := [some (.int k), some (.int L), some (.int 1), none]) (h1 := []) rfl).trans ?_
  refine (seq_nx (σ1 := [some (.int k), some (.int L), some (.int (k ^ (0 + L))), o]) (h1 := []) ((for_r1 (j := L) rfl (rngB_i (by omega) hL)).trans e)).trans ?_
  rw [Nat.zero_add]
  rfl
def isI (a : Int) : CV → Bool
  | .int x => decide (x = a)
  | _ => false
theorem okIs_int {r : Rs CV} {a : Int} (h : okIs r (isI a) = true) : ∃ h0, r = .ok (.int a) h0 := by
  unfold okIs at h
  split at h
  · rename_i c h0
    unfold isI at h
    split at h
    · rename_i x
      exact ⟨h0, by rw [of_decide_eq_true h]⟩
    · cases h
  · cases h
theorem sign_all : allUp (fun q => okIs (cDef 1 4 b_law_sign [.int q] []) (isI (sg q))) 300 = true := by decide +kernel
theorem sign_ok {q : Nat} (h1 : 0 < q) (h2 : q ≤ 300) (h : CH) : ev_law_sign [.int q] h = .ok (.int (sg q)) h := by
  obtain ⟨h0, e⟩ := okIs_int (allUp_at sign_all q h1 h2)
  exact pure_ok rfl e rfl
/-! found -/
def dvs (n : Nat) : Nat → List Nat
  | 0 => []
  | i + 1 => dvs n i ++ (if n % (i + 1) = 0 then [i + 1] else [])
theorem dvs_mem {n d : Nat} : ∀ {i : Nat}, d ∈ dvs n i ↔ 0 < d ∧ d ≤ i ∧ n % d = 0
  | 0 => by simp [dvs]; omega
  | i + 1 => by
    unfold dvs
    rw [List.mem_append, dvs_mem]
    by_cases h : n % (i + 1) = 0
    · rw [if_pos h, List.mem_singleton]
      constructor
      · rintro (⟨a, b, c⟩ | rfl)
        · exact ⟨a, by omega, c⟩
        · exact ⟨by omega, Nat.le_refl _, h⟩
      · rintro ⟨a, b, c⟩
        by_cases q : d = i + 1
        · exact .inr q
        · exact .inl ⟨a, by omega, c⟩
    · rw [if_neg h]
      constructor
      · rintro (⟨a, b, c⟩ | q)
        · exact ⟨a, by omega, c⟩
        · cases q
      · rintro ⟨a, b, c⟩
        refine .inl ⟨a, ?_, c⟩
        by_cases q : d = i + 1
        · exact absurd (q ▸ c) h
        · omega
theorem dvs_len {n : Nat} : ∀ i : Nat, (dvs n i).length ≤ i
  | 0 => Nat.le_refl _
  | i + 1 => by
    unfold dvs
    rw [List.length_append]
    have := dvs_len (n := n) i
    split
    · rw [List.length_singleton]; omega
    · rw [List.length_nil]; omega
abbrev fnd (k : Int) (l : List Nat) : List (Key × CV) := l.map fun d : Nat => (.inl (d : Int), .int (pr k d))
theorem fnd_val {k : Int} {d : Nat} : ∀ {l : List Nat}, d ∈ l → valC (fnd k l) (.inl (d : Int)) = some (.int (pr k d))
  | a :: l, h => by
    by_cases e : a = d
    · subst e
      unfold valC
      simp
    · have hm : d ∈ l := by
        rcases List.mem_cons.mp h with q | q
        · exact absurd q.symm e
        · exact q
      have ih := fnd_val (k := k) hm
      unfold valC at ih ⊢
      have hn : ¬ ((Sum.inl (a : Int) : Key) = Sum.inl (d : Int)) := fun z => e (by have := Sum.inl.inj z; omega)
      show Option.map _ (List.find? _ (((.inl (a : Int) : Key), CV.int (pr k a)) :: fnd k l)) = _
      rw [List.find?_cons_of_neg (by simpa using fun z => e (by omega))]
      exact ih
theorem fnd_put {k : Int} {d : Nat} {l : List Nat} (h : d ∉ l) : putC (fnd k l) (.inl (d : Int)) (.int (pr k d)) = fnd k (l ++ [d]) := by
  unfold putC
  have : ((fnd k l).any fun kv => decide (kv.1 = (.inl (d : Int) : Key))) = false := by
    rw [List.any_eq_false]
    intro kv hkv
    obtain ⟨a, ha, rfl⟩ := List.mem_map.mp hkv
    have : a ≠ d := fun z => h (z ▸ ha)
    simpa using fun z => this (by omega)
  rw [this, if_neg Bool.false_ne_true]
  simp only [fnd, List.map_append]
  rfl
/-- the lesser ones -/
def lss (n p : Nat) (k : Int) : Nat → List Int
  | 0 => []
  | i + 1 => lss n p k i ++ (if n % (i + 1) = 0 then (if p % (i + 1) = 0 then [pr k (i + 1)] else []) else [])
theorem isum_app (a b : List Int) : (a ++ b).sum = a.sum + b.sum := by
  induction a with
  | nil => simp
  | cons x a ih => rw [List.cons_append, List.sum_cons, List.sum_cons, ih, Int.add_assoc]
theorem lss_sum {n p : Nat} {k : Int} (hp : n % p = 0) : ∀ i : Nat, (lss n p k i).sum = sumUp (fun d => if p % d = 0 then pr k d else 0) i
  | 0 => rfl
  | i + 1 => by
    unfold lss sumUp
    rw [isum_app, lss_sum hp i]
    congr 1
    by_cases h : p % (i + 1) = 0
    · have hn : n % (i + 1) = 0 := Nat.mod_eq_zero_of_dvd (Nat.dvd_trans (Nat.dvd_of_mod_eq_zero h) (Nat.dvd_of_mod_eq_zero hp))
      rw [if_pos h, if_pos hn, if_pos h]
      simp
    · rw [if_neg h, if_neg h]
      split <;> rfl
def gLs (p : Nat) (k : Int) : CV → Option CV
  | .int d => if p % d.toNat = 0 then some (.int (pr k d.toNat)) else none
  | _ => none
theorem lss_fm {n p : Nat} {k : Int} : ∀ i : Nat, ((dvs n i).map fun d : Nat => CV.int (d : Int)).filterMap (gLs p k) = (lss n p k i).map CV.int
  | 0 => rfl
  | i + 1 => by
    unfold dvs lss
    rw [List.map_append, List.filterMap_append, lss_fm i, List.map_append]
    congr 1
    by_cases h : n % (i + 1) = 0
    · rw [if_pos h, if_pos h]
      by_cases h2 : p % (i + 1) = 0
      · rw [if_pos h2]
        have : gLs p k (.int ((i + 1 : Nat) : Int)) = some (.int (pr k (i + 1))) := if_pos h2
        rw [List.map_singleton, List.filterMap_cons_some this]
        rfl
      · rw [if_neg h2]
        have : gLs p k (.int ((i + 1 : Nat) : Int)) = none := if_neg h2
        rw [List.map_singleton, List.filterMap_cons_none this]
        rfl
    · rw [if_neg h, if_neg h]
      rfl
theorem int_mod (a b : Nat) : ((a : Int) % (b : Int)) = ((a % b : Nat) : Int) := (Int.natCast_emod a b).symm
theorem dec_mod (a b : Nat) : decide (((a : Int) % (b : Int)) = 0) = decide (a % b = 0) := by
  rw [int_mod]
  congr 1
  exact propext (by omega)
theorem lesser_ok {n p i : Nat} {k : Int} {h : CH} {o4 : Option CV} (e : h[0]? = some (.dK (fnd k (dvs n i)))) (hi : i ≤ 1000) :
    (cLk 2 (cLc (cItS (cVar 2)) [5] (gN 5) (cTst (cOp (rcEq false) (cOp rcMod (cBi rkInt (cCons (cVar 3) cNil)) (cVar 5)) (cC (.int 0)))) (cIx (cVar 2) (cVar 5)))) [some (.int n), some (.int k), some (.ref 0), some (.int p), o4, none] h =
      .ok (.ref h.length) (h ++ [.lst ((lss n p k i).map CV.int)]) := by
  refine lk_dict (n := 0) rfl e ?_
  have hl := (List.getElem?_eq_some_iff.mp e).1
  have e0 : (h.set 0 (.fdK (fnd k (dvs n i))))[0]? = some (.fdK (fnd k (dvs n i))) := List.getElem?_set_self hl
  have it : itC (h.set 0 (.fdK (fnd k (dvs n i)))) (.ref 0) = some (.st ((dvs n i).map fun d : Nat => CV.int (d : Int))) := by
    unfold itC
    dsimp only
    rw [e0]
    dsimp only
    rw [List.map_map]
    rfl
  have := lc_st (vs := [5]) (t := gN 5) (c := cTst (cOp (rcEq false) (cOp rcMod (cBi rkInt (cCons (cVar 3) cNil)) (cVar 5)) (cC (.int 0)))) (e := cIx (cVar 2) (cVar 5)) (σ := [some (.int n), some (.int k), some (.ref 0), some (.int p), o4, none])
    (gLs p k) (its_ok (fa := cVar 2) (h := h.set 0 (.fdK (fnd k (dvs n i)))) rfl it) (by
      rw [List.length_map]
      have := dvs_len (n := n) i
      show _ ≤ 16777216
      omega) (fun x hx l => by
      obtain ⟨d, hd, rfl⟩ := List.mem_map.mp hx
      obtain ⟨d0, d1, d2⟩ := dvs_mem.mp hd
      refine ⟨_, rfl, ?_⟩
      have et : cTst (cOp (rcEq false) (cOp rcMod (cBi rkInt (cCons (cVar 3) cNil)) (cVar 5)) (cC (.int 0))) [some (.int n), some (.int k), some (.ref 0), some (.int p), o4, some (.int d)] (h.set 0 (.fdK (fnd k (dvs n i))) ++ [l]) =
          .ok (decide (p % d = 0)) (h.set 0 (.fdK (fnd k (dvs n i))) ++ [l]) := by
        rw [← dec_mod]
        exact eq_i (mod_i (by omega) (int_i rfl) rfl) rfl
      by_cases hp : p % d = 0
      · have : gLs p k (.int (d : Int)) = some (.int (pr k d)) := if_pos hp
        rw [this]
        rw [decide_eq_true hp] at et
        refine ⟨et, op_ok (r := (_, _)) rfl rfl (ix_fdict (kvs := fnd k (dvs n i)) ?_ (fnd_val hd))⟩
        rw [List.getElem?_append_left (by rw [List.length_set]; exact hl)]
        exact e0
      · have : gLs p k (.int (d : Int)) = none := if_neg hp
        rw [this]
        rw [decide_eq_false hp] at et
        exact et)
  rw [lss_fm, List.length_set] at this
  exact this
theorem unrep_ok {n : Nat} {k : Int} (h1 : 0 < n) (h2 : n ≤ 300) (k1 : -(2 ^ 64) < k) (k2 : k < 2 ^ 64) (h : CH) : ev_unrepeated_words [.int n, .int k] h = .ok (.int (pr k n)) h := by
  obtain ⟨σ', h', e, ⟨o3, o4, rfl⟩, ed⟩ := forS_inv (t := gN 3) (f := cIfS (cTst (cOp (rcEq false) (cOp rcMod (cBi rkInt (cCons (cVar 0) cNil)) (cVar 3)) (cC (.int 0)))) (cSeq (cAsg (cBi rkSum (cCons (cLk 2 (cLc (cItS (cVar 2)) [5] (gN 5) (cTst (cOp (rcEq false) (cOp rcMod (cBi rkInt (cCons (cVar 3) cNil)) (cVar 5)) (cC (.int 0)))) (cIx (cVar 2) (cVar 5)))) cNil)) 4)
    (cSetIx (cVar 2) (cVar 3) (cOp rcSub (cCall ev_words_of (cCons (cVar 1) (cCons (cVar 3) cNil))) (cVar 4)))) cNext)
    (fun i σ h => (∃ o3 o4, σ = [some (.int n), some (.int k), some (.ref 0), o3, o4, none]) ∧ h[0]? = some (.dK (fnd k (dvs n i)))) (rngC 1 n) 0 [some (.int n), some (.int k), some (.ref 0), none, none, none] [.dK []] ⟨⟨_, _, rfl⟩, rfl⟩ (by
      rintro j c σ h hj ⟨⟨o3, o4, rfl⟩, ed⟩
      obtain ⟨hj, rfl⟩ := rng_at hj
      rw [Nat.zero_add] at ed ⊢
      have ec : (1 + (j : Int)) = ((j + 1 : Nat) : Int) := by omega
      rw [ec]
      have et : cTst (cOp (rcEq false) (cOp rcMod (cBi rkInt (cCons (cVar 0) cNil)) (cVar 3)) (cC (.int 0))) [some (.int n), some (.int k), some (.ref 0), some (.int (j + 1 : Nat)), o4, none] h = .ok (decide (n % (j + 1) = 0)) h := by
        rw [← dec_mod]
        exact eq_i (mod_i (by omega) (int_i rfl) rfl) rfl
      by_cases hd : n % (j + 1) = 0
      · rw [decide_eq_true hd] at et
        have hl := (List.getElem?_eq_some_iff.mp ed).1
        have el := lesser_ok (p := j + 1) (o4 := o4) ed (by omega)
        have e0 : (h ++ [CO.lst ((lss n (j + 1) k j).map CV.int)])[h.length]? = some (.lst ((lss n (j + 1) k j).map CV.int)) := by
          rw [List.getElem?_append_right (Nat.le_refl _), Nat.sub_self]
          rfl
        have es := bi_ok (rk := rkSum) (r := (_, _)) (one_ok el) (sum_lst e0)
        have ed2 : (h ++ [CO.lst ((lss n (j + 1) k j).map CV.int)])[0]? = some (.dK (fnd k (dvs n j))) := by
          rw [List.getElem?_append_left hl]
          exact ed
        have val : k ^ (j + 1) - (lss n (j + 1) k j).sum = pr k (j + 1) := by
          rw [lss_sum hd]
          have := pr_sum k (p := j + 1) (by omega) (by omega)
          unfold sumUp at this
          rw [if_pos (Nat.mod_self _)] at this
          omega
        refine ⟨_, _, _, rfl, .inl ((if_t et).trans ((seq_nx (asg_ok es)).trans (setix_idict (x := (j + 1 : Nat)) (v := .int (pr k (j + 1))) ?_ rfl rfl ed2 ?_))), ⟨_, _, rfl⟩, ?_⟩
        · rw [← val]
          exact sub_i ((call_ok (two_ok rfl rfl)).trans (words_of_ok k k1 k2 (j + 1) (by omega) _)) rfl
        · have := dvs_len (n := n) j
          rw [List.length_map]
          show _ < 16777216
          omega
        · rw [List.getElem?_set_self (by rw [List.length_append]; omega), fnd_put (fun z => by have := dvs_mem.mp z; omega)]
          show _ = some (CO.dK (fnd k (dvs n j ++ (if n % (j + 1) = 0 then [j + 1] else []))))
          rw [if_pos hd]
      · rw [decide_eq_false hd] at et
        refine ⟨_, _, h, rfl, .inl ((if_f et).trans rfl), ⟨_, _, rfl⟩, ?_⟩
        show _ = some (CO.dK (fnd k (dvs n j ++ (if n % (j + 1) = 0 then [j + 1] else []))))
        rw [if_neg hd, List.append_nil]
        exact ed)
  rw [rngC_len, Nat.zero_add] at ed
  refine pure_ok (h0 := h') rfl (def_rt rfl ?_) rfl
  unfold b_unrepeated_words
  refine (seq_nx (σ1 := [some (.int n), some (.int k), some (.ref 0), none, none, none]) (h1 := [.dK []]) rfl).trans ?_
  refine (seq_nx (σ1 := [some (.int n), some (.int k), some (.ref 0), o3, o4, none]) (h1 := h') ?_).trans ?_
  · refine (for_r2 (i := 1) (j := n + 1) rfl (add_i rfl rfl) (by decide) (rngB_i (by omega) (by omega))).trans ?_
    rw [show ((n : Int) + 1 - 1).toNat = n by omega]
    exact e
  · exact ret_ok (op_ok (r := (_, _)) rfl rfl (ix_idict ed (fnd_val (dvs_mem.mpr ⟨h1, Nat.le_refl _, Nat.mod_self n⟩))))
end Vm

/-! Q24: the ways' number, the formula. -/
namespace Vm
open PySem PySem.Spec PyProof.Rows L2
theorem mulOk_big {i j : Int} {b : Nat} (hb : b + b < 1000000) (hi : i.natAbs < 2 ^ b) (hj : j.natAbs < 2 ^ b) : mulOk i j = true := by
  have lg : ∀ x : Nat, x < 2 ^ b → x.log2 ≤ b := fun x hx => by
    by_cases h0 : x = 0
    · rw [h0]
      have : Nat.log2 0 = 0 := by decide +kernel
      rw [this]
      exact Nat.zero_le _
    · exact Nat.le_of_lt ((Nat.log2_lt h0).mpr hx)
  have h1 := lg _ hi
  have h2 := lg _ hj
  unfold mulOk
  rw [Bool.or_eq_true]
  exact .inr (decide_eq_true (by omega))
theorem sg_abs (q : Nat) : (sg q).natAbs ≤ 1 := by
  have all : ∀ x ∈ sgn24, x.natAbs ≤ 1 := by decide +kernel
  unfold sg
  rw [List.getD_eq_getElem?_getD]
  cases e : sgn24[q]? with
  | none => simp
  | some x => exact all x (List.mem_of_getElem? e)
theorem sumUp_abs {f : Nat → Int} {M : Nat} : ∀ n : Nat, (∀ d, 0 < d → d ≤ n → (f d).natAbs ≤ M) → (sumUp f n).natAbs ≤ n * M
  | 0, _ => by simp [sumUp]
  | n + 1, h => by
    unfold sumUp
    have h1 := sumUp_abs n fun d a b => h d a (by omega)
    have h2 := h (n + 1) (by omega) (Nat.le_refl _)
    have h3 := Int.natAbs_add_le (sumUp f n) (f (n + 1))
    rw [Nat.add_mul, Nat.one_mul]
    omega
theorem pow_abs {k : Int} (hk : k.natAbs ≤ 2 ^ 41) (e : Nat) : (k ^ e).natAbs ≤ 2 ^ (41 * e) := by
  rw [Int.natAbs_pow, Nat.pow_mul]
  exact Nat.pow_le_pow_left hk e
theorem pr_abs {k : Int} (hk : k.natAbs ≤ 2 ^ 41) {m : Nat} (hm : m ≤ 300) : (pr k m).natAbs < 2 ^ 13000 := by
  have h1 : (pr k m).natAbs ≤ m * 2 ^ (41 * 300) := by
    refine sumUp_abs m fun d h1 h2 => ?_
    split
    · rw [Int.natAbs_mul]
      have a := sg_abs (m / d)
      have b := pow_abs hk d
      have c : 2 ^ (41 * d) ≤ 2 ^ (41 * 300) := Nat.pow_le_pow_right (by decide) (by omega)
      calc (sg (m / d)).natAbs * (k ^ d).natAbs ≤ 1 * (k ^ d).natAbs := Nat.mul_le_mul_right _ a
        _ ≤ 2 ^ (41 * 300) := by rw [Nat.one_mul]; exact Nat.le_trans b c
    · exact Nat.zero_le _
  have h2 : m * 2 ^ (41 * 300) ≤ 2 ^ 9 * 2 ^ (41 * 300) := Nat.mul_le_mul_right _ (by omega)
  have h3 : 2 ^ 9 * 2 ^ (41 * 300) < 2 ^ 13000 := by
    rw [← Nat.pow_add]
    exact Nat.pow_lt_pow_right (by decide) (by decide)
  exact Nat.lt_of_le_of_lt h1 (Nat.lt_of_le_of_lt h2 h3)
theorem pk_abs {k : Int} (hk : k.natAbs ≤ 2 ^ 41) {e : Nat} (he : e ≤ 300) : (k ^ e * (k - 1)).natAbs < 2 ^ 13000 := by
  rw [Int.natAbs_mul]
  have a := pow_abs hk e
  have b : (k - 1).natAbs ≤ 2 ^ 42 := by
    have : (2 : Nat) ^ 42 = 2 ^ 41 + 2 ^ 41 := by decide
    omega
  have c : 2 ^ (41 * e) ≤ 2 ^ (41 * 300) := Nat.pow_le_pow_right (by decide) (by omega)
  have d := Nat.mul_le_mul (Nat.le_trans a c) b
  refine Nat.lt_of_le_of_lt d ?_
  rw [← Nat.pow_add]
  exact Nat.pow_lt_pow_right (by decide) (by decide)
/-- a number of signs -/
structure Kk (k : Int) : Prop where
  lo : 1 ≤ k
  hi : k.natAbs ≤ 2 ^ 41
theorem Kk.a {k : Int} (h : Kk k) : -(2 ^ 64) < k := by have := h.lo; omega
theorem Kk.b {k : Int} (h : Kk k) : k < 2 ^ 64 := by
  have := h.hi
  have : (2 : Nat) ^ 41 = 2199023255552 := by decide
  omega
theorem Kk.c {k : Int} (h : Kk k) : -(2 ^ 64) < k - 1 := by have := h.lo; omega
theorem Kk.d {k : Int} (h : Kk k) : k - 1 < 2 ^ 64 := by have := h.b; omega
def wy (k : Int) (n : Nat) : Nat → Int
  | 0 => pr k n
  | r + 1 => wy k n r + k ^ (n - (r + 1) - 1) * (k - 1) * pr k (r + 1)
theorem is_int_ok (x : Int) (h : CH) : ev_is_int [.int x] h = .ok (.bl true) h := pure_ok (h0 := []) rfl rfl rfl
theorem least_ok {x l : Int} (hx : l ≤ x) (h : CH) : ev_check_least [.int x, .int l] h = .ok (.int x) h := by
  refine pure_ok (h0 := []) rfl (def_rt rfl ?_) rfl
  unfold b_check_least
  refine (seq_nx (σ1 := [some (.int x), some (.int l)]) (h1 := []) ((if_f ((or_f (not_ok (x := true) (tst_ok ((call_ok (one_ok rfl)).trans (is_int_ok x _))))).trans ?_)).trans rfl)).trans rfl
  have : decide (x < l) = false := decide_eq_false (by omega)
  rw [← this]
  exact lt_i rfl rfl
theorem words_ok {n : Nat} {k : Int} (h1 : 0 < n) (h2 : n ≤ 300) (K : Kk k) (h : CH) : ev_words_number [.int n, .int k] h = .ok (.int (pr k n)) h := by
  refine pure_ok (h0 := []) rfl (def_rt rfl ?_) rfl
  unfold b_words_number
  refine (seq_nx (expr_ok ((call_ok (two_ok rfl rfl)).trans (least_ok (x := n) (by omega) [])))).trans ?_
  refine (seq_nx (expr_ok ((call_ok (two_ok rfl rfl)).trans (least_ok K.lo [])))).trans ?_
  exact ret_ok ((call_ok (two_ok rfl rfl)).trans (unrep_ok h1 h2 K.a K.b []))
theorem ways_ok {n : Nat} {k : Int} (h1 : 0 < n) (h2 : n ≤ 300) (K : Kk k) (h : CH) : ev_ways_number [.int n, .int k] h = .ok (.int (wy k n (n - 1))) h := by
  obtain ⟨σ', h', e, ⟨o, rfl⟩, rfl⟩ := forS_inv (t := gN 3) (f := cAsg (cOp rcAdd (cVar 2) (cOp rcMul (cOp rcMul (cCall ev_words_of (cCons (cVar 1) (cCons (cOp rcSub (cOp rcSub (cVar 0) (cVar 3)) (cC (.int 1))) cNil))) (cOp rcSub (cVar 1) (cC (.int 1)))) (cCall ev_unrepeated_words (cCons (cVar 3) (cCons (cVar 1) cNil))))) 2)
    (fun i σ h => (∃ o, σ = [some (.int n), some (.int k), some (.int (wy k n i)), o]) ∧ h = []) (rngC 1 (n - 1)) 0 [some (.int n), some (.int k), some (.int (pr k n)), none] [] ⟨⟨_, rfl⟩, rfl⟩ (by
      rintro j c σ h hj ⟨⟨o, rfl⟩, rfl⟩
      obtain ⟨hj, rfl⟩ := rng_at hj
      rw [Nat.zero_add]
      have ec : (1 + (j : Int)) = ((j + 1 : Nat) : Int) := by omega
      rw [ec]
      have ee : ((n : Int) - ((j + 1 : Nat) : Int) - 1) = ((n - (j + 1) - 1 : Nat) : Int) := by omega
      have ew := words_of_ok k K.a K.b (n - (j + 1) - 1) (by omega) []
      rw [← ee] at ew
      refine ⟨_, _, _, rfl, .inl (asg_ok (add_i rfl (mul_i (mulOk_big (b := 13000) (by decide) (pk_abs K.hi (by omega)) (pr_abs K.hi (by omega))) (mul_i (mulOk_r K.c K.d)
        ((call_ok (two_ok rfl (sub_i (sub_i rfl rfl) rfl))).trans ew) (sub_i rfl rfl)) ((call_ok (two_ok rfl rfl)).trans (unrep_ok (n := j + 1) (by omega) (by omega) K.a K.b []))))), ⟨_, rfl⟩, rfl⟩)
  rw [rngC_len, Nat.zero_add] at e
  refine pure_ok (h0 := []) rfl (def_rt rfl ?_) rfl
  unfold b_ways_number
  refine (seq_nx (expr_ok ((call_ok (two_ok rfl rfl)).trans (least_ok (x := n) (by omega) [])))).trans ?_
  refine (seq_nx (expr_ok ((call_ok (two_ok rfl rfl)).trans (least_ok K.lo [])))).trans ?_
  refine (seq_nx (asg_ok ((call_ok (two_ok rfl rfl)).trans (unrep_ok h1 h2 K.a K.b [])))).trans ?_
  refine (seq_nx (σ1 := [some (.int n), some (.int k), some (.int (wy k n (n - 1))), o]) (h1 := []) ?_).trans rfl
  refine (for_r2 (i := 1) (j := n) rfl rfl (by decide) (rngB_i (by omega) (by omega))).trans ?_
  rw [show ((n : Int) - 1).toNat = n - 1 by omega]
  exact e
end Vm

/-! R24: the law's own formula. -/
namespace Vm
open PySem PySem.Spec PyProof.Rows L2
def pws (k : Int) : Nat → List CV
  | 0 => [.int (k ^ 0)]
  | i + 1 => pws k i ++ [.int (k ^ (i + 1))]
theorem pws_len (k : Int) : ∀ i, (pws k i).length = i + 1
  | 0 => rfl
  | i + 1 => by unfold pws; rw [List.length_append, pws_len k i]; rfl
theorem pws_at (k : Int) : ∀ {i j : Nat}, j ≤ i → (pws k i)[j]? = some (.int (k ^ j))
  | 0, j, h => by
    obtain rfl : j = 0 := by omega
    rfl
  | i + 1, j, h => by
    unfold pws
    by_cases e : j = i + 1
    · subst e
      rw [List.getElem?_append_right (by rw [pws_len]; omega), pws_len, Nat.sub_self]
      rfl
    · rw [List.getElem?_append_left (by rw [pws_len]; omega)]
      exact pws_at k (by omega)
theorem pws_last (k : Int) : ∀ i, atI (pws k i) (-1) = some (.int (k ^ i))
  | 0 => rfl
  | i + 1 => by unfold pws; exact atI_last
def sgl (n : Nat) : List CV := CV.int 0 :: (rngC 1 n).map fun x => match x with
  | .int i => .int (sg i.toNat)
  | _ => .non
theorem sgl_at {n q : Nat} (h : q ≤ n) : (sgl n)[q]? = some (.int (sg q)) := by
  unfold sgl
  cases q with
  | zero => rfl
  | succ q =>
    rw [List.getElem?_cons_succ, List.getElem?_map, rngC_at, if_pos (by omega)]
    show some (CV.int (sg ((1 + (q : Int)).toNat))) = _
    rw [show (1 + (q : Int)).toNat = q + 1 by omega]
/-- the heap of the formula's last loops -/
abbrev fh (P a b S c : List CV) (xs : List CV) : CH := [.lst P, .lst a, .lst b, .lst S, .lst c, .lst xs]
abbrev upF : MS := cIfS (cTst (cOp (rcEq false) (cOp rcMod (cBi rkInt (cCons (cVar 6) cNil)) (cVar 9)) (cC (.int 0)))) (cSetIx (cVar 5) (cVar 6) (cOp rcAdd (cIx (cVar 5) (cVar 6)) (cOp rcMul (cIx (cVar 4) (cOp rcDiv (cVar 6) (cVar 9))) (cIx (cVar 2) (cVar 9))))) cNext
abbrev sF (n : Nat) (k : Int) (p m w r d : Option CV) : Env := [some (.int n), some (.int k), some (.ref 0), p, some (.ref 3), some (.ref 5), m, w, r, d]
theorem div_nat (a b : Nat) : ((a : Int) / (b : Int)) = ((a / b : Nat) : Int) := (Int.natCast_ediv a b).symm
theorem divOk_n {i : Int} {b : Nat} (h : 0 < b) (h2 : b ≤ 1000) : divOk i b = true := by
  unfold divOk
  refine decide_eq_true ⟨by omega, ?_⟩
  have hb : b ≠ 0 := by omega
  have : b.log2 < 10 := (Nat.log2_lt hb).mpr (by have : (2 : Nat) ^ 10 = 1024 := (by decide); omega)
  show b.log2 < 9000
  omega
/-- one number's sum -/
theorem inner_ok {n m : Nat} {k : Int} {p w r d0 : Option CV} {a b c xs : List CV} (hm : 0 < m) (hn : m ≤ n) (hn2 : n ≤ 300) (K : Kk k) (hx : xs.length = n + 1) (h0 : xs[m]? = some (.int 0)) :
    ∃ d xs', forS (gN 9) upF (rngC 1 m) (sF n k p (some (.int m)) w r d0) (fh (pws k n) a b (sgl n) c xs) = .nx (sF n k p (some (.int m)) w r d) (fh (pws k n) a b (sgl n) c xs') ∧ xs'.length = n + 1 ∧ xs'[m]? = some (.int (pr k m)) ∧ ∀ j, j ≠ m → xs'[j]? = xs[j]? := by
  obtain ⟨σ', h', e, d, xs', rfl, rfl, h1, h2, h3⟩ := forS_inv (t := gN 9) (f := upF)
    (fun i σ h => ∃ d xs', σ = sF n k p (some (.int m)) w r d ∧ h = fh (pws k n) a b (sgl n) c xs' ∧ xs'.length = n + 1 ∧ xs'[m]? = some (.int (sumUp (fun d => if m % d = 0 then sg (m / d) * k ^ d else 0) i)) ∧ ∀ j, j ≠ m → xs'[j]? = xs[j]?)
    (rngC 1 m) 0 (sF n k p (some (.int m)) w r d0) (fh (pws k n) a b (sgl n) c xs) ⟨d0, xs, rfl, rfl, hx, h0, fun _ _ => rfl⟩ (by
      rintro j x σ h hj ⟨d, ys, rfl, rfl, h1, h2, h3⟩
      obtain ⟨hj, rfl⟩ := rng_at hj
      rw [Nat.zero_add] at h2 ⊢
      have ec : (1 + (j : Int)) = ((j + 1 : Nat) : Int) := by omega
      rw [ec]
      have et : cTst (cOp (rcEq false) (cOp rcMod (cBi rkInt (cCons (cVar 6) cNil)) (cVar 9)) (cC (.int 0))) (sF n k p (some (.int m)) w r (some (.int (j + 1 : Nat)))) (fh (pws k n) a b (sgl n) c ys) = .ok (decide (m % (j + 1) = 0)) (fh (pws k n) a b (sgl n) c ys) := by
        rw [← dec_mod]
        exact eq_i (mod_i (by omega) (int_i rfl) rfl) rfl
      by_cases hd : m % (j + 1) = 0
      · rw [decide_eq_true hd] at et
        have hq : m / (j + 1) ≤ n := Nat.le_trans (Nat.div_le_self m (j + 1)) hn
        have v1 : cIx (cVar 4) (cOp rcDiv (cVar 6) (cVar 9)) (sF n k p (some (.int m)) w r (some (.int (j + 1 : Nat)))) (fh (pws k n) a b (sgl n) c ys) = .ok (.int (sg (m / (j + 1)))) (fh (pws k n) a b (sgl n) c ys) := by
          refine op_ok (r := (_, _)) rfl (div_i (i := m) (j := (j + 1 : Nat)) (divOk_n (by omega) (by omega)) rfl rfl) ?_
          rw [div_nat]
          exact ix_lst rfl (atI_n (sgl_at hq))
        have v2 : cIx (cVar 2) (cVar 9) (sF n k p (some (.int m)) w r (some (.int (j + 1 : Nat)))) (fh (pws k n) a b (sgl n) c ys) = .ok (.int (k ^ (j + 1))) (fh (pws k n) a b (sgl n) c ys) :=
          op_ok (r := (_, _)) rfl rfl (ix_lst (i := (j + 1 : Nat)) rfl (atI_n (pws_at k (by omega))))
        have v0 : cIx (cVar 5) (cVar 6) (sF n k p (some (.int m)) w r (some (.int (j + 1 : Nat)))) (fh (pws k n) a b (sgl n) c ys) = .ok (.int (sumUp (fun d => if m % d = 0 then sg (m / d) * k ^ d else 0) j)) (fh (pws k n) a b (sgl n) c ys) :=
          op_ok (r := (_, _)) rfl rfl (ix_lst (i := (m : Nat)) rfl (atI_n h2))
        have sm := sg_abs (m / (j + 1))
        refine ⟨_, _, _, rfl, .inl ((if_t et).trans (setix_lst (i := m) (xs := ys) (add_i v0 (mul_i (mulOk_l (by omega) (by omega)) v1 v2)) rfl rfl rfl (by omega))), _, _, rfl, rfl, by rw [List.length_set]; exact h1, ?_, fun i hi => by rw [List.getElem?_set_ne (Ne.symm hi)]; exact h3 i hi⟩
        rw [List.getElem?_set_self (by omega)]
        show _ = some (CV.int (sumUp _ j + (if m % (j + 1) = 0 then sg (m / (j + 1)) * k ^ (j + 1) else 0)))
        rw [if_pos hd]
      · rw [decide_eq_false hd] at et
        refine ⟨_, _, _, rfl, .inl ((if_f et).trans rfl), _, ys, rfl, rfl, h1, ?_, h3⟩
        show _ = some (CV.int (sumUp _ j + (if m % (j + 1) = 0 then sg (m / (j + 1)) * k ^ (j + 1) else 0)))
        rw [if_neg hd, Int.add_zero]
        exact h2)
  rw [rngC_len, Nat.zero_add] at h2
  exact ⟨d, xs', e, h1, h2, h3⟩
abbrev outF : MS := cFor (cRng2 (cCons (cC (.int 1)) (cCons (cOp rcAdd (cVar 6) (cC (.int 1))) cNil))) (gN 9) upF
theorem outer_ok {n : Nat} {k : Int} {p w r m0 d0 : Option CV} {a b c xs : List CV} (hn2 : n ≤ 300) (K : Kk k) (hx : xs.length = n + 1) (h0 : ∀ m, m ≤ n → xs[m]? = some (.int 0)) :
    ∃ m d xs', forS (gN 6) outF (rngC 1 n) (sF n k p m0 w r d0) (fh (pws k n) a b (sgl n) c xs) = .nx (sF n k p m w r d) (fh (pws k n) a b (sgl n) c xs') ∧ ∀ m, m ≤ n → xs'[m]? = some (.int (pr k m)) := by
  obtain ⟨σ', h', e, m, d, xs', rfl, rfl, h1, h2⟩ := forS_inv (t := gN 6) (f := outF)
    (fun i σ h => ∃ m d xs', σ = sF n k p m w r d ∧ h = fh (pws k n) a b (sgl n) c xs' ∧ xs'.length = n + 1 ∧ ∀ j, j ≤ n → xs'[j]? = some (.int (if j ≤ i then pr k j else 0)))
    (rngC 1 n) 0 (sF n k p m0 w r d0) (fh (pws k n) a b (sgl n) c xs) ⟨m0, d0, xs, rfl, rfl, hx, fun j hj => by
      rw [h0 j hj]
      split
      · rename_i hz
        obtain rfl : j = 0 := by omega
        rfl
      · rfl⟩ (by
      rintro j x σ h hj ⟨m, d, ys, rfl, rfl, h1, h2⟩
      obtain ⟨hj, rfl⟩ := rng_at hj
      rw [Nat.zero_add] at h2 ⊢
      have ec : (1 + (j : Int)) = ((j + 1 : Nat) : Int) := by omega
      rw [ec]
      have z := h2 (j + 1) (by omega)
      rw [if_neg (by omega)] at z
      obtain ⟨d', zs, e, l1, l2, l3⟩ := inner_ok (n := n) (m := j + 1) (p := p) (w := w) (r := r) (d0 := d) (a := a) (b := b) (c := c) (by omega) (by omega) hn2 K h1 z
      refine ⟨_, _, _, rfl, .inl ((for_r2 (i := 1) (j := (j + 1 : Nat) + 1) rfl (add_i rfl rfl) (by decide) (rngB_i (by omega) (by omega))).trans ?_), some (.int (j + 1 : Nat)), d', zs, rfl, rfl, l1, fun i hi => ?_⟩
      · rw [show (((j + 1 : Nat) : Int) + 1 - 1).toNat = j + 1 by omega]
        exact e
      · by_cases hij : i = j + 1
        · rw [hij, l2, if_pos (Nat.le_refl _)]
        · rw [l3 i hij, h2 i hi]
          by_cases q : i ≤ j
          · rw [if_pos q, if_pos (by omega)]
          · rw [if_neg q, if_neg (by omega)])
  refine ⟨m, d, xs', e, fun j hj => ?_⟩
  rw [rngC_len, Nat.zero_add] at h2
  rw [h2 j hj, if_pos hj]
theorem formed_ok {n : Nat} {k : Int} (hn : 0 < n) (hn2 : n ≤ 300) (K : Kk k) (h : CH) : ev_law_formed [.int n, .int k] h = .ok (.tup [.int (pr k n), .int (wy k n (n - 1))]) h := by
  -- the powers
  obtain ⟨σ1, h1, e1, o1, rfl, rfl⟩ := forS_inv (t := gN 3) (f := cExpr (cML rmApp (cVar 2) (cCons (cOp rcMul (cIx (cVar 2) (cNeg (cC (.int 1)))) (cVar 1)) cNil)))
    (fun i σ h => ∃ o, σ = [some (.int n), some (.int k), some (.ref 0), o, none, none, none, none, none, none] ∧ h = [CO.lst (pws k i)]) (rngC 0 n) 0 [some (.int n), some (.int k), some (.ref 0), none, none, none, none, none, none, none] [.lst (pws k 0)] ⟨none, rfl, rfl⟩ (by
      rintro j x σ h hj ⟨o, rfl, rfl⟩
      obtain ⟨hj, rfl⟩ := rng_at hj
      rw [Nat.zero_add]
      refine ⟨_, _, _, rfl, .inl (expr_ok (app_ok (n := 0) (xs := pws k j) rfl rfl (mul_i (i := k ^ j) (j := k) (mulOk_r K.a K.b) (op_ok (r := (_, _)) rfl rfl (ix_lst rfl (pws_last k j))) rfl) rfl ?_)), _, rfl, ?_⟩
      · rw [pws_len]
        show _ < 16777216
        omega
      · show [CO.lst (pws k j ++ [.int (k ^ j * k)])] = [CO.lst (pws k j ++ [.int (k ^ (j + 1))])]
        rw [Int.pow_succ])
  rw [rngC_len, Nat.zero_add] at e1
  -- the signs
  have e2 : cLc (cRng2 (cCons (cC (.int 1)) (cCons (cOp rcAdd (cVar 0) (cC (.int 1))) cNil))) [9] (gN 9) cYes (cCall ev_law_sign (cCons (cVar 9) cNil)) [some (.int n), some (.int k), some (.ref 0), o1, none, none, none, none, none, none] [.lst (pws k n), .lst [.int 0]] =
      .ok (.ref 2) [.lst (pws k n), .lst [.int 0], .lst ((rngC 1 n).map fun x => match x with | .int i => .int (sg i.toNat) | _ => .non)] := by
    have := lc_st (vs := [9]) (t := gN 9) (c := cYes) (e := cCall ev_law_sign (cCons (cVar 9) cNil)) (σ := [some (.int n), some (.int k), some (.ref 0), o1, none, none, none, none, none, none]) (h := [.lst (pws k n), .lst [.int 0]]) (h1 := [.lst (pws k n), .lst [.int 0]])
      (fun x => some ((fun x => match x with | .int i => .int (sg i.toNat) | _ => CV.non) x)) (rng2_ok (fa := cC (.int 1)) (fb := cOp rcAdd (cVar 0) (cC (.int 1))) (i := 1) (j := n + 1) rfl (add_i rfl rfl) (by decide) (rngB_i (by omega) (by omega))) (by
        rw [rngC_len]
        show _ ≤ 16777216
        omega) (fun x hx l => by
        obtain ⟨j, hj⟩ := List.mem_iff_getElem?.mp hx
        obtain ⟨hj, rfl⟩ := rng_at hj
        have ec : (1 + (j : Int)) = ((j + 1 : Nat) : Int) := by omega
        rw [ec]
        exact ⟨_, rfl, rfl, (call_ok (one_ok rfl)).trans (sign_ok (q := j + 1) (by omega) (by omega) _)⟩)
    rw [show ((n : Int) + 1 - 1).toNat = n by omega, List.filterMap_eq_map'] at this
    exact this
  have e3 : cAsg (cOp rcAdd (cLst (cCons (cC (.int 0)) cNil)) (cLc (cRng2 (cCons (cC (.int 1)) (cCons (cOp rcAdd (cVar 0) (cC (.int 1))) cNil))) [9] (gN 9) cYes (cCall ev_law_sign (cCons (cVar 9) cNil)))) 4 [some (.int n), some (.int k), some (.ref 0), o1, none, none, none, none, none, none] [.lst (pws k n)] =
      .nx [some (.int n), some (.int k), some (.ref 0), o1, some (.ref 3), none, none, none, none, none] [.lst (pws k n), .lst [.int 0], .lst ((rngC 1 n).map fun x => match x with | .int i => .int (sg i.toNat) | _ => .non), .lst (sgl n)] := by
    have l0 : cLst (cCons (cC (.int 0)) cNil) [some (.int n), some (.int k), some (.ref 0), o1, none, none, none, none, none, none] [.lst (pws k n)] = .ok (.ref 1) [.lst (pws k n), .lst [.int 0]] := lst_ok (cs := [.int 0]) (h1 := [.lst (pws k n)]) rfl (by decide)
    refine (asg_ok (add_lst (a := 1) (b := 2) l0 e2 rfl rfl ?_)).trans rfl
    rw [List.length_map, rngC_len]
    show 1 + n ≤ 16777216
    omega
  have hrep : (List.replicate ((n : Int) + 1).toNat [CV.int 0]).flatten = List.replicate (n + 1) (CV.int 0) := by
    rw [show ((n : Int) + 1).toNat = n + 1 by omega]
    induction n + 1 with
    | zero => rfl
    | succ m ih => rw [List.replicate_succ, List.flatten_cons, ih, List.replicate_succ]; rfl
  have e4 : cAsg (cOp rcMul (cLst (cCons (cC (.int 0)) cNil)) (cOp rcAdd (cVar 0) (cC (.int 1)))) 5 [some (.int n), some (.int k), some (.ref 0), o1, some (.ref 3), none, none, none, none, none] [.lst (pws k n), .lst [.int 0], .lst ((rngC 1 n).map fun x => match x with | .int i => .int (sg i.toNat) | _ => .non), .lst (sgl n)] =
      .nx (sF n k o1 none none none none) (fh (pws k n) [.int 0] ((rngC 1 n).map fun x => match x with | .int i => .int (sg i.toNat) | _ => .non) (sgl n) [.int 0] (List.replicate (n + 1) (.int 0))) := by
    have l0 : cLst (cCons (cC (.int 0)) cNil) [some (.int n), some (.int k), some (.ref 0), o1, some (.ref 3), none, none, none, none, none] [.lst (pws k n), .lst [.int 0], .lst ((rngC 1 n).map fun x => match x with | .int i => .int (sg i.toNat) | _ => .non), .lst (sgl n)] =
        .ok (.ref 4) [.lst (pws k n), .lst [.int 0], .lst ((rngC 1 n).map fun x => match x with | .int i => .int (sg i.toNat) | _ => .non), .lst (sgl n), .lst [.int 0]] := lst_ok (cs := [.int 0]) (h1 := [.lst (pws k n), .lst [.int 0], .lst ((rngC 1 n).map fun x => match x with | .int i => .int (sg i.toNat) | _ => .non), .lst (sgl n)]) rfl (by decide)
    refine (asg_ok (mul_lst (a := 4) (xs := [.int 0]) l0 (add_i (i := n) (j := 1) rfl rfl) rfl (by omega) (by omega) ?_)).trans ?_
    · rw [List.length_singleton]
      show _ ≤ 16777216
      omega
    · rw [hrep]
      rfl
  obtain ⟨m, d, xs, e5, h5⟩ := outer_ok (n := n) (p := o1) (w := none) (r := none) (m0 := none) (d0 := none) (a := [.int 0]) (b := (rngC 1 n).map fun x => match x with | .int i => .int (sg i.toNat) | _ => .non) (c := [.int 0]) (xs := List.replicate (n + 1) (.int 0)) hn2 K (by rw [List.length_replicate]) (fun m hm => by rw [List.getElem?_replicate, if_pos (by omega)])
  generalize hb : ((rngC 1 n).map fun x => match x with | .int i => CV.int (sg i.toNat) | _ => CV.non) = b at *
  -- the ways
  obtain ⟨σ6, h6, e6, o6, rfl, rfl⟩ := forS_inv (t := gN 8) (f := cAsg (cOp rcAdd (cVar 7) (cOp rcMul (cOp rcMul (cIx (cVar 2) (cOp rcSub (cOp rcSub (cVar 0) (cVar 8)) (cC (.int 1)))) (cOp rcSub (cVar 1) (cC (.int 1)))) (cIx (cVar 5) (cVar 8)))) 7)
    (fun i σ h => ∃ o, σ = sF n k o1 m (some (.int (wy k n i))) o d ∧ h = fh (pws k n) [.int 0] b (sgl n) [.int 0] xs) (rngC 1 (n - 1)) 0 (sF n k o1 m (some (.int (pr k n))) none d) (fh (pws k n) [.int 0] b (sgl n) [.int 0] xs) ⟨none, rfl, rfl⟩ (by
      rintro j x σ h hj ⟨o, rfl, rfl⟩
      obtain ⟨hj, rfl⟩ := rng_at hj
      rw [Nat.zero_add]
      have ec : (1 + (j : Int)) = ((j + 1 : Nat) : Int) := by omega
      rw [ec]
      have ee : ((n : Int) - ((j + 1 : Nat) : Int) - 1) = ((n - (j + 1) - 1 : Nat) : Int) := by omega
      have v1 : cIx (cVar 2) (cOp rcSub (cOp rcSub (cVar 0) (cVar 8)) (cC (.int 1))) (sF n k o1 m (some (.int (wy k n j))) (some (.int (j + 1 : Nat))) d) (fh (pws k n) [.int 0] b (sgl n) [.int 0] xs) = .ok (.int (k ^ (n - (j + 1) - 1))) (fh (pws k n) [.int 0] b (sgl n) [.int 0] xs) := by
        refine op_ok (r := (_, _)) rfl (sub_i (sub_i rfl rfl) rfl) ?_
        rw [ee]
        exact ix_lst rfl (atI_n (pws_at k (by omega)))
      have v2 : cIx (cVar 5) (cVar 8) (sF n k o1 m (some (.int (wy k n j))) (some (.int (j + 1 : Nat))) d) (fh (pws k n) [.int 0] b (sgl n) [.int 0] xs) = .ok (.int (pr k (j + 1))) (fh (pws k n) [.int 0] b (sgl n) [.int 0] xs) :=
        op_ok (r := (_, _)) rfl rfl (ix_lst (i := (j + 1 : Nat)) rfl (atI_n (h5 (j + 1) (by omega))))
      exact ⟨_, _, _, rfl, .inl (asg_ok (add_i rfl (mul_i (mulOk_big (b := 13000) (by decide) (pk_abs K.hi (by omega)) (pr_abs K.hi (by omega))) (mul_i (mulOk_r K.c K.d) v1 (sub_i rfl rfl)) v2))), _, rfl, rfl⟩)
  rw [rngC_len, Nat.zero_add] at e6
  have vn : ∀ w r : Option CV, cIx (cVar 5) (cVar 0) (sF n k o1 m w r d) (fh (pws k n) [.int 0] b (sgl n) [.int 0] xs) = .ok (.int (pr k n)) (fh (pws k n) [.int 0] b (sgl n) [.int 0] xs) := fun w r =>
    op_ok (r := (_, _)) rfl rfl (ix_lst (i := (n : Nat)) rfl (atI_n (h5 n (Nat.le_refl _))))
  refine pure_ok (h0 := fh (pws k n) [.int 0] b (sgl n) [.int 0] xs) rfl (def_rt rfl ?_) rfl
  unfold b_law_formed
  refine (seq_nx (σ1 := [some (.int n), some (.int k), some (.ref 0), none, none, none, none, none, none, none]) (h1 := [.lst (pws k 0)]) ?_).trans ?_
  · unfold pws
    rw [Int.pow_zero]
    exact asg_ok (lst_ok (cs := [.int 1]) (h1 := []) rfl (by decide))
  refine (seq_nx ((for_r1 (j := n) rfl (rngB_i (by omega) (by omega))).trans e1)).trans ?_
  refine (seq_nx e3).trans ?_
  refine (seq_nx e4).trans ?_
  refine (seq_nx (σ1 := sF n k o1 m none none d) (h1 := fh (pws k n) [.int 0] b (sgl n) [.int 0] xs) ?_).trans ?_
  · refine (for_r2 (i := 1) (j := n + 1) rfl (add_i rfl rfl) (by decide) (rngB_i (by omega) (by omega))).trans ?_
    rw [show ((n : Int) + 1 - 1).toNat = n by omega]
    exact e5
  refine (seq_nx (asg_ok (vn _ _))).trans ?_
  refine (seq_nx (σ1 := sF n k o1 m (some (.int (wy k n (n - 1)))) o6 d) (h1 := fh (pws k n) [.int 0] b (sgl n) [.int 0] xs) ?_).trans ?_
  · refine (for_r2 (i := 1) (j := n) rfl rfl (by decide) (rngB_i (by omega) (by omega))).trans ?_
    rw [show ((n : Int) - 1).toNat = n - 1 by omega]
    exact e6
  · exact ret_ok (tup_ok (two_ok (vn _ _) rfl) (show 2 ≤ 16777216 by decide))
end Vm

/-! Tr24: what the small numbers must give. -/
namespace Vm
open PySem PySem.Spec PyProof.Rows L2
def isII (a b : Int) : CV → Bool
  | .tup [.int x, .int y] => decide (x = a) && decide (y = b)
  | _ => false
theorem okIs_II {r : Rs CV} {a b : Int} (h : okIs r (isII a b) = true) : ∃ h0, r = .ok (.tup [.int a, .int b]) h0 := by
  unfold okIs at h
  split at h
  · rename_i c h0
    unfold isII at h
    split at h
    · rename_i x y
      rw [Bool.and_eq_true] at h
      exact ⟨h0, by rw [of_decide_eq_true h.1, of_decide_eq_true h.2]⟩
    · cases h
  · cases h
def Tried (n : Nat) (k : Int) : Prop := okIs (cDef 2 9 b_law_tried [.int n, .int k] []) (isII (pr k n) (wy k n (n - 1))) = true
theorem tried_ok {n : Nat} {k : Int} (t : Tried n k) (h : CH) : ev_law_tried [.int n, .int k] h = .ok (.tup [.int (pr k n), .int (wy k n (n - 1))]) h := by
  obtain ⟨h0, e⟩ := okIs_II t
  exact pure_ok rfl e rfl
end Vm

/-! Sm24: the small numbers, all words tried. -/
namespace Vm
open PySem PySem.Spec PyProof.Rows L2
theorem t_2_2 : Tried 2 2 := by unfold Tried; decide +kernel
theorem t_1_1 : Tried 1 1 := by unfold Tried; decide +kernel
theorem t_3_2 : Tried 3 2 := by unfold Tried; decide +kernel
theorem t_2_3 : Tried 2 3 := by unfold Tried; decide +kernel
theorem t_4_2 : Tried 4 2 := by unfold Tried; decide +kernel
theorem t_1_5 : Tried 1 5 := by unfold Tried; decide +kernel
theorem t_3_3 : Tried 3 3 := by unfold Tried; decide +kernel
theorem t_5_2 : Tried 5 2 := by unfold Tried; decide +kernel
theorem t_6_2 : Tried 6 2 := by unfold Tried; decide +kernel
theorem t_4_3 : Tried 4 3 := by unfold Tried; decide +kernel
theorem t_2_8 : Tried 2 8 := by unfold Tried; decide +kernel
theorem t_3_5 : Tried 3 5 := by unfold Tried; decide +kernel
theorem t_5_1 : Tried 5 1 := by unfold Tried; decide +kernel
theorem t_7_2 : Tried 7 2 := by unfold Tried; decide +kernel
theorem t_6_1 : Tried 6 1 := by unfold Tried; decide +kernel
end Vm

/-! S24: the law. -/
namespace Vm
open PySem PySem.Spec PyProof.Rows L2
def isBl (b : Bool) : CV → Bool
  | .bl x => x == b
  | _ => false
theorem okIs_bl {r : Rs CV} {b : Bool} (h : okIs r (isBl b) = true) : ∃ h0, r = .ok (.bl b) h0 := by
  unfold okIs at h
  split at h
  · rename_i c h0
    unfold isBl at h
    split at h
    · rename_i x
      exact ⟨h0, by rw [eq_of_beq h]⟩
    · cases h
  · cases h
/-- told == due, both the same int -/
theorem number_ok (a : Int) (h : CH) : ev_law_number [.int a, .int a] h = .ok (.bl true) h := by
  refine pure_ok (h0 := []) rfl (def_rt rfl ?_) rfl
  unfold b_law_number
  have e : cOp (rcEq false) (cVar 0) (cVar 1) [some (.int a), some (.int a)] [] = .ok (.bl true) [] := by
    have := eqv_i (fa := cVar 0) (fb := cVar 1) (σ := [some (.int a), some (.int a)]) (h := []) (i := a) (j := a) rfl rfl
    rw [decide_eq_true rfl] at this
    exact this
  refine ret_ok ?_
  unfold cAndV
  show (cOp (rcEq false) (cVar 0) (cVar 1) [some (.int a), some (.int a)] []) = _
  exact e
theorem pair_ne (a b : Int) (h : CH) : rcEq true (.tup [.int a, .int b]) (.tup [.int a, .int b]) h = some (.bl false, h) := by
  unfold rcEq rcEqS rcEqD eqS eqD
  simp [cvD, dAll, SeqAt.shaped, PyData.eqv]
  exact ⟨⟨rfl, Nat.le_of_ble_eq_true rfl⟩, by simp [PyData.eqvAll, PyData.eqv]⟩
/-! a refusal -/
theorem def_ex {n N : Nat} {body : MS} {cs : List CV} {h h1 : CH} {k : Nat} {fs : List (Str × CV)} {σ1 : Env} (hl : cs.length = n) (e : body (cs.map some ++ List.replicate (N - n) none) h = .ex k fs σ1 h1) : cDef n N body cs h = .ex k fs h1 := by
  unfold cDef
  rw [if_pos hl, e]
def rpOk (o : CV) : Bool := match rkRepr [o] [] with
  | some (.str _, []) => true
  | _ => false
theorem rp_of {o : CV} (h : rpOk o = true) : ∃ s, rkRepr [o] [] = some (.str s, []) := by
  unfold rpOk at h
  split at h
  · exact ⟨_, by assumption⟩
  · cases h
structure Bad (o : CV) : Prop where
  fl : flat o = true
  bad : cDef 2 2 b_check_least [o, .int 1] [] = .ex 1 [("at", o)] []
  rp : rpOk o = true
theorem bad_ex {o : CV} (b : Bad o) (h : CH) : ev_check_least [o, .int 1] h = .ex 1 [("at", o)] h := by
  refine pure_ex ?_ b.bad ?_
  · simp only [flats, b.fl]
    rfl
  · simp only [flatF, b.fl]
    rfl
theorem bad_flats {o : CV} (b : Bad o) : flatF [("at", o)] = true := by
  simp only [flatF, b.fl]
  rfl
/-- both numbers, refused at the first or at the second -/
structure Ref (a c o : CV) : Prop where
  words : ∀ h, ev_words_number [a, c] h = .ex 1 [("at", o)] h
  ways : ∀ h, ev_ways_number [a, c] h = .ex 1 [("at", o)] h
  fa : flat a = true
  fc : flat c = true
theorem ref1 {o c : CV} (b : Bad o) (fc : flat c = true) : Ref o c o := by
  have f2 : flats [o, c] = true := by
    simp only [flats, b.fl, fc]
    rfl
  have s1 : ∀ r : List (Option CV), cExpr (cCall ev_check_least (cCons (cVar 0) (cCons (cC (.int 1)) cNil))) (some o :: r) [] = .ex 1 [("at", o)] (some o :: r) [] := fun r => expr_ex ((call_ok (two_ok rfl rfl)).trans (bad_ex b []))
  refine ⟨fun h => pure_ex (h0 := []) f2 (def_ex (h1 := []) (σ1 := [some o, some c]) rfl ?_) (bad_flats b), fun h => pure_ex (h0 := []) f2 (def_ex (h1 := []) (σ1 := [some o, some c, none, none]) rfl ?_) (bad_flats b), b.fl, fc⟩
  · unfold b_words_number
    exact seq_ex (s1 _)
  · unfold b_ways_number
    exact seq_ex (s1 _)
theorem ref2 {o : CV} {n : Nat} (h1 : 0 < n) (b : Bad o) : Ref (.int n) o o := by
  have f2 : flats [.int n, o] = true := by
    simp only [flats, flat, b.fl]
    rfl
  have s0 : ∀ r : List (Option CV), cExpr (cCall ev_check_least (cCons (cVar 0) (cCons (cC (.int 1)) cNil))) (some (.int n) :: some o :: r) [] = .nx (some (.int n) :: some o :: r) [] := fun r => expr_ok ((call_ok (two_ok rfl rfl)).trans (least_ok (x := n) (by omega) []))
  have s1 : ∀ r : List (Option CV), cExpr (cCall ev_check_least (cCons (cVar 1) (cCons (cC (.int 1)) cNil))) (some (.int n) :: some o :: r) [] = .ex 1 [("at", o)] (some (.int n) :: some o :: r) [] := fun r => expr_ex ((call_ok (two_ok rfl rfl)).trans (bad_ex b []))
  refine ⟨fun h => pure_ex (h0 := []) f2 (def_ex (h1 := []) (σ1 := [some (.int n), some o]) rfl ?_) (bad_flats b), fun h => pure_ex (h0 := []) f2 (def_ex (h1 := []) (σ1 := [some (.int n), some o, none, none]) rfl ?_) (bad_flats b), rfl, b.fl⟩
  · unfold b_words_number
    exact (seq_nx (s0 _)).trans (seq_ex (s1 _))
  · unfold b_ways_number
    exact (seq_nx (s0 _)).trans (seq_ex (s1 _))
theorem str_eq (s : Str) (h : CH) : rcEq false (.str s) (.str s) h = some (.bl true, h) := by
  unfold rcEq rcEqS eqS
  simp
theorem refused_ok {w : Str} {a c o : CV} (hw : w = "words" ∨ w = "ways") (b : Bad o) (r : Ref a c o) (h : CH) : ev_law_refused [.str w, a, c, o] h = .ok (.bl true) h := by
  obtain ⟨s, hs⟩ := rp_of b.rp
  have f4 : flats [.str w, a, c, o] = true := by
    simp only [flats, flat, b.fl, r.fa, r.fc]
    rfl
  refine pure_ok (h0 := []) f4 (def_rt rfl ?_) rfl
  unfold b_law_refused
  refine (seq_nx (σ1 := [some (.str w), some a, some c, some o, none, some (.bl false), some .non]) (h1 := []) rfl).trans ?_
  have ew : ∀ z : Bool, cTst (cOp (rcEq false) (cVar 0) (cC (.str "words"))) [some (.str w), some a, some c, some o, none, some (.bl false), some .non] [] = .ok (w == "words") [] := fun _ => by
    refine tst_ok (op_ok (r := (_, _)) rfl rfl ?_)
    unfold rcEq rcEqS eqS
    simp
  have eb : cIfS (cTst (cOp (rcEq false) (cVar 0) (cC (.str "words")))) (cExpr (cCall ev_words_number (cCons (cVar 1) (cCons (cVar 2) cNil)))) (cExpr (cCall ev_ways_number (cCons (cVar 1) (cCons (cVar 2) cNil))))
      [some (.str w), some a, some c, some o, none, some (.bl false), some .non] [] = .ex 1 [("at", o)] [some (.str w), some a, some c, some o, none, some (.bl false), some .non] [] := by
    refine (if_b (ew true)).trans ?_
    by_cases z : (w == ("words" : Str)) = true
    · rw [if_pos z]
      exact expr_ex ((call_ok (two_ok rfl rfl)).trans (r.words []))
    · rw [if_neg z]
      exact expr_ex ((call_ok (two_ok rfl rfl)).trans (r.ways []))
  refine (seq_nx (σ1 := [some (.str w), some a, some c, some o, none, some (.bl true), some o]) (h1 := []) ?_).trans ?_
  · unfold cTry
    rw [eb]
    rfl
  · refine ret_ok ?_
    have e6 : cBi rkRepr (cCons (cVar 6) cNil) [some (.str w), some a, some c, some o, none, some (.bl true), some o] [] = .ok (.str s) [] := bi_ok (r := (_, _)) (one_ok rfl) hs
    have e3 : cBi rkRepr (cCons (cVar 3) cNil) [some (.str w), some a, some c, some o, none, some (.bl true), some o] [] = .ok (.str s) [] := bi_ok (r := (_, _)) (one_ok rfl) hs
    unfold cAndV
    show cOp (rcEq false) (cBi rkRepr (cCons (cVar 6) cNil)) (cBi rkRepr (cCons (cVar 3) cNil)) [some (.str w), some a, some c, some o, none, some (.bl true), some o] [] = _
    exact op_ok (r := (_, _)) e6 e3 (str_eq s [])
def odds : List CV := [.int 0, .int (-1), .bl true, .non, .str "3", .tup [.int 3], .int (-(10 ^ 20)), .bl false]
theorem odds_bad : ∀ i, i < 8 → ∃ o, odds[i]? = some o ∧ Bad o := by
  intro i hi
  match i, hi with
  | 0, _ => exact ⟨_, rfl, rfl, by kernel_rfl, by decide +kernel⟩
  | 1, _ => exact ⟨_, rfl, rfl, by kernel_rfl, by decide +kernel⟩
  | 2, _ => exact ⟨_, rfl, rfl, by kernel_rfl, by decide +kernel⟩
  | 3, _ => exact ⟨_, rfl, rfl, by kernel_rfl, by decide +kernel⟩
  | 4, _ => exact ⟨_, rfl, rfl, by kernel_rfl, by decide +kernel⟩
  | 5, _ => exact ⟨_, rfl, rfl, by kernel_rfl, by decide +kernel⟩
  | 6, _ => exact ⟨_, rfl, rfl, by kernel_rfl, by decide +kernel⟩
  | 7, _ => exact ⟨_, rfl, rfl, by kernel_rfl, by decide +kernel⟩
/-! the law -/
abbrev s8 (S : CV) (c2 c3 c4 c5 c6 c7 : Option CV) : Env := [some S, some (.ref 2), c2, c3, c4, c5, c6, c7]
abbrev chk : MS := cIfS (cOr (cNot (cTst (cCall ev_law_number (cCons (cCall ev_words_number (cCons (cVar 4) (cCons (cVar 5) cNil))) (cCons (cIx (cVar 3) (cC (.int 0))) cNil))))) (cNot (cTst (cCall ev_law_number (cCons (cCall ev_ways_number (cCons (cVar 4) (cCons (cVar 5) cNil))) (cCons (cIx (cVar 3) (cC (.int 1))) cNil)))))) (cRet (cC (.bl false))) cNext
theorem chk_ok {S : CV} {c2 c6 c7 : Option CV} {n : Nat} {k : Int} (h1 : 0 < n) (h2 : n ≤ 300) (K : Kk k) (h : CH) :
    chk (s8 S c2 (some (.tup [.int (pr k n), .int (wy k n (n - 1))])) (some (.int n)) (some (.int k)) c6 c7) h = .nx (s8 S c2 (some (.tup [.int (pr k n), .int (wy k n (n - 1))])) (some (.int n)) (some (.int k)) c6 c7) h := by
  have a1 : cCall ev_law_number (cCons (cCall ev_words_number (cCons (cVar 4) (cCons (cVar 5) cNil))) (cCons (cIx (cVar 3) (cC (.int 0))) cNil)) (s8 S c2 (some (.tup [.int (pr k n), .int (wy k n (n - 1))])) (some (.int n)) (some (.int k)) c6 c7) h = .ok (.bl true) h :=
    (call_ok (two_ok ((call_ok (two_ok rfl rfl)).trans (words_ok h1 h2 K h)) (op_ok (r := (_, _)) rfl rfl (ix_tup (c := .int (pr k n)) rfl)))).trans (number_ok _ h)
  have a2 : cCall ev_law_number (cCons (cCall ev_ways_number (cCons (cVar 4) (cCons (cVar 5) cNil))) (cCons (cIx (cVar 3) (cC (.int 1))) cNil)) (s8 S c2 (some (.tup [.int (pr k n), .int (wy k n (n - 1))])) (some (.int n)) (some (.int k)) c6 c7) h = .ok (.bl true) h :=
    (call_ok (two_ok ((call_ok (two_ok rfl rfl)).trans (ways_ok h1 h2 K h)) (op_ok (r := (_, _)) rfl rfl (ix_tup (c := .int (wy k n (n - 1))) rfl)))).trans (number_ok _ h)
  exact (if_f ((or_f (not_ok (x := true) (tst_ok a1))).trans (not_ok (x := true) (tst_ok a2)))).trans rfl
def smalls : List CV := [.tup [.int 2, .int 2], .tup [.int 1, .int 1], .tup [.int 3, .int 2], .tup [.int 2, .int 3], .tup [.int 4, .int 2], .tup [.int 1, .int 5], .tup [.int 3, .int 3], .tup [.int 5, .int 2], .tup [.int 6, .int 2], .tup [.int 4, .int 3], .tup [.int 2, .int 8], .tup [.int 3, .int 5], .tup [.int 5, .int 1], .tup [.int 7, .int 2], .tup [.int 6, .int 1]]
def kinds : List CV := [.int 2, .int 3, .int 1, .int 10, .int 1000, .int (10 ^ 12 + 1), .int 7, .int 999]
theorem kinds_at : ∀ i, i < 8 → ∃ k : Int, kinds[i]? = some (.int k) ∧ 1 ≤ k ∧ k ≤ 1000000000001 := by
  intro i hi
  match i, hi with
  | 0, _ => exact ⟨_, rfl, by decide, by decide⟩
  | 1, _ => exact ⟨_, rfl, by decide, by decide⟩
  | 2, _ => exact ⟨_, rfl, by decide, by decide⟩
  | 3, _ => exact ⟨_, rfl, by decide, by decide⟩
  | 4, _ => exact ⟨_, rfl, by decide, by decide⟩
  | 5, _ => exact ⟨_, rfl, by decide, by decide⟩
  | 6, _ => exact ⟨_, rfl, by decide, by decide⟩
  | 7, _ => exact ⟨_, rfl, by decide, by decide⟩
structure SmallOk (n : Nat) (k : Int) : Prop where
  h1 : 0 < n
  h2 : n ≤ 300
  K : Kk k
  t : Tried n k
/-- which number of signs and letters, behind the small part -/
theorem pick_c {h : CH} (P : Purse h) {σ : Env} (m : Nat) (hm : 0 < m) (e1 : σ[1]? = some (some (.ref 2))) :
    ∃ (v : Nat) (h' : CH), cCall ev_law_pick (cCons (cVar 1) (cCons (cC (.int m)) cNil)) σ h = .ok (.int v) h' ∧ v < m ∧ Purse h' := by
  obtain ⟨v, h', e, hv, P', _⟩ := pick_ok P m hm
  refine ⟨v, h', (call_ok (two_ok ?_ rfl)).trans e, hv, P'⟩
  unfold cVar
  rw [e1]
theorem law_true0 (sm : ∀ i, i < 15 → ∃ n k, smalls[i]? = some (.tup [.int (n : Nat), .int k]) ∧ SmallOk n k) (ns : List Int) (hn : ns.length ≤ 63) : ∃ h, ev_law [.fl (ns.map CV.int)] [] = .ok (.bl true) h := by
  obtain ⟨h1, e1, _, P1⟩ := purse_ok ns hn
  generalize CV.fl (ns.map CV.int) = S at *
  have st1 : cAsg (cCall ev_law_purse (cCons (cVar 0) cNil)) 1 [some S, none, none, none, none, none, none, none] [] = .nx (s8 S none none none none none none) h1 := asg_ok ((call_ok (one_ok rfl)).trans e1)
  -- the small numbers
  obtain ⟨v3, h3, e3, hv3, P3⟩ := pick_c P1 (σ := s8 S (some (.tup smalls)) none none none none none) 15 (by decide) rfl
  obtain ⟨n0, k0, em, M⟩ := sm v3 hv3
  have st3 : cAsgT (cIx (cVar 2) (cCall ev_law_pick (cCons (cVar 1) (cCons (cC (.int 15)) cNil)))) (gT 2 (gsC (gN 4) (gsC (gN 5) gsN))) (s8 S (some (.tup smalls)) none none none none none) h1 = .nx (s8 S (some (.tup smalls)) none (some (.int n0)) (some (.int k0)) none none) h3 :=
    asgT_ok (op_ok (r := (_, _)) rfl e3 (ix_tup (atI_n em))) rfl
  have st4 : cAsg (cCall ev_law_tried (cCons (cVar 4) (cCons (cVar 5) cNil))) 3 (s8 S (some (.tup smalls)) none (some (.int n0)) (some (.int k0)) none none) h3 = .nx (s8 S (some (.tup smalls)) (some (.tup [.int (pr k0 n0), .int (wy k0 n0 (n0 - 1))])) (some (.int n0)) (some (.int k0)) none none) h3 :=
    asg_ok ((call_ok (two_ok rfl rfl)).trans (tried_ok M.t h3))
  have st5 : cIfS (cOr (cTst (cOp (rcIsN false) (cVar 3) (cC .non))) (cTst (cOp (rcEq true) (cVar 3) (cCall ev_law_formed (cCons (cVar 4) (cCons (cVar 5) cNil)))))) (cRet (cC (.bl false))) cNext (s8 S (some (.tup smalls)) (some (.tup [.int (pr k0 n0), .int (wy k0 n0 (n0 - 1))])) (some (.int n0)) (some (.int k0)) none none) h3 =
      .nx (s8 S (some (.tup smalls)) (some (.tup [.int (pr k0 n0), .int (wy k0 n0 (n0 - 1))])) (some (.int n0)) (some (.int k0)) none none) h3 :=
    (if_f ((or_f (tst_ok (x := false) (op_ok (r := (_, _)) rfl rfl rfl))).trans (tst_ok (op_ok (r := (_, _)) rfl ((call_ok (two_ok rfl rfl)).trans (formed_ok M.h1 M.h2 M.K h3)) (pair_ne _ _ h3))))).trans rfl
  have st6 := chk_ok (S := S) (c2 := some (.tup smalls)) (c6 := none) (c7 := none) M.h1 M.h2 M.K h3
  generalize CV.tup [.int (pr k0 n0), .int (wy k0 n0 (n0 - 1))] = due0 at *
  -- the large ones
  obtain ⟨v7, h7, e7, hv7, P7⟩ := pick_c P3 (σ := s8 S (some (.tup smalls)) (some due0) (some (.int n0)) (some (.int k0)) none none) 60 (by decide) rfl
  have st7 : cAsg (cOp rcAdd (cC (.int 1)) (cCall ev_law_pick (cCons (cVar 1) (cCons (cC (.int 60)) cNil)))) 4 (s8 S (some (.tup smalls)) (some due0) (some (.int n0)) (some (.int k0)) none none) h3 = .nx (s8 S (some (.tup smalls)) (some due0) (some (.int (v7 + 1 : Nat))) (some (.int k0)) none none) h7 := by
    refine (asg_ok (add_i (i := 1) (j := v7) rfl e7)).trans ?_
    rw [show (1 : Int) + (v7 : Int) = ((v7 + 1 : Nat) : Int) by omega]
    rfl
  obtain ⟨v8, h8, e8, hv8, P8⟩ := pick_c P7 (σ := s8 S (some (.tup smalls)) (some due0) (some (.int (v7 + 1 : Nat))) (some (.int k0)) none none) 12 (by decide) rfl
  obtain ⟨n, h9, st8, n1, n2, P9⟩ : ∃ (n : Nat) (h9 : CH), cIfS (cTst (cOp (rcEq false) (cCall ev_law_pick (cCons (cVar 1) (cCons (cC (.int 12)) cNil))) (cC (.int 11)))) (cAsg (cOp rcSub (cC (.int 300)) (cOp rcMul (cCall ev_law_pick (cCons (cVar 1) (cCons (cC (.int 2)) cNil))) (cCall ev_law_pick (cCons (cVar 1) (cCons (cC (.int 60)) cNil))))) 4) cNext
      (s8 S (some (.tup smalls)) (some due0) (some (.int (v7 + 1 : Nat))) (some (.int k0)) none none) h7 = .nx (s8 S (some (.tup smalls)) (some due0) (some (.int n)) (some (.int k0)) none none) h9 ∧ 0 < n ∧ n ≤ 300 ∧ Purse h9 := by
    have et := eq_i (fb := cC (.int 11)) (j := 11) e8 rfl
    by_cases q : (v8 : Int) = 11
    · rw [decide_eq_true q] at et
      obtain ⟨a, ha, ea, la, Pa⟩ := pick_c P8 (σ := s8 S (some (.tup smalls)) (some due0) (some (.int (v7 + 1 : Nat))) (some (.int k0)) none none) 2 (by decide) rfl
      obtain ⟨b, hb, eb, lb, Pb⟩ := pick_c Pa (σ := s8 S (some (.tup smalls)) (some due0) (some (.int (v7 + 1 : Nat))) (some (.int k0)) none none) 60 (by decide) rfl
      have hab : a * b ≤ 59 := by
        have := Nat.mul_le_mul (show a ≤ 1 by omega) (show b ≤ 59 by omega)
        omega
      have ee : (300 : Int) - (a : Int) * (b : Int) = ((300 - a * b : Nat) : Int) := by
        rw [← Int.natCast_mul]
        omega
      refine ⟨300 - a * b, hb, (if_t et).trans ((asg_ok (sub_i (i := 300) (j := a * b) rfl (mul_i (mulOk_l (by omega) (by omega)) ea eb))).trans ?_), by omega, by omega, Pb⟩
      rw [ee]
      rfl
    · rw [decide_eq_false q] at et
      exact ⟨v7 + 1, h8, (if_f et).trans rfl, by omega, by omega, P8⟩
  obtain ⟨va, ha, ea, lva, Pa⟩ := pick_c P9 (σ := s8 S (some (.tup smalls)) (some due0) (some (.int n)) (some (.int k0)) none none) 8 (by decide) rfl
  obtain ⟨vb, hb, eb, lvb, Pb⟩ := pick_c Pa (σ := s8 S (some (.tup smalls)) (some due0) (some (.int n)) (some (.int k0)) none none) 3 (by decide) rfl
  obtain ⟨kb, ekb, kb1, kb2⟩ := kinds_at va lva
  have st9 : cAsg (cOp rcAdd (cIx (cTup (cCons (cC (.int 2)) (cCons (cC (.int 3)) (cCons (cC (.int 1)) (cCons (cC (.int 10)) (cCons (cC (.int 1000)) (cCons (cOp rcAdd (cOp rcPow (cC (.int 10)) (cC (.int 12))) (cC (.int 1))) (cCons (cC (.int 7)) (cCons (cC (.int 999)) cNil))))))))) (cCall ev_law_pick (cCons (cVar 1) (cCons (cC (.int 8)) cNil)))) (cCall ev_law_pick (cCons (cVar 1) (cCons (cC (.int 3)) cNil)))) 5
      (s8 S (some (.tup smalls)) (some due0) (some (.int n)) (some (.int k0)) none none) h9 = .nx (s8 S (some (.tup smalls)) (some due0) (some (.int n)) (some (.int (kb + vb))) none none) hb := by
    refine asg_ok (add_i (op_ok (r := (_, _)) (tup_ok (cs := kinds) ?_ (by decide)) ea (ix_tup (atI_n ekb))) eb)
    exact cons_ok rfl (cons_ok rfl (cons_ok rfl (cons_ok rfl (cons_ok rfl (cons_ok (add_i (pow_i (i := 10) (j := 12) (by decide) rfl rfl) rfl) (cons_ok rfl (cons_ok rfl rfl)))))))
  have K : Kk (kb + vb) := ⟨by omega, by
    have : (2 : Nat) ^ 41 = 2199023255552 := by decide
    omega⟩
  generalize kb + (vb : Int) = k at *
  have st10 : cAsg (cCall ev_law_formed (cCons (cVar 4) (cCons (cVar 5) cNil))) 3 (s8 S (some (.tup smalls)) (some due0) (some (.int n)) (some (.int k)) none none) hb = .nx (s8 S (some (.tup smalls)) (some (.tup [.int (pr k n), .int (wy k n (n - 1))])) (some (.int n)) (some (.int k)) none none) hb :=
    asg_ok ((call_ok (two_ok rfl rfl)).trans (formed_ok n1 n2 K hb))
  have st11 := chk_ok (S := S) (c2 := some (.tup smalls)) (c6 := none) (c7 := none) n1 n2 K hb
  generalize CV.tup [.int (pr k n), .int (wy k n (n - 1))] = due at *
  -- the refusals
  obtain ⟨vc, hc, ec, lvc, Pc⟩ := pick_c Pb (σ := s8 S (some (.tup smalls)) (some due) (some (.int n)) (some (.int k)) none none) 8 (by decide) rfl
  obtain ⟨o, eo, B⟩ := odds_bad vc lvc
  have st12 : cAsg (cIx (cTup (cCons (cC (.int 0)) (cCons (cNeg (cC (.int 1))) (cCons (cC (.bl true)) (cCons (cC .non) (cCons (cC (.str "3")) (cCons (cTup (cCons (cC (.int 3)) cNil)) (cCons (cNeg (cOp rcPow (cC (.int 10)) (cC (.int 20)))) (cCons (cC (.bl false)) cNil))))))))) (cCall ev_law_pick (cCons (cVar 1) (cCons (cC (.int 8)) cNil)))) 6
      (s8 S (some (.tup smalls)) (some due) (some (.int n)) (some (.int k)) none none) hb = .nx (s8 S (some (.tup smalls)) (some due) (some (.int n)) (some (.int k)) (some o) none) hc := by
    refine asg_ok (op_ok (r := (_, _)) (tup_ok (cs := odds) ?_ (by decide)) ec (ix_tup (atI_n eo)))
    exact cons_ok rfl (cons_ok (neg_i rfl) (cons_ok rfl (cons_ok rfl (cons_ok rfl (cons_ok (tup_ok (cs := [.int 3]) rfl (by decide)) (cons_ok (neg_i (pow_i (i := 10) (j := 20) (by decide) rfl rfl)) (cons_ok rfl rfl)))))))
  obtain ⟨σf, hf, ef, ⟨o7, rfl⟩, rfl⟩ := forS_inv (t := gN 7) (f := cIfS (cOr (cNot (cTst (cCall ev_law_refused (cCons (cVar 7) (cCons (cVar 6) (cCons (cC (.int 0)) (cCons (cVar 6) cNil))))))) (cNot (cTst (cCall ev_law_refused (cCons (cVar 7) (cCons (cVar 4) (cCons (cVar 6) (cCons (cVar 6) cNil)))))))) (cRet (cC (.bl false))) cNext)
    (fun _ σ h => (∃ o7, σ = s8 S (some (.tup smalls)) (some due) (some (.int n)) (some (.int k)) (some o) o7) ∧ h = hc) [.str "words", .str "ways"] 0 (s8 S (some (.tup smalls)) (some due) (some (.int n)) (some (.int k)) (some o) none) hc ⟨⟨_, rfl⟩, rfl⟩ (by
      rintro j c σ h hj ⟨⟨o7, rfl⟩, rfl⟩
      obtain ⟨w, rfl, hw⟩ : ∃ w : Str, c = .str w ∧ (w = "words" ∨ w = "ways") := by
        match j, hj with
        | 0, hj => exact ⟨_, (Option.some.inj hj).symm, .inl rfl⟩
        | 1, hj => exact ⟨_, (Option.some.inj hj).symm, .inr rfl⟩
      refine ⟨_, _, _, rfl, .inl ((if_f ((or_f (not_ok (x := true) (tst_ok ((call_ok (cons_ok rfl (cons_ok rfl (cons_ok rfl (cons_ok rfl rfl))))).trans (refused_ok hw B (ref1 B rfl) _))))).trans (not_ok (x := true) (tst_ok ((call_ok (cons_ok rfl (cons_ok rfl (cons_ok rfl (cons_ok rfl rfl))))).trans (refused_ok hw B (ref2 n1 B) _)))))).trans rfl), ⟨_, rfl⟩, rfl⟩)
  refine ⟨hf, def_rt rfl ?_⟩
  unfold b_law
  refine (seq_nx st1).trans ?_
  refine (seq_nx (asg_ok (c := .tup smalls) (h1 := h1) rfl)).trans ?_
  refine (seq_nx st3).trans ((seq_nx st4).trans ((seq_nx st5).trans ((seq_nx st6).trans ((seq_nx st7).trans ((seq_nx st8).trans ((seq_nx st9).trans ((seq_nx st10).trans ((seq_nx st11).trans ((seq_nx st12).trans ((seq_nx ((for_seq rfl rfl).trans ef)).trans rfl))))))))))
end Vm

namespace Vm
theorem small_all : ∀ i, i < 15 → ∃ n k, smalls[i]? = some (.tup [.int (n : Nat), .int k]) ∧ SmallOk n k := by
  intro i hi
  match i, hi with
  | 0, _ => exact ⟨2, 2, rfl, ⟨by decide, by decide, ⟨by decide, by decide⟩, t_2_2⟩⟩
  | 1, _ => exact ⟨1, 1, rfl, ⟨by decide, by decide, ⟨by decide, by decide⟩, t_1_1⟩⟩
  | 2, _ => exact ⟨3, 2, rfl, ⟨by decide, by decide, ⟨by decide, by decide⟩, t_3_2⟩⟩
  | 3, _ => exact ⟨2, 3, rfl, ⟨by decide, by decide, ⟨by decide, by decide⟩, t_2_3⟩⟩
  | 4, _ => exact ⟨4, 2, rfl, ⟨by decide, by decide, ⟨by decide, by decide⟩, t_4_2⟩⟩
  | 5, _ => exact ⟨1, 5, rfl, ⟨by decide, by decide, ⟨by decide, by decide⟩, t_1_5⟩⟩
  | 6, _ => exact ⟨3, 3, rfl, ⟨by decide, by decide, ⟨by decide, by decide⟩, t_3_3⟩⟩
  | 7, _ => exact ⟨5, 2, rfl, ⟨by decide, by decide, ⟨by decide, by decide⟩, t_5_2⟩⟩
  | 8, _ => exact ⟨6, 2, rfl, ⟨by decide, by decide, ⟨by decide, by decide⟩, t_6_2⟩⟩
  | 9, _ => exact ⟨4, 3, rfl, ⟨by decide, by decide, ⟨by decide, by decide⟩, t_4_3⟩⟩
  | 10, _ => exact ⟨2, 8, rfl, ⟨by decide, by decide, ⟨by decide, by decide⟩, t_2_8⟩⟩
  | 11, _ => exact ⟨3, 5, rfl, ⟨by decide, by decide, ⟨by decide, by decide⟩, t_3_5⟩⟩
  | 12, _ => exact ⟨5, 1, rfl, ⟨by decide, by decide, ⟨by decide, by decide⟩, t_5_1⟩⟩
  | 13, _ => exact ⟨7, 2, rfl, ⟨by decide, by decide, ⟨by decide, by decide⟩, t_7_2⟩⟩
  | 14, _ => exact ⟨6, 1, rfl, ⟨by decide, by decide, ⟨by decide, by decide⟩, t_6_1⟩⟩
theorem law_true : ∀ ns : List Int, ns.length ≤ 63 → ∃ h, ev_law [.fl (ns.map CV.int)] [] = .ok (.bl true) h := law_true0 small_all
end Vm

namespace Vm
open PySem PySem.Spec PyProof.Rows L2 NdefX
theorem all_mk {w : World} {K : PySem.W.Frag} {h : Heap} {mg : Str → Option Value} {fa f_tupled f_is_int f_check_least f_is_way_form f_is_way_short f_is_way f_words_of f_unrepeated_words f_words_number f_ways_number f_law_purse f_law_pick f_law_number f_law_refused f_law_words f_law_repeats f_law_tried f_law_sign f_law_formed f_law : Addr}
    {od_tupled an_tupled od_is_int an_is_int od_check_least an_check_least od_is_way_form an_is_way_form od_is_way_short an_is_way_short od_is_way an_is_way od_words_of an_words_of od_unrepeated_words an_unrepeated_words od_words_number an_words_number od_ways_number an_ways_number od_law_purse an_law_purse od_law_pick an_law_pick od_law_number an_law_number od_law_refused an_law_refused od_law_words an_law_words od_law_repeats an_law_repeats od_law_tried an_law_tried od_law_sign an_law_sign od_law_formed an_law_formed od_law an_law : Option Addr}
    {sl_tupled sl_is_int sl_check_least sl_is_way_form sl_is_way_short sl_is_way sl_words_of sl_unrepeated_words sl_words_number sl_ways_number sl_law_purse sl_law_pick sl_law_number sl_law_refused sl_law_words sl_law_repeats sl_law_tried sl_law_sign sl_law_formed sl_law : Array (Option Value)}
    {oc_tupled kV_tupled dc_tupled pm_tupled cd_tupled ct_tupled oc_is_int kV_is_int dc_is_int pm_is_int cd_is_int ct_is_int oc_check_least kV_check_least dc_check_least pm_check_least cd_check_least ct_check_least oc_is_way_form kV_is_way_form dc_is_way_form pm_is_way_form cd_is_way_form ct_is_way_form oc_is_way_short kV_is_way_short dc_is_way_short pm_is_way_short cd_is_way_short ct_is_way_short oc_is_way kV_is_way dc_is_way pm_is_way cd_is_way ct_is_way oc_words_of kV_words_of dc_words_of pm_words_of cd_words_of ct_words_of oc_unrepeated_words kV_unrepeated_words dc_unrepeated_words pm_unrepeated_words cd_unrepeated_words ct_unrepeated_words oc_words_number kV_words_number dc_words_number pm_words_number cd_words_number ct_words_number oc_ways_number kV_ways_number dc_ways_number pm_ways_number cd_ways_number ct_ways_number oc_law_purse kV_law_purse dc_law_purse pm_law_purse cd_law_purse ct_law_purse oc_law_pick kV_law_pick dc_law_pick pm_law_pick cd_law_pick ct_law_pick oc_law_number kV_law_number dc_law_number pm_law_number cd_law_number ct_law_number oc_law_refused kV_law_refused dc_law_refused pm_law_refused cd_law_refused ct_law_refused oc_law_words kV_law_words dc_law_words pm_law_words cd_law_words ct_law_words oc_law_repeats kV_law_repeats dc_law_repeats pm_law_repeats cd_law_repeats ct_law_repeats oc_law_tried kV_law_tried dc_law_tried pm_law_tried cd_law_tried ct_law_tried oc_law_sign kV_law_sign dc_law_sign pm_law_sign cd_law_sign ct_law_sign oc_law_formed kV_law_formed dc_law_formed pm_law_formed cd_law_formed ct_law_formed oc_law kV_law dc_law pm_law cd_law ct_law : Value}
    {f_init cc cda c_BesideError N_BesideError c_BadNumber N_BadNumber c_BadTable N_BadTable : Addr}
    {ocI kVI dcI pmI ctI ccl cel : Value} {odI anI cdd celd : Option Addr} {slI ccs ces : Array (Option Value)} {cvs : Array Value} {cfile : Str} {ctf : Tok} {cdD : ClassData}
    {nm_BesideError q_BesideError : Str} {bs_BesideError bm_BesideError sub_BesideError : List Value} {sn_BesideError : List Str} {ab_BesideError : Bool} {col_BesideError : Option Bool} {dd_BesideError : Option Addr} {ka_BesideError kb_BesideError kc_BesideError kd_BesideError ke_BesideError : Option Value}
    {nm_BadNumber q_BadNumber : Str} {bs_BadNumber bm_BadNumber sub_BadNumber : List Value} {sn_BadNumber : List Str} {ab_BadNumber : Bool} {col_BadNumber : Option Bool} {dd_BadNumber : Option Addr} {ka_BadNumber kb_BadNumber kc_BadNumber kd_BadNumber ke_BadNumber : Option Value}
    {nm_BadTable q_BadTable : Str} {bs_BadTable bm_BadTable sub_BadTable : List Value} {sn_BadTable : List Str} {ab_BadTable : Bool} {col_BadTable : Option Bool} {dd_BadTable : Option Addr} {ka_BadTable kb_BadTable kc_BadTable kd_BadTable ke_BadTable : Option Value}
    (X : K.In h) (G : h.Ns mainGlobals mg) (hfa : mg "law" = some (.ref fa))
    (a_tupled : PySem.W.nsIn K mainGlobals "tupled" = some (some (.ref f_tupled)))
    (l_tupled : K.lookup f_tupled = some ⟨oc_tupled, od_tupled, .func (PySem.W.fnOf "tupled" "tupled" (defArgs st_tupled) (defBody st_tupled) (defScope st_tupled) .none kV_tupled dc_tupled pm_tupled an_tupled cd_tupled ct_tupled), sl_tupled⟩)
    (c_tupled : PySem.W.codeIn K cd_tupled "tupled" = true)
    (k_tupled : PySem.W.keepIn K (.ref f_tupled) = true)
    (a_is_int : PySem.W.nsIn K mainGlobals "is_int" = some (some (.ref f_is_int)))
    (l_is_int : K.lookup f_is_int = some ⟨oc_is_int, od_is_int, .func (PySem.W.fnOf "is_int" "is_int" (defArgs st_is_int) (defBody st_is_int) (defScope st_is_int) .none kV_is_int dc_is_int pm_is_int an_is_int cd_is_int ct_is_int), sl_is_int⟩)
    (c_is_int : PySem.W.codeIn K cd_is_int "is_int" = true)
    (k_is_int : PySem.W.keepIn K (.ref f_is_int) = true)
    (a_check_least : PySem.W.nsIn K mainGlobals "check_least" = some (some (.ref f_check_least)))
    (l_check_least : K.lookup f_check_least = some ⟨oc_check_least, od_check_least, .func (PySem.W.fnOf "check_least" "check_least" (defArgs st_check_least) (defBody st_check_least) (defScope st_check_least) .none kV_check_least dc_check_least pm_check_least an_check_least cd_check_least ct_check_least), sl_check_least⟩)
    (c_check_least : PySem.W.codeIn K cd_check_least "check_least" = true)
    (k_check_least : PySem.W.keepIn K (.ref f_check_least) = true)
    (a_is_way_form : PySem.W.nsIn K mainGlobals "is_way_form" = some (some (.ref f_is_way_form)))
    (l_is_way_form : K.lookup f_is_way_form = some ⟨oc_is_way_form, od_is_way_form, .func (PySem.W.fnOf "is_way_form" "is_way_form" (defArgs st_is_way_form) (defBody st_is_way_form) (defScope st_is_way_form) .none kV_is_way_form dc_is_way_form pm_is_way_form an_is_way_form cd_is_way_form ct_is_way_form), sl_is_way_form⟩)
    (c_is_way_form : PySem.W.codeIn K cd_is_way_form "is_way_form" = true)
    (k_is_way_form : PySem.W.keepIn K (.ref f_is_way_form) = true)
    (a_is_way_short : PySem.W.nsIn K mainGlobals "is_way_short" = some (some (.ref f_is_way_short)))
    (l_is_way_short : K.lookup f_is_way_short = some ⟨oc_is_way_short, od_is_way_short, .func (PySem.W.fnOf "is_way_short" "is_way_short" (defArgs st_is_way_short) (defBody st_is_way_short) (defScope st_is_way_short) .none kV_is_way_short dc_is_way_short pm_is_way_short an_is_way_short cd_is_way_short ct_is_way_short), sl_is_way_short⟩)
    (c_is_way_short : PySem.W.codeIn K cd_is_way_short "is_way_short" = true)
    (k_is_way_short : PySem.W.keepIn K (.ref f_is_way_short) = true)
    (a_is_way : PySem.W.nsIn K mainGlobals "is_way" = some (some (.ref f_is_way)))
    (l_is_way : K.lookup f_is_way = some ⟨oc_is_way, od_is_way, .func (PySem.W.fnOf "is_way" "is_way" (defArgs st_is_way) (defBody st_is_way) (defScope st_is_way) .none kV_is_way dc_is_way pm_is_way an_is_way cd_is_way ct_is_way), sl_is_way⟩)
    (c_is_way : PySem.W.codeIn K cd_is_way "is_way" = true)
    (k_is_way : PySem.W.keepIn K (.ref f_is_way) = true)
    (a_words_of : PySem.W.nsIn K mainGlobals "words_of" = some (some (.ref f_words_of)))
    (l_words_of : K.lookup f_words_of = some ⟨oc_words_of, od_words_of, .func (PySem.W.fnOf "words_of" "words_of" (defArgs st_words_of) (defBody st_words_of) (defScope st_words_of) .none kV_words_of dc_words_of pm_words_of an_words_of cd_words_of ct_words_of), sl_words_of⟩)
    (c_words_of : PySem.W.codeIn K cd_words_of "words_of" = true)
    (k_words_of : PySem.W.keepIn K (.ref f_words_of) = true)
    (a_unrepeated_words : PySem.W.nsIn K mainGlobals "unrepeated_words" = some (some (.ref f_unrepeated_words)))
    (l_unrepeated_words : K.lookup f_unrepeated_words = some ⟨oc_unrepeated_words, od_unrepeated_words, .func (PySem.W.fnOf "unrepeated_words" "unrepeated_words" (defArgs st_unrepeated_words) (defBody st_unrepeated_words) (defScope st_unrepeated_words) .none kV_unrepeated_words dc_unrepeated_words pm_unrepeated_words an_unrepeated_words cd_unrepeated_words ct_unrepeated_words), sl_unrepeated_words⟩)
    (c_unrepeated_words : PySem.W.codeIn K cd_unrepeated_words "unrepeated_words" = true)
    (k_unrepeated_words : PySem.W.keepIn K (.ref f_unrepeated_words) = true)
    (a_words_number : PySem.W.nsIn K mainGlobals "words_number" = some (some (.ref f_words_number)))
    (l_words_number : K.lookup f_words_number = some ⟨oc_words_number, od_words_number, .func (PySem.W.fnOf "words_number" "words_number" (defArgs st_words_number) (defBody st_words_number) (defScope st_words_number) .none kV_words_number dc_words_number pm_words_number an_words_number cd_words_number ct_words_number), sl_words_number⟩)
    (c_words_number : PySem.W.codeIn K cd_words_number "words_number" = true)
    (k_words_number : PySem.W.keepIn K (.ref f_words_number) = true)
    (a_ways_number : PySem.W.nsIn K mainGlobals "ways_number" = some (some (.ref f_ways_number)))
    (l_ways_number : K.lookup f_ways_number = some ⟨oc_ways_number, od_ways_number, .func (PySem.W.fnOf "ways_number" "ways_number" (defArgs st_ways_number) (defBody st_ways_number) (defScope st_ways_number) .none kV_ways_number dc_ways_number pm_ways_number an_ways_number cd_ways_number ct_ways_number), sl_ways_number⟩)
    (c_ways_number : PySem.W.codeIn K cd_ways_number "ways_number" = true)
    (k_ways_number : PySem.W.keepIn K (.ref f_ways_number) = true)
    (a_law_purse : PySem.W.nsIn K mainGlobals "_law_purse" = some (some (.ref f_law_purse)))
    (l_law_purse : K.lookup f_law_purse = some ⟨oc_law_purse, od_law_purse, .func (PySem.W.fnOf "_law_purse" "_law_purse" (defArgs st_law_purse) (defBody st_law_purse) (defScope st_law_purse) .none kV_law_purse dc_law_purse pm_law_purse an_law_purse cd_law_purse ct_law_purse), sl_law_purse⟩)
    (c_law_purse : PySem.W.codeIn K cd_law_purse "_law_purse" = true)
    (k_law_purse : PySem.W.keepIn K (.ref f_law_purse) = true)
    (a_law_pick : PySem.W.nsIn K mainGlobals "_law_pick" = some (some (.ref f_law_pick)))
    (l_law_pick : K.lookup f_law_pick = some ⟨oc_law_pick, od_law_pick, .func (PySem.W.fnOf "_law_pick" "_law_pick" (defArgs st_law_pick) (defBody st_law_pick) (defScope st_law_pick) .none kV_law_pick dc_law_pick pm_law_pick an_law_pick cd_law_pick ct_law_pick), sl_law_pick⟩)
    (c_law_pick : PySem.W.codeIn K cd_law_pick "_law_pick" = true)
    (k_law_pick : PySem.W.keepIn K (.ref f_law_pick) = true)
    (a_law_number : PySem.W.nsIn K mainGlobals "_law_number" = some (some (.ref f_law_number)))
    (l_law_number : K.lookup f_law_number = some ⟨oc_law_number, od_law_number, .func (PySem.W.fnOf "_law_number" "_law_number" (defArgs st_law_number) (defBody st_law_number) (defScope st_law_number) .none kV_law_number dc_law_number pm_law_number an_law_number cd_law_number ct_law_number), sl_law_number⟩)
    (c_law_number : PySem.W.codeIn K cd_law_number "_law_number" = true)
    (k_law_number : PySem.W.keepIn K (.ref f_law_number) = true)
    (a_law_refused : PySem.W.nsIn K mainGlobals "_law_refused" = some (some (.ref f_law_refused)))
    (l_law_refused : K.lookup f_law_refused = some ⟨oc_law_refused, od_law_refused, .func (PySem.W.fnOf "_law_refused" "_law_refused" (defArgs st_law_refused) (defBody st_law_refused) (defScope st_law_refused) .none kV_law_refused dc_law_refused pm_law_refused an_law_refused cd_law_refused ct_law_refused), sl_law_refused⟩)
    (c_law_refused : PySem.W.codeIn K cd_law_refused "_law_refused" = true)
    (k_law_refused : PySem.W.keepIn K (.ref f_law_refused) = true)
    (a_law_words : PySem.W.nsIn K mainGlobals "_law_words" = some (some (.ref f_law_words)))
    (l_law_words : K.lookup f_law_words = some ⟨oc_law_words, od_law_words, .func (PySem.W.fnOf "_law_words" "_law_words" (defArgs st_law_words) (defBody st_law_words) (defScope st_law_words) .none kV_law_words dc_law_words pm_law_words an_law_words cd_law_words ct_law_words), sl_law_words⟩)
    (c_law_words : PySem.W.codeIn K cd_law_words "_law_words" = true)
    (k_law_words : PySem.W.keepIn K (.ref f_law_words) = true)
    (a_law_repeats : PySem.W.nsIn K mainGlobals "_law_repeats" = some (some (.ref f_law_repeats)))
    (l_law_repeats : K.lookup f_law_repeats = some ⟨oc_law_repeats, od_law_repeats, .func (PySem.W.fnOf "_law_repeats" "_law_repeats" (defArgs st_law_repeats) (defBody st_law_repeats) (defScope st_law_repeats) .none kV_law_repeats dc_law_repeats pm_law_repeats an_law_repeats cd_law_repeats ct_law_repeats), sl_law_repeats⟩)
    (c_law_repeats : PySem.W.codeIn K cd_law_repeats "_law_repeats" = true)
    (k_law_repeats : PySem.W.keepIn K (.ref f_law_repeats) = true)
    (a_law_tried : PySem.W.nsIn K mainGlobals "_law_tried" = some (some (.ref f_law_tried)))
    (l_law_tried : K.lookup f_law_tried = some ⟨oc_law_tried, od_law_tried, .func (PySem.W.fnOf "_law_tried" "_law_tried" (defArgs st_law_tried) (defBody st_law_tried) (defScope st_law_tried) .none kV_law_tried dc_law_tried pm_law_tried an_law_tried cd_law_tried ct_law_tried), sl_law_tried⟩)
    (c_law_tried : PySem.W.codeIn K cd_law_tried "_law_tried" = true)
    (k_law_tried : PySem.W.keepIn K (.ref f_law_tried) = true)
    (a_law_sign : PySem.W.nsIn K mainGlobals "_law_sign" = some (some (.ref f_law_sign)))
    (l_law_sign : K.lookup f_law_sign = some ⟨oc_law_sign, od_law_sign, .func (PySem.W.fnOf "_law_sign" "_law_sign" (defArgs st_law_sign) (defBody st_law_sign) (defScope st_law_sign) .none kV_law_sign dc_law_sign pm_law_sign an_law_sign cd_law_sign ct_law_sign), sl_law_sign⟩)
    (c_law_sign : PySem.W.codeIn K cd_law_sign "_law_sign" = true)
    (k_law_sign : PySem.W.keepIn K (.ref f_law_sign) = true)
    (a_law_formed : PySem.W.nsIn K mainGlobals "_law_formed" = some (some (.ref f_law_formed)))
    (l_law_formed : K.lookup f_law_formed = some ⟨oc_law_formed, od_law_formed, .func (PySem.W.fnOf "_law_formed" "_law_formed" (defArgs st_law_formed) (defBody st_law_formed) (defScope st_law_formed) .none kV_law_formed dc_law_formed pm_law_formed an_law_formed cd_law_formed ct_law_formed), sl_law_formed⟩)
    (c_law_formed : PySem.W.codeIn K cd_law_formed "_law_formed" = true)
    (k_law_formed : PySem.W.keepIn K (.ref f_law_formed) = true)
    (a_law : PySem.W.nsIn K mainGlobals "law" = some (some (.ref f_law)))
    (l_law : K.lookup f_law = some ⟨oc_law, od_law, .func (PySem.W.fnOf "law" "law" (defArgs st_law) (defBody st_law) (defScope st_law) .none kV_law dc_law pm_law an_law cd_law ct_law), sl_law⟩)
    (c_law : PySem.W.codeIn K cd_law "law" = true)
    (k_law : PySem.W.keepIn K (.ref f_law) = true)
    (z_bool : PySem.W.nsIn K mainGlobals "bool" = some none)
    (z_int : PySem.W.nsIn K mainGlobals "int" = some none)
    (z_isinstance : PySem.W.nsIn K mainGlobals "isinstance" = some none)
    (z_len : PySem.W.nsIn K mainGlobals "len" = some none)
    (z_list : PySem.W.nsIn K mainGlobals "list" = some none)
    (z_range : PySem.W.nsIn K mainGlobals "range" = some none)
    (z_repr : PySem.W.nsIn K mainGlobals "repr" = some none)
    (z_sum : PySem.W.nsIn K mainGlobals "sum" = some none)
    (z_super : PySem.W.nsIn K mainGlobals "super" = some none)
    (z_tuple : PySem.W.nsIn K mainGlobals "tuple" = some none)
    (n_BesideError : PySem.W.nsIn K mainGlobals "BesideError" = some (some (.ref c_BesideError)))
    (n_BadNumber : PySem.W.nsIn K mainGlobals "BadNumber" = some (some (.ref c_BadNumber)))
    (n_BadTable : PySem.W.nsIn K mainGlobals "BadTable" = some (some (.ref c_BadTable)))
    (ini_BesideError : PySem.W.findIn K (.ref c_BesideError) "__init__" = some (some (.ref f_init)))
    (ini_BadNumber : PySem.W.findIn K (.ref c_BadNumber) "__init__" = some (some (.ref f_init)))
    (ini_BadTable : PySem.W.findIn K (.ref c_BadTable) "__init__" = some (some (.ref f_init)))
    (lI : K.lookup f_init = some ⟨ocI, odI, .func (PySem.W.fnX "__init__" "BesideError.__init__" (defArgs st_init) (defBody st_init) (defScope st_init) [("__class__", cc)] .none kVI dcI pmI anI (.ref cda) ctI), slI⟩)
    (cI : PySem.W.codeIn K (.ref cda) "BesideError.__init__" = true)
    (lC : K.lookup cda = some ⟨ccl, cdd, .fields cvs, ccs⟩)
    (vC : cvs[2]? = some (.str cfile ctf))
    (fC : ((PySem.Challenge.pw_ofthecode_k24_ways_counted.main.file : Str) == cfile) = true)
    (lD : K.lookup cc = some ⟨cel, celd, .cell (some (.ref c_BesideError)), ces⟩)
    (hD : PySem.W.clsIn K c_BesideError = some cdD)
    (tfI : PySem.W.typeIn K (.ref f_init) = some (.type "function"))
    (any : PySem.W.nsIn K cStatics "thirdparty.any" = some none)
    (cl_BesideError : K.lookup c_BesideError = some (excClassObj nm_BesideError q_BesideError c_BesideError N_BesideError bs_BesideError bm_BesideError true sn_BesideError sub_BesideError ab_BesideError col_BesideError dd_BesideError ka_BesideError kb_BesideError kc_BesideError kd_BesideError ke_BesideError "ValueError.__new__"))
    (ve_BesideError : PySem.HandSPX.refsVE bm_BesideError = true)
    (sa_BesideError : PySem.W.findIn K (.ref c_BesideError) "__setattr__" = some (some (.builtin "object.__setattr__")))
    (ex_BesideError : PySem.W.subIn K (.ref c_BesideError) (.type "BaseException") = some true)
    (ty_BesideError : PySem.W.typeIn K (.ref c_BesideError) = some (.type "type"))
    (kC_BesideError : PySem.W.keepIn K (.ref c_BesideError) = true)
    (mr_BesideError : PySem.W.mroIn K c_BesideError (.ref c_BesideError) = some true)
    (su_BesideError : PySem.W.ks_superIn K c_BesideError c_BesideError "__init__" = some (some (.builtin "ValueError.__init__")))
    (vv_BesideError : PySem.W.subIn K (.ref c_BesideError) (.type "ValueError") = some true)
    (at_BesideError : PySem.W.findIn K (.ref c_BesideError) "at" = some none)
    (ga_BesideError : PySem.W.findIn K (.ref c_BesideError) "__getattribute__" = some (some (.builtin "BaseException.__getattribute__")))
    (gg_BesideError : PySem.W.findIn K (.ref c_BesideError) "__getattr__" = some none)
    (hd_BesideError : PySem.W.hasDictIn K c_BesideError = true)
    (ca_BesideError : PySem.W.findIn K (.ref c_BesideError) "__class__" = some (some (.builtin "object.__class__")))
    (mo_BesideError : PySem.W.mroIn K c_BesideError (.type "object") = some true)
    (sb_BesideError_BadNumber : PySem.W.subIn K (.ref c_BesideError) (.ref c_BadNumber) = some false)
    (sb_BesideError_BadTable : PySem.W.subIn K (.ref c_BesideError) (.ref c_BadTable) = some false)
    (sb_BesideError_BesideError : PySem.W.subIn K (.ref c_BesideError) (.ref c_BesideError) = some true)
    (ki_BesideError_BadTable : PySem.W.kitOne K (.ref c_BesideError) (.ref c_BadTable) = some false)
    (ki_BesideError_BesideError : PySem.W.kitOne K (.ref c_BesideError) (.ref c_BesideError) = some true)
    (cl_BadNumber : K.lookup c_BadNumber = some (excClassObj nm_BadNumber q_BadNumber c_BadNumber N_BadNumber bs_BadNumber bm_BadNumber true sn_BadNumber sub_BadNumber ab_BadNumber col_BadNumber dd_BadNumber ka_BadNumber kb_BadNumber kc_BadNumber kd_BadNumber ke_BadNumber "ValueError.__new__"))
    (ve_BadNumber : PySem.HandSPX.refsVE bm_BadNumber = true)
    (sa_BadNumber : PySem.W.findIn K (.ref c_BadNumber) "__setattr__" = some (some (.builtin "object.__setattr__")))
    (ex_BadNumber : PySem.W.subIn K (.ref c_BadNumber) (.type "BaseException") = some true)
    (ty_BadNumber : PySem.W.typeIn K (.ref c_BadNumber) = some (.type "type"))
    (kC_BadNumber : PySem.W.keepIn K (.ref c_BadNumber) = true)
    (mr_BadNumber : PySem.W.mroIn K c_BadNumber (.ref c_BesideError) = some true)
    (su_BadNumber : PySem.W.ks_superIn K c_BadNumber c_BesideError "__init__" = some (some (.builtin "ValueError.__init__")))
    (vv_BadNumber : PySem.W.subIn K (.ref c_BadNumber) (.type "ValueError") = some true)
    (at_BadNumber : PySem.W.findIn K (.ref c_BadNumber) "at" = some none)
    (ga_BadNumber : PySem.W.findIn K (.ref c_BadNumber) "__getattribute__" = some (some (.builtin "BaseException.__getattribute__")))
    (gg_BadNumber : PySem.W.findIn K (.ref c_BadNumber) "__getattr__" = some none)
    (hd_BadNumber : PySem.W.hasDictIn K c_BadNumber = true)
    (ca_BadNumber : PySem.W.findIn K (.ref c_BadNumber) "__class__" = some (some (.builtin "object.__class__")))
    (mo_BadNumber : PySem.W.mroIn K c_BadNumber (.type "object") = some true)
    (sb_BadNumber_BadNumber : PySem.W.subIn K (.ref c_BadNumber) (.ref c_BadNumber) = some true)
    (sb_BadNumber_BadTable : PySem.W.subIn K (.ref c_BadNumber) (.ref c_BadTable) = some false)
    (sb_BadNumber_BesideError : PySem.W.subIn K (.ref c_BadNumber) (.ref c_BesideError) = some true)
    (ki_BadNumber_BadTable : PySem.W.kitOne K (.ref c_BadNumber) (.ref c_BadTable) = some false)
    (ki_BadNumber_BesideError : PySem.W.kitOne K (.ref c_BadNumber) (.ref c_BesideError) = some true)
    (cl_BadTable : K.lookup c_BadTable = some (excClassObj nm_BadTable q_BadTable c_BadTable N_BadTable bs_BadTable bm_BadTable true sn_BadTable sub_BadTable ab_BadTable col_BadTable dd_BadTable ka_BadTable kb_BadTable kc_BadTable kd_BadTable ke_BadTable "ValueError.__new__"))
    (ve_BadTable : PySem.HandSPX.refsVE bm_BadTable = true)
    (sa_BadTable : PySem.W.findIn K (.ref c_BadTable) "__setattr__" = some (some (.builtin "object.__setattr__")))
    (ex_BadTable : PySem.W.subIn K (.ref c_BadTable) (.type "BaseException") = some true)
    (ty_BadTable : PySem.W.typeIn K (.ref c_BadTable) = some (.type "type"))
    (kC_BadTable : PySem.W.keepIn K (.ref c_BadTable) = true)
    (mr_BadTable : PySem.W.mroIn K c_BadTable (.ref c_BesideError) = some true)
    (su_BadTable : PySem.W.ks_superIn K c_BadTable c_BesideError "__init__" = some (some (.builtin "ValueError.__init__")))
    (vv_BadTable : PySem.W.subIn K (.ref c_BadTable) (.type "ValueError") = some true)
    (at_BadTable : PySem.W.findIn K (.ref c_BadTable) "at" = some none)
    (ga_BadTable : PySem.W.findIn K (.ref c_BadTable) "__getattribute__" = some (some (.builtin "BaseException.__getattribute__")))
    (gg_BadTable : PySem.W.findIn K (.ref c_BadTable) "__getattr__" = some none)
    (hd_BadTable : PySem.W.hasDictIn K c_BadTable = true)
    (ca_BadTable : PySem.W.findIn K (.ref c_BadTable) "__class__" = some (some (.builtin "object.__class__")))
    (mo_BadTable : PySem.W.mroIn K c_BadTable (.type "object") = some true)
    (sb_BadTable_BadNumber : PySem.W.subIn K (.ref c_BadTable) (.ref c_BadNumber) = some false)
    (sb_BadTable_BadTable : PySem.W.subIn K (.ref c_BadTable) (.ref c_BadTable) = some true)
    (sb_BadTable_BesideError : PySem.W.subIn K (.ref c_BadTable) (.ref c_BesideError) = some true)
    (ki_BadTable_BadTable : PySem.W.kitOne K (.ref c_BadTable) (.ref c_BadTable) = some true)
    (ki_BadTable_BesideError : PySem.W.kitOne K (.ref c_BadTable) (.ref c_BesideError) = some true)
    (spc : PySem.W.specialIn K (.builtin "object.__class__") "__get__" = some (some (.builtin "getset_descriptor.__get__")))
    (tkc : PySem.W.takesIn K (.builtin "object.__class__") = some true) :
    ∃ (fd : FuncData) (g : Gc), g.K = K ∧ (∀ (s : Shared) (v : Value), BindsTo s fd ⟨[v], []⟩ [("script", v)]) ∧ ∀ base : Heap, K.In base → base.Ns mainGlobals mg → FnV PySem.Challenge.pw_ofthecode_k24_ways_counted w K mg base 7 fa fd ["script"] (spV g ev_law) := by
  have e := hfa.symm.trans (PySem.W.mg_of X G a_law)
  cases e
  have F_tupled := fun_mk (st := st_tupled) l_tupled c_tupled k_tupled
  have b_tupled := F_tupled.binds (ps := ["x"]) fun _ _ _ _ _ _ us hl => match us, hl with | [_], _ => rfl
  have F_is_int := fun_mk (st := st_is_int) l_is_int c_is_int k_is_int
  have b_is_int := F_is_int.binds (ps := ["x"]) fun _ _ _ _ _ _ us hl => match us, hl with | [_], _ => rfl
  have F_check_least := fun_mk (st := st_check_least) l_check_least c_check_least k_check_least
  have b_check_least := F_check_least.binds (ps := ["x", "least"]) fun _ _ _ _ _ _ us hl => match us, hl with | [_, _], _ => rfl
  have F_is_way_form := fun_mk (st := st_is_way_form) l_is_way_form c_is_way_form k_is_way_form
  have b_is_way_form := F_is_way_form.binds (ps := ["x"]) fun _ _ _ _ _ _ us hl => match us, hl with | [_], _ => rfl
  have F_is_way_short := fun_mk (st := st_is_way_short) l_is_way_short c_is_way_short k_is_way_short
  have b_is_way_short := F_is_way_short.binds (ps := ["t", "shown"]) fun _ _ _ _ _ _ us hl => match us, hl with | [_, _], _ => rfl
  have F_is_way := fun_mk (st := st_is_way) l_is_way c_is_way k_is_way
  have b_is_way := F_is_way.binds (ps := ["way"]) fun _ _ _ _ _ _ us hl => match us, hl with | [_], _ => rfl
  have F_words_of := fun_mk (st := st_words_of) l_words_of c_words_of k_words_of
  have b_words_of := F_words_of.binds (ps := ["many", "length"]) fun _ _ _ _ _ _ us hl => match us, hl with | [_, _], _ => rfl
  have F_unrepeated_words := fun_mk (st := st_unrepeated_words) l_unrepeated_words c_unrepeated_words k_unrepeated_words
  have b_unrepeated_words := F_unrepeated_words.binds (ps := ["n", "k"]) fun _ _ _ _ _ _ us hl => match us, hl with | [_, _], _ => rfl
  have F_words_number := fun_mk (st := st_words_number) l_words_number c_words_number k_words_number
  have b_words_number := F_words_number.binds (ps := ["n", "k"]) fun _ _ _ _ _ _ us hl => match us, hl with | [_, _], _ => rfl
  have F_ways_number := fun_mk (st := st_ways_number) l_ways_number c_ways_number k_ways_number
  have b_ways_number := F_ways_number.binds (ps := ["n", "k"]) fun _ _ _ _ _ _ us hl => match us, hl with | [_, _], _ => rfl
  have F_law_purse := fun_mk (st := st_law_purse) l_law_purse c_law_purse k_law_purse
  have b_law_purse := F_law_purse.binds (ps := ["script"]) fun _ _ _ _ _ _ us hl => match us, hl with | [_], _ => rfl
  have F_law_pick := fun_mk (st := st_law_pick) l_law_pick c_law_pick k_law_pick
  have b_law_pick := F_law_pick.binds (ps := ["purse", "many"]) fun _ _ _ _ _ _ us hl => match us, hl with | [_, _], _ => rfl
  have F_law_number := fun_mk (st := st_law_number) l_law_number c_law_number k_law_number
  have b_law_number := F_law_number.binds (ps := ["told", "due"]) fun _ _ _ _ _ _ us hl => match us, hl with | [_, _], _ => rfl
  have F_law_refused := fun_mk (st := st_law_refused) l_law_refused c_law_refused k_law_refused
  have b_law_refused := F_law_refused.binds (ps := ["which", "n", "k", "kept"]) fun _ _ _ _ _ _ us hl => match us, hl with | [_, _, _, _], _ => rfl
  have F_law_words := fun_mk (st := st_law_words) l_law_words c_law_words k_law_words
  have b_law_words := F_law_words.binds (ps := ["n", "k"]) fun _ _ _ _ _ _ us hl => match us, hl with | [_, _], _ => rfl
  have F_law_repeats := fun_mk (st := st_law_repeats) l_law_repeats c_law_repeats k_law_repeats
  have b_law_repeats := F_law_repeats.binds (ps := ["word"]) fun _ _ _ _ _ _ us hl => match us, hl with | [_], _ => rfl
  have F_law_tried := fun_mk (st := st_law_tried) l_law_tried c_law_tried k_law_tried
  have b_law_tried := F_law_tried.binds (ps := ["n", "k"]) fun _ _ _ _ _ _ us hl => match us, hl with | [_, _], _ => rfl
  have F_law_sign := fun_mk (st := st_law_sign) l_law_sign c_law_sign k_law_sign
  have b_law_sign := F_law_sign.binds (ps := ["n"]) fun _ _ _ _ _ _ us hl => match us, hl with | [_], _ => rfl
  have F_law_formed := fun_mk (st := st_law_formed) l_law_formed c_law_formed k_law_formed
  have b_law_formed := F_law_formed.binds (ps := ["n", "k"]) fun _ _ _ _ _ _ us hl => match us, hl with | [_, _], _ => rfl
  have F_law := fun_mk (st := st_law) l_law c_law k_law
  have b_law := F_law.binds (ps := ["script"]) fun _ _ _ _ _ _ us hl => match us, hl with | [_], _ => rfl
  let d : Ad := ⟨f_tupled, (PySem.W.fnOf "tupled" "tupled" (defArgs st_tupled) (defBody st_tupled) (defScope st_tupled) .none kV_tupled dc_tupled pm_tupled an_tupled cd_tupled ct_tupled), f_is_int, (PySem.W.fnOf "is_int" "is_int" (defArgs st_is_int) (defBody st_is_int) (defScope st_is_int) .none kV_is_int dc_is_int pm_is_int an_is_int cd_is_int ct_is_int), f_check_least, (PySem.W.fnOf "check_least" "check_least" (defArgs st_check_least) (defBody st_check_least) (defScope st_check_least) .none kV_check_least dc_check_least pm_check_least an_check_least cd_check_least ct_check_least), f_is_way_form, (PySem.W.fnOf "is_way_form" "is_way_form" (defArgs st_is_way_form) (defBody st_is_way_form) (defScope st_is_way_form) .none kV_is_way_form dc_is_way_form pm_is_way_form an_is_way_form cd_is_way_form ct_is_way_form), f_is_way_short, (PySem.W.fnOf "is_way_short" "is_way_short" (defArgs st_is_way_short) (defBody st_is_way_short) (defScope st_is_way_short) .none kV_is_way_short dc_is_way_short pm_is_way_short an_is_way_short cd_is_way_short ct_is_way_short), f_is_way, (PySem.W.fnOf "is_way" "is_way" (defArgs st_is_way) (defBody st_is_way) (defScope st_is_way) .none kV_is_way dc_is_way pm_is_way an_is_way cd_is_way ct_is_way), f_words_of, (PySem.W.fnOf "words_of" "words_of" (defArgs st_words_of) (defBody st_words_of) (defScope st_words_of) .none kV_words_of dc_words_of pm_words_of an_words_of cd_words_of ct_words_of), f_unrepeated_words, (PySem.W.fnOf "unrepeated_words" "unrepeated_words" (defArgs st_unrepeated_words) (defBody st_unrepeated_words) (defScope st_unrepeated_words) .none kV_unrepeated_words dc_unrepeated_words pm_unrepeated_words an_unrepeated_words cd_unrepeated_words ct_unrepeated_words), f_words_number, (PySem.W.fnOf "words_number" "words_number" (defArgs st_words_number) (defBody st_words_number) (defScope st_words_number) .none kV_words_number dc_words_number pm_words_number an_words_number cd_words_number ct_words_number), f_ways_number, (PySem.W.fnOf "ways_number" "ways_number" (defArgs st_ways_number) (defBody st_ways_number) (defScope st_ways_number) .none kV_ways_number dc_ways_number pm_ways_number an_ways_number cd_ways_number ct_ways_number), f_law_purse, (PySem.W.fnOf "_law_purse" "_law_purse" (defArgs st_law_purse) (defBody st_law_purse) (defScope st_law_purse) .none kV_law_purse dc_law_purse pm_law_purse an_law_purse cd_law_purse ct_law_purse), f_law_pick, (PySem.W.fnOf "_law_pick" "_law_pick" (defArgs st_law_pick) (defBody st_law_pick) (defScope st_law_pick) .none kV_law_pick dc_law_pick pm_law_pick an_law_pick cd_law_pick ct_law_pick), f_law_number, (PySem.W.fnOf "_law_number" "_law_number" (defArgs st_law_number) (defBody st_law_number) (defScope st_law_number) .none kV_law_number dc_law_number pm_law_number an_law_number cd_law_number ct_law_number), f_law_refused, (PySem.W.fnOf "_law_refused" "_law_refused" (defArgs st_law_refused) (defBody st_law_refused) (defScope st_law_refused) .none kV_law_refused dc_law_refused pm_law_refused an_law_refused cd_law_refused ct_law_refused), f_law_words, (PySem.W.fnOf "_law_words" "_law_words" (defArgs st_law_words) (defBody st_law_words) (defScope st_law_words) .none kV_law_words dc_law_words pm_law_words an_law_words cd_law_words ct_law_words), f_law_repeats, (PySem.W.fnOf "_law_repeats" "_law_repeats" (defArgs st_law_repeats) (defBody st_law_repeats) (defScope st_law_repeats) .none kV_law_repeats dc_law_repeats pm_law_repeats an_law_repeats cd_law_repeats ct_law_repeats), f_law_tried, (PySem.W.fnOf "_law_tried" "_law_tried" (defArgs st_law_tried) (defBody st_law_tried) (defScope st_law_tried) .none kV_law_tried dc_law_tried pm_law_tried an_law_tried cd_law_tried ct_law_tried), f_law_sign, (PySem.W.fnOf "_law_sign" "_law_sign" (defArgs st_law_sign) (defBody st_law_sign) (defScope st_law_sign) .none kV_law_sign dc_law_sign pm_law_sign an_law_sign cd_law_sign ct_law_sign), f_law_formed, (PySem.W.fnOf "_law_formed" "_law_formed" (defArgs st_law_formed) (defBody st_law_formed) (defScope st_law_formed) .none kV_law_formed dc_law_formed pm_law_formed an_law_formed cd_law_formed ct_law_formed), fa, (PySem.W.fnOf "law" "law" (defArgs st_law) (defBody st_law) (defScope st_law) .none kV_law dc_law pm_law an_law cd_law ct_law), c_BesideError, c_BadNumber, c_BadTable, f_init, cc, cda⟩
  have s_BesideError : SupC K f_init c_BesideError c_BesideError := ⟨⟨⟨_, _, _, _, _, _, _, _, _, _, _, _, _, _, _, cl_BesideError, ve_BesideError⟩, sa_BesideError, ex_BesideError, ty_BesideError, kC_BesideError⟩, mr_BesideError, su_BesideError, vv_BesideError, at_BesideError, ini_BesideError, tfI⟩
  have s_BadNumber : SupC K f_init c_BesideError c_BadNumber := ⟨⟨⟨_, _, _, _, _, _, _, _, _, _, _, _, _, _, _, cl_BadNumber, ve_BadNumber⟩, sa_BadNumber, ex_BadNumber, ty_BadNumber, kC_BadNumber⟩, mr_BadNumber, su_BadNumber, vv_BadNumber, at_BadNumber, ini_BadNumber, tfI⟩
  have s_BadTable : SupC K f_init c_BesideError c_BadTable := ⟨⟨⟨_, _, _, _, _, _, _, _, _, _, _, _, _, _, _, cl_BadTable, ve_BadTable⟩, sa_BadTable, ex_BadTable, ty_BadTable, kC_BadTable⟩, mr_BadTable, su_BadTable, vv_BadTable, at_BadTable, ini_BadTable, tfI⟩
  have SK : SupK PySem.Challenge.pw_ofthecode_k24_ways_counted K st_init "BesideError.__init__" f_init cc cda c_BesideError := ⟨⟨_, _, _, _, _, _, _, _, lI⟩, cI, ⟨_, _, _, _, _, _, lC, vC, fC⟩, ⟨_, _, _, lD⟩, ⟨_, hD⟩, any, nscope_by (by decide +kernel),
    fun kV doc pm an ct us hl => match us, hl with | [_, _], _ => rfl, ⟨_, rfl, rfl⟩, by decide +kernel, by decide +kernel, by decide +kernel, by decide +kernel⟩
  have T : Tx PySem.Challenge.pw_ofthecode_k24_ways_counted K mg d := ⟨F_tupled,
    PySem.W.mg_of X G a_tupled,
    b_tupled,
    F_is_int,
    PySem.W.mg_of X G a_is_int,
    b_is_int,
    F_check_least,
    PySem.W.mg_of X G a_check_least,
    b_check_least,
    F_is_way_form,
    PySem.W.mg_of X G a_is_way_form,
    b_is_way_form,
    F_is_way_short,
    PySem.W.mg_of X G a_is_way_short,
    b_is_way_short,
    F_is_way,
    PySem.W.mg_of X G a_is_way,
    b_is_way,
    F_words_of,
    PySem.W.mg_of X G a_words_of,
    b_words_of,
    F_unrepeated_words,
    PySem.W.mg_of X G a_unrepeated_words,
    b_unrepeated_words,
    F_words_number,
    PySem.W.mg_of X G a_words_number,
    b_words_number,
    F_ways_number,
    PySem.W.mg_of X G a_ways_number,
    b_ways_number,
    F_law_purse,
    PySem.W.mg_of X G a_law_purse,
    b_law_purse,
    F_law_pick,
    PySem.W.mg_of X G a_law_pick,
    b_law_pick,
    F_law_number,
    PySem.W.mg_of X G a_law_number,
    b_law_number,
    F_law_refused,
    PySem.W.mg_of X G a_law_refused,
    b_law_refused,
    F_law_words,
    PySem.W.mg_of X G a_law_words,
    b_law_words,
    F_law_repeats,
    PySem.W.mg_of X G a_law_repeats,
    b_law_repeats,
    F_law_tried,
    PySem.W.mg_of X G a_law_tried,
    b_law_tried,
    F_law_sign,
    PySem.W.mg_of X G a_law_sign,
    b_law_sign,
    F_law_formed,
    PySem.W.mg_of X G a_law_formed,
    b_law_formed,
    F_law,
    PySem.W.mg_of X G a_law,
    b_law,
    PySem.W.mg_none_of X G z_bool,
    PySem.W.mg_none_of X G z_int,
    PySem.W.mg_none_of X G z_isinstance,
    PySem.W.mg_none_of X G z_len,
    PySem.W.mg_none_of X G z_list,
    PySem.W.mg_none_of X G z_range,
    PySem.W.mg_none_of X G z_repr,
    PySem.W.mg_none_of X G z_sum,
    PySem.W.mg_none_of X G z_tuple,
    PySem.W.mg_none_of X G z_super,
    PySem.W.mg_of X G n_BesideError,
    s_BesideError,
    PySem.W.mg_of X G n_BadNumber,
    s_BadNumber,
    PySem.W.mg_of X G n_BadTable,
    s_BadTable,
    SK,
    (fun k => match k with
      | 0 => ⟨ga_BesideError, gg_BesideError, ex_BesideError, hd_BesideError, ca_BesideError, spc, tkc, mo_BesideError⟩
      | 1 => ⟨ga_BadNumber, gg_BadNumber, ex_BadNumber, hd_BadNumber, ca_BadNumber, spc, tkc, mo_BadNumber⟩
      | _ + 2 => ⟨ga_BadTable, gg_BadTable, ex_BadTable, hd_BadTable, ca_BadTable, spc, tkc, mo_BadTable⟩),
    (fun k => match k with
      | 0 => ⟨ga_BesideError, gg_BesideError, ex_BesideError, hd_BesideError⟩
      | 1 => ⟨ga_BadNumber, gg_BadNumber, ex_BadNumber, hd_BadNumber⟩
      | _ + 2 => ⟨ga_BadTable, gg_BadTable, ex_BadTable, hd_BadTable⟩),
    (fun k => match k with
      | 0 => at_BesideError
      | 1 => at_BadNumber
      | _ + 2 => at_BadTable),
    (fun k b e => match k, e with
      | 0, e => by cases e; exact PySem.W.exm_ref ex_BadNumber hd_BadNumber ty_BadNumber sb_BesideError_BadNumber
      | 1, e => by cases e; exact PySem.W.exm_ref ex_BadNumber hd_BadNumber ty_BadNumber sb_BadNumber_BadNumber
      | 2, e => by cases e; exact PySem.W.exm_ref ex_BadNumber hd_BadNumber ty_BadNumber sb_BadTable_BadNumber
      | _ + 3, e => nomatch e),
    (fun k b e => match k, e with
      | 0, e => by cases e; exact ki_BesideError_BadTable
      | 1, e => by cases e; exact ki_BadNumber_BadTable
      | 2, e => by cases e; exact ki_BadTable_BadTable
      | _ + 3, e => nomatch e),
    (fun k b e => match k, e with
      | 0, e => by cases e; exact ki_BesideError_BesideError
      | 1, e => by cases e; exact ki_BadNumber_BesideError
      | 2, e => by cases e; exact ki_BadTable_BesideError
      | _ + 3, e => nomatch e)⟩
  exact ⟨_, gC d K, rfl, fun s v => .of_eq rfl, fun base _ _ => ok_law T⟩
end Vm

open PySem PySem.W PyProof.Rows in
set_option maxRecDepth 100000 in
set_option maxHeartbeats 0 in
theorem PySem.Challenge.cw_ofthecode_k24_ways_counted_holds : PySem.Challenge.rw_ofthecode_k24_ways_counted.Holds := by
  w_on
  o_law
  k_head
  case hw => w_witness2
  k_fill
  refine Vm.walk_end (l := PySem.Challenge.rw_ofthecode_k24_ways_counted) (n := 63) (k := 7) (x := "script") (ev := Vm.ev_law) rfl (by decide) rfl ⟨⟨rfl, by decide, by decide⟩, rfl⟩ (fun w h Y => PySem.W.kIn_of Y) ?F Vm.law_true
  case F =>
    intro w mg fa h KX G hmg
    refine' Vm.all_mk KX G hmg ?a_tupled ?l_tupled ?c_tupled ?k_tupled ?a_is_int ?l_is_int ?c_is_int ?k_is_int ?a_check_least ?l_check_least ?c_check_least ?k_check_least ?a_is_way_form ?l_is_way_form ?c_is_way_form ?k_is_way_form ?a_is_way_short ?l_is_way_short ?c_is_way_short ?k_is_way_short ?a_is_way ?l_is_way ?c_is_way ?k_is_way ?a_words_of ?l_words_of ?c_words_of ?k_words_of ?a_unrepeated_words ?l_unrepeated_words ?c_unrepeated_words ?k_unrepeated_words ?a_words_number ?l_words_number ?c_words_number ?k_words_number ?a_ways_number ?l_ways_number ?c_ways_number ?k_ways_number ?a_law_purse ?l_law_purse ?c_law_purse ?k_law_purse ?a_law_pick ?l_law_pick ?c_law_pick ?k_law_pick ?a_law_number ?l_law_number ?c_law_number ?k_law_number ?a_law_refused ?l_law_refused ?c_law_refused ?k_law_refused ?a_law_words ?l_law_words ?c_law_words ?k_law_words ?a_law_repeats ?l_law_repeats ?c_law_repeats ?k_law_repeats ?a_law_tried ?l_law_tried ?c_law_tried ?k_law_tried ?a_law_sign ?l_law_sign ?c_law_sign ?k_law_sign ?a_law_formed ?l_law_formed ?c_law_formed ?k_law_formed ?a_law ?l_law ?c_law ?k_law ?z_bool ?z_int ?z_isinstance ?z_len ?z_list ?z_range ?z_repr ?z_sum ?z_super ?z_tuple ?n_BesideError ?n_BadNumber ?n_BadTable ?ini_BesideError ?ini_BadNumber ?ini_BadTable ?lI ?cI ?lC ?vC ?fC ?lD ?hD ?tfI ?any ?cl_BesideError ?ve_BesideError ?sa_BesideError ?ex_BesideError ?ty_BesideError ?kC_BesideError ?mr_BesideError ?su_BesideError ?vv_BesideError ?at_BesideError ?ga_BesideError ?gg_BesideError ?hd_BesideError ?ca_BesideError ?mo_BesideError ?sb_BesideError_BadNumber ?sb_BesideError_BadTable ?sb_BesideError_BesideError ?ki_BesideError_BadTable ?ki_BesideError_BesideError ?cl_BadNumber ?ve_BadNumber ?sa_BadNumber ?ex_BadNumber ?ty_BadNumber ?kC_BadNumber ?mr_BadNumber ?su_BadNumber ?vv_BadNumber ?at_BadNumber ?ga_BadNumber ?gg_BadNumber ?hd_BadNumber ?ca_BadNumber ?mo_BadNumber ?sb_BadNumber_BadNumber ?sb_BadNumber_BadTable ?sb_BadNumber_BesideError ?ki_BadNumber_BadTable ?ki_BadNumber_BesideError ?cl_BadTable ?ve_BadTable ?sa_BadTable ?ex_BadTable ?ty_BadTable ?kC_BadTable ?mr_BadTable ?su_BadTable ?vv_BadTable ?at_BadTable ?ga_BadTable ?gg_BadTable ?hd_BadTable ?ca_BadTable ?mo_BadTable ?sb_BadTable_BadNumber ?sb_BadTable_BadTable ?sb_BadTable_BesideError ?ki_BadTable_BadTable ?ki_BadTable_BesideError ?spc ?tkc
    (case a_tupled => k_is)
    (case l_tupled => k_is)
    (case c_tupled => k_is)
    (case k_tupled => k_is)
    (case a_is_int => k_is)
    (case l_is_int => k_is)
    (case c_is_int => k_is)
    (case k_is_int => k_is)
    (case a_check_least => k_is)
    (case l_check_least => k_is)
    (case c_check_least => k_is)
    (case k_check_least => k_is)
    (case a_is_way_form => k_is)
    (case l_is_way_form => k_is)
    (case c_is_way_form => k_is)
    (case k_is_way_form => k_is)
    (case a_is_way_short => k_is)
    (case l_is_way_short => k_is)
    (case c_is_way_short => k_is)
    (case k_is_way_short => k_is)
    (case a_is_way => k_is)
    (case l_is_way => k_is)
    (case c_is_way => k_is)
    (case k_is_way => k_is)
    (case a_words_of => k_is)
    (case l_words_of => k_is)
    (case c_words_of => k_is)
    (case k_words_of => k_is)
    (case a_unrepeated_words => k_is)
    (case l_unrepeated_words => k_is)
    (case c_unrepeated_words => k_is)
    (case k_unrepeated_words => k_is)
    (case a_words_number => k_is)
    (case l_words_number => k_is)
    (case c_words_number => k_is)
    (case k_words_number => k_is)
    (case a_ways_number => k_is)
    (case l_ways_number => k_is)
    (case c_ways_number => k_is)
    (case k_ways_number => k_is)
    (case a_law_purse => k_is)
    (case l_law_purse => k_is)
    (case c_law_purse => k_is)
    (case k_law_purse => k_is)
    (case a_law_pick => k_is)
    (case l_law_pick => k_is)
    (case c_law_pick => k_is)
    (case k_law_pick => k_is)
    (case a_law_number => k_is)
    (case l_law_number => k_is)
    (case c_law_number => k_is)
    (case k_law_number => k_is)
    (case a_law_refused => k_is)
    (case l_law_refused => k_is)
    (case c_law_refused => k_is)
    (case k_law_refused => k_is)
    (case a_law_words => k_is)
    (case l_law_words => k_is)
    (case c_law_words => k_is)
    (case k_law_words => k_is)
    (case a_law_repeats => k_is)
    (case l_law_repeats => k_is)
    (case c_law_repeats => k_is)
    (case k_law_repeats => k_is)
    (case a_law_tried => k_is)
    (case l_law_tried => k_is)
    (case c_law_tried => k_is)
    (case k_law_tried => k_is)
    (case a_law_sign => k_is)
    (case l_law_sign => k_is)
    (case c_law_sign => k_is)
    (case k_law_sign => k_is)
    (case a_law_formed => k_is)
    (case l_law_formed => k_is)
    (case c_law_formed => k_is)
    (case k_law_formed => k_is)
    (case a_law => k_is)
    (case l_law => k_is)
    (case c_law => k_is)
    (case k_law => k_is)
    (case z_bool => k_is)
    (case z_int => k_is)
    (case z_isinstance => k_is)
    (case z_len => k_is)
    (case z_list => k_is)
    (case z_range => k_is)
    (case z_repr => k_is)
    (case z_sum => k_is)
    (case z_super => k_is)
    (case z_tuple => k_is)
    (case n_BesideError => k_is)
    (case n_BadNumber => k_is)
    (case n_BadTable => k_is)
    (case ini_BesideError => k_is)
    (case ini_BadNumber => k_is)
    (case ini_BadTable => k_is)
    (case lI => k_is)
    (case cI => k_is)
    (case lC => k_is)
    (case vC => rfl)
    (case fC => decide +kernel)
    (case lD => k_is)
    (case hD => k_is)
    (case tfI => k_is)
    (case any => k_is)
    (case cl_BesideError => k_is)
    (case ve_BesideError => decide +kernel)
    (case sa_BesideError => k_is)
    (case ex_BesideError => k_is)
    (case ty_BesideError => k_is)
    (case kC_BesideError => k_is)
    (case mr_BesideError => k_is)
    (case su_BesideError => ks_is)
    (case vv_BesideError => k_is)
    (case at_BesideError => k_is)
    (case ga_BesideError => k_is)
    (case gg_BesideError => k_is)
    (case hd_BesideError => k_is)
    (case ca_BesideError => k_is)
    (case mo_BesideError => k_is)
    (case sb_BesideError_BadNumber => k_is)
    (case sb_BesideError_BadTable => k_is)
    (case sb_BesideError_BesideError => k_is)
    (case ki_BesideError_BadTable => kit_is)
    (case ki_BesideError_BesideError => kit_is)
    (case cl_BadNumber => k_is)
    (case ve_BadNumber => decide +kernel)
    (case sa_BadNumber => k_is)
    (case ex_BadNumber => k_is)
    (case ty_BadNumber => k_is)
    (case kC_BadNumber => k_is)
    (case mr_BadNumber => k_is)
    (case su_BadNumber => ks_is)
    (case vv_BadNumber => k_is)
    (case at_BadNumber => k_is)
    (case ga_BadNumber => k_is)
    (case gg_BadNumber => k_is)
    (case hd_BadNumber => k_is)
    (case ca_BadNumber => k_is)
    (case mo_BadNumber => k_is)
    (case sb_BadNumber_BadNumber => k_is)
    (case sb_BadNumber_BadTable => k_is)
    (case sb_BadNumber_BesideError => k_is)
    (case ki_BadNumber_BadTable => kit_is)
    (case ki_BadNumber_BesideError => kit_is)
    (case cl_BadTable => k_is)
    (case ve_BadTable => decide +kernel)
    (case sa_BadTable => k_is)
    (case ex_BadTable => k_is)
    (case ty_BadTable => k_is)
    (case kC_BadTable => k_is)
    (case mr_BadTable => k_is)
    (case su_BadTable => ks_is)
    (case vv_BadTable => k_is)
    (case at_BadTable => k_is)
    (case ga_BadTable => k_is)
    (case gg_BadTable => k_is)
    (case hd_BadTable => k_is)
    (case ca_BadTable => k_is)
    (case mo_BadTable => k_is)
    (case sb_BadTable_BadNumber => k_is)
    (case sb_BadTable_BadTable => k_is)
    (case sb_BadTable_BesideError => k_is)
    (case ki_BadTable_BadTable => kit_is)
    (case ki_BadTable_BesideError => kit_is)
    (case spc => k_is)
    (case tkc => k_is)
