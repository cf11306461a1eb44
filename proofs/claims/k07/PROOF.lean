import PyProof.Rows.All
import Wide.All
import OpenK.AllK
import Wide.FinOn
import HandS.ForMost
import HandS.ForExc
import HandS.Defaults
import HandS.Flow
import HandS.IsInst
import HandS.DictComp
import HandS.MakeKw
import HandS.SetKeys
import HandS.Sort
import HandS.OwnEq
import HandS.DictEq
import HandS.Style
import HandS.Head0
import HandS.Head1
import HandS.Head2
import HandS.HeadEnd
import HandS.HeadHook1
import HandS.HeadHook2
import HandS.HeadHook3
import HandS.HeadHook4
import KE.KDictDisplayH
import KE.KDictCopyH
import HandS.TupAny
import HandS.SetFor
import HandS.RaiseMore
import HandS.MakeKwOnly
import HandS.Conv
import PyProof.Rows.SortShellAny
import PyProof.StrOps2
import PyProof.Rows.StrMul
import HandS.Exc
import HandS.ExcOwn
import HandS.ExcIs
import HandS.ExcField
import KE.KExcIs
import HandS.ExcInit
import PyProof.ReprRoads
import KE.KTryMore
import PySem.Challenge.RW_ringingcalls_k07_askers_refuse
set_option Elab.async false
set_option linter.all false
set_option maxRecDepth 100000
set_option maxHeartbeats 0
/-! MBase: Python values as Lean data, a heap of numbered cells, how both lie in the abstract heap of the hand layer. -/
namespace MR
open PySem PySem.Spec PyProof.Rows L2
abbrev Sl := List (Option V)

/-- a value: immutable data as a tree; a mutable object by its number -/
inductive W where
  | non | bl (b : Bool) | int (i : Int) | str (s : List Nat) | tup (l : List W) | lst (l : List W) | cell (n : Nat)
  /-- a tuple of the text, a list that is only read -/
  | ktup (l : List W) | rol (l : List W)

/-- a mutable object: a list; a dict (locked while it is walked) with int and text keys; one with keys that are flat tuples; an instance -/
inductive Cell where
  | lst (l : List W)
  | dk (lk : Bool) (l : List (W × W))
  | dt (lk : Bool) (l : List (W × W))
  | ins (c : Nat) (fs : List (Nat × W))
  /-- what an exception keeps -/
  | xd (fs : List (Nat × W))
abbrev Hq := List Cell

/-- what stands in the program's text: the written part, the classes' addresses, the attributes' names -/
structure Gm where
  K : PySem.W.Frag
  ca : Nat → Addr
  fd : Nat → Str
  inj : ∀ i j, fd i = fd j → i = j
  /-- what is known besides, of the places; it stays when places come -/
  px : List Addr → Prop
  pxm : ∀ r t, px r → px (r ++ t)
  /-- a slot that holds a thing that no value stands for -/
  sp : Option (Nat × Addr)

def sV (s : List Nat) : Str := ⟨s.toArray⟩
theorem sV_inj {s t : List Nat} (h : sV s = sV t) : s = t := by
  have h1 : s.toArray = t.toArray := congrArg Str.cps h
  simpa using h1

/-- a tuple of the written part -/
def KTup (K : PySem.W.Frag) (a : Addr) (vs : List V) : Prop :=
  ∃ (o : Obj) (its : Array Value) (n : Nat), K.lookup a = some o ∧ o.cls = .type "tuple" ∧ o.data = .seq its n ∧ its.size ≤ sizeLine ∧ Vals vs its.toList
def KLst (K : PySem.W.Frag) (a : Addr) (vs : List V) : Prop :=
  ∃ (o : Obj) (its : Array Value) (n : Nat), K.lookup a = some o ∧ o.cls = .type "list" ∧ o.dict = none ∧ o.data = .seq its n ∧ its.size ≤ sizeLine ∧ Vals vs its.toList

mutual
def RV (K : PySem.W.Frag) (r : List Addr) (H : Hp) : W → V → Prop
  | .non, v => v = .non
  | .bl b, v => v = .bl b
  | .int i, v => v = .int i
  | .str s, v => v = .str (sV s)
  | .tup l, v => ∃ a vs, v = .ref a ∧ (a ∉ r ∧ H a = some (.tup vs)) ∧ RVs K r H l vs
  | .lst l, v => ∃ a vs, v = .ref a ∧ (a ∉ r ∧ H a = some (.lst vs)) ∧ RVs K r H l vs
  | .cell n, v => ∃ a, v = .ref a ∧ r[n]? = some a
  | .ktup l, v => ∃ a vs, v = .ref a ∧ KTup K a vs ∧ RVs K r H l vs
  | .rol l, v => ∃ a vs, v = .ref a ∧ ((a ∉ r ∧ Rd H a (.lst vs)) ∨ KLst K a vs) ∧ RVs K r H l vs
def RVs (K : PySem.W.Frag) (r : List Addr) (H : Hp) : List W → List V → Prop
  | [], vs => vs = []
  | w :: ws, vs => ∃ v t, vs = v :: t ∧ RV K r H w v ∧ RVs K r H ws t
end

/-- the world has grown: more cells, what is no cell stands -/
structure Gro (r : List Addr) (H : Hp) (r' : List Addr) (H' : Hp) : Prop where
  pre : ∃ t, r' = r ++ t
  old : ∀ a o, a ∉ r → H a = some o → H' a = some o
  new : ∀ a, a ∈ r' → a ∈ r ∨ H a = none
  frz : ∀ a o u, H a = some (.frz o u) → H' a = some (.frz o u)
theorem Gro.refl {r : List Addr} {H : Hp} : Gro r H r H := ⟨⟨[], by simp⟩, fun _ _ _ h => h, fun _ h => .inl h, fun _ _ _ h => h⟩
theorem Gro.trans {r r1 r2 : List Addr} {H H1 H2 : Hp} (a : Gro r H r1 H1) (b : Gro r1 H1 r2 H2) : Gro r H r2 H2 where
  pre := by
    obtain ⟨t, e⟩ := a.pre
    obtain ⟨t', e'⟩ := b.pre
    exact ⟨t ++ t', by rw [e', e, List.append_assoc]⟩
  old := fun x o hx h => b.old x o (fun z => by
    rcases a.new x z with q | q
    · exact hx q
    · rw [q] at h; cases h) (a.old x o hx h)
  new := fun x hx => by
    rcases b.new x hx with q | q
    · exact a.new x q
    · by_cases hr : x ∈ r
      · exact .inl hr
      · cases e : H x with
        | none => exact .inr rfl
        | some o => rw [a.old x o hr e] at q; cases q
  frz := fun x o u h => b.frz x o u (a.frz x o u h)
theorem Gro.notin {r r' : List Addr} {H H' : Hp} (g : Gro r H r' H') {a : Addr} {o : HO} (ha : a ∉ r) (h : H a = some o) : a ∉ r' := fun z => by
  rcases g.new a z with q | q
  · exact ha q
  · rw [q] at h; cases h
theorem Gro.at_ {r r' : List Addr} {H H' : Hp} (g : Gro r H r' H') {n : Nat} {a : Addr} (h : r[n]? = some a) : r'[n]? = some a := by
  obtain ⟨t, e⟩ := g.pre
  rw [e, List.getElem?_append_left (List.getElem?_eq_some_iff.mp h).1]
  exact h
theorem Gro.rd {r r' : List Addr} {H H' : Hp} (g : Gro r H r' H') {a : Addr} {u : HO} (ha : a ∉ r) (h : Rd H a u) : a ∉ r' ∧ Rd H' a u := by
  rcases h with h | ⟨o, h⟩
  · exact ⟨g.notin ha h, .inl (g.old a _ ha h)⟩
  · exact ⟨g.notin ha h, .inr ⟨o, g.old a _ ha h⟩⟩

/-- the same without the locked things -/
structure Gro0 (r : List Addr) (H : Hp) (r' : List Addr) (H' : Hp) : Prop where
  pre : ∃ t, r' = r ++ t
  old : ∀ a o, a ∉ r → H a = some o → H' a = some o
  new : ∀ a, a ∈ r' → a ∈ r ∨ H a = none
theorem Gro.z {r r' : List Addr} {H H' : Hp} (g : Gro r H r' H') : Gro0 r H r' H' := ⟨g.pre, g.old, g.new⟩
theorem Gro0.notin {r r' : List Addr} {H H' : Hp} (g : Gro0 r H r' H') {a : Addr} {o : HO} (ha : a ∉ r) (h : H a = some o) : a ∉ r' := fun z => by
  rcases g.new a z with q | q
  · exact ha q
  · rw [q] at h; cases h
theorem Gro0.at_ {r r' : List Addr} {H H' : Hp} (g : Gro0 r H r' H') {n : Nat} {a : Addr} (h : r[n]? = some a) : r'[n]? = some a := by
  obtain ⟨t, e⟩ := g.pre
  rw [e, List.getElem?_append_left (List.getElem?_eq_some_iff.mp h).1]
  exact h
theorem Gro0.rd {r r' : List Addr} {H H' : Hp} (g : Gro0 r H r' H') {a : Addr} {u : HO} (ha : a ∉ r) (h : Rd H a u) : a ∉ r' ∧ Rd H' a u := by
  rcases h with h | ⟨o, h⟩
  · exact ⟨g.notin ha h, .inl (g.old a _ ha h)⟩
  · exact ⟨g.notin ha h, .inr ⟨o, g.old a _ ha h⟩⟩

mutual
theorem RV.gro0 {K : PySem.W.Frag} {r r' : List Addr} {H H' : Hp} (g : Gro0 r H r' H') : ∀ (w : W) (v : V), RV K r H w v → RV K r' H' w v
  | .non, _, h => h
  | .bl _, _, h => h
  | .int _, _, h => h
  | .str _, _, h => h
  | .tup l, v, h => by
    simp only [RV] at h ⊢
    obtain ⟨a, vs, e, ⟨q, p⟩, h2⟩ := h
    exact ⟨a, vs, e, ⟨g.notin q p, g.old _ _ q p⟩, RVs.gro0 g l vs h2⟩
  | .lst l, v, h => by
    simp only [RV] at h ⊢
    obtain ⟨a, vs, e, ⟨q, p⟩, h2⟩ := h
    exact ⟨a, vs, e, ⟨g.notin q p, g.old _ _ q p⟩, RVs.gro0 g l vs h2⟩
  | .ktup l, v, h => by
    simp only [RV] at h ⊢
    obtain ⟨a, vs, e, p, h2⟩ := h
    exact ⟨a, vs, e, p, RVs.gro0 g l vs h2⟩
  | .rol l, v, h => by
    simp only [RV] at h ⊢
    obtain ⟨a, vs, e, h1, h2⟩ := h
    refine ⟨a, vs, e, ?_, RVs.gro0 g l vs h2⟩
    rcases h1 with ⟨q, p⟩ | p
    · exact .inl (g.rd q p)
    · exact .inr p
  | .cell n, v, h => by
    simp only [RV] at h ⊢
    obtain ⟨a, e, h1⟩ := h
    exact ⟨a, e, g.at_ h1⟩
theorem RVs.gro0 {K : PySem.W.Frag} {r r' : List Addr} {H H' : Hp} (g : Gro0 r H r' H') : ∀ (ws : List W) (vs : List V), RVs K r H ws vs → RVs K r' H' ws vs
  | [], _, h => by simpa only [RVs] using h
  | w :: ws, vs, h => by
    simp only [RVs] at h ⊢
    obtain ⟨v, t, e, h1, h2⟩ := h
    exact ⟨v, t, e, RV.gro0 g w v h1, RVs.gro0 g ws t h2⟩
end

theorem RV.gro {K : PySem.W.Frag} {r r' : List Addr} {H H' : Hp} (g : Gro r H r' H') (w : W) (v : V) (h : RV K r H w v) : RV K r' H' w v := RV.gro0 g.z w v h
theorem RVs.gro {K : PySem.W.Frag} {r r' : List Addr} {H H' : Hp} (g : Gro r H r' H') (w : List W) (v : List V) (h : RVs K r H w v) : RVs K r' H' w v := RVs.gro0 g.z w v h

/-! ### lists of values -/
section
variable {K : PySem.W.Frag} {r : List Addr} {H : Hp}
theorem RVs.len : ∀ {ws : List W} {vs : List V}, RVs K r H ws vs → ws.length = vs.length
  | [], vs, h => by simp only [RVs] at h; subst h; rfl
  | w :: ws, vs, h => by
    simp only [RVs] at h
    obtain ⟨v, t, e, _, h2⟩ := h
    subst e
    simp [RVs.len h2]
theorem RVs.nil : RVs K r H [] [] := by simp only [RVs]
theorem RVs.cons {w : W} {v : V} {ws : List W} {vs : List V} (h : RV K r H w v) (t : RVs K r H ws vs) : RVs K r H (w :: ws) (v :: vs) := by
  simp only [RVs]; exact ⟨v, vs, rfl, h, t⟩
theorem RVs.inv {w : W} {ws : List W} {vs : List V} (h : RVs K r H (w :: ws) vs) : ∃ v t, vs = v :: t ∧ RV K r H w v ∧ RVs K r H ws t := by
  simpa only [RVs] using h
theorem RVs.inv0 {vs : List V} (h : RVs K r H [] vs) : vs = [] := by simpa only [RVs] using h
theorem RVs.get : ∀ {ws : List W} {vs : List V} {i : Nat} {w : W}, RVs K r H ws vs → ws[i]? = some w → ∃ v, vs[i]? = some v ∧ RV K r H w v
  | [], _, _, _, _, e => by simp at e
  | x :: ws, vs, 0, w, h, e => by
    obtain ⟨v, t, rfl, h1, _⟩ := h.inv
    simp at e; subst e
    exact ⟨v, rfl, h1⟩
  | x :: ws, vs, i + 1, w, h, e => by
    obtain ⟨v, t, rfl, _, h2⟩ := h.inv
    obtain ⟨u, e1, e2⟩ := RVs.get (i := i) h2 (by simpa using e)
    exact ⟨u, by simpa using e1, e2⟩
theorem RVs.getV : ∀ {ws : List W} {vs : List V} {i : Nat} {v : V}, RVs K r H ws vs → vs[i]? = some v → ∃ w, ws[i]? = some w ∧ RV K r H w v := fun {ws vs i v} h e => by
  have hl := h.len
  have hi : i < ws.length := by rw [hl]; exact (List.getElem?_eq_some_iff.mp e).1
  obtain ⟨v', e1, e2⟩ := h.get (List.getElem?_eq_getElem hi)
  rw [e] at e1; cases e1
  exact ⟨_, List.getElem?_eq_getElem hi, e2⟩
theorem RVs.app : ∀ {ws xs : List W} {vs us : List V}, RVs K r H ws vs → RVs K r H xs us → RVs K r H (ws ++ xs) (vs ++ us)
  | [], _, _, _, h, t => by rw [h.inv0]; exact t
  | w :: ws, xs, vs, us, h, t => by
    obtain ⟨v, t', rfl, h1, h2⟩ := h.inv
    exact .cons h1 (RVs.app h2 t)
theorem RVs.set : ∀ {ws : List W} {vs : List V} {w : W} {v : V} (i : Nat), RVs K r H ws vs → RV K r H w v → RVs K r H (ws.set i w) (vs.set i v)
  | [], _, _, _, _, h, _ => by rw [h.inv0]; exact .nil
  | x :: ws, vs, w, v, 0, h, q => by
    obtain ⟨v', t, rfl, _, h2⟩ := h.inv
    exact .cons q h2
  | x :: ws, vs, w, v, i + 1, h, q => by
    obtain ⟨v', t, rfl, h1, h2⟩ := h.inv
    exact .cons h1 (RVs.set i h2 q)
theorem RVs.take : ∀ {ws : List W} {vs : List V} (n : Nat), RVs K r H ws vs → RVs K r H (ws.take n) (vs.take n)
  | _, _, 0, _ => by simp [RVs.nil]
  | [], _, n + 1, h => by rw [h.inv0]; exact .nil
  | w :: ws, vs, n + 1, h => by
    obtain ⟨v, t, rfl, h1, h2⟩ := h.inv
    exact .cons h1 (RVs.take n h2)
theorem RVs.drop : ∀ {ws : List W} {vs : List V} (n : Nat), RVs K r H ws vs → RVs K r H (ws.drop n) (vs.drop n)
  | _, _, 0, h => h
  | [], _, n + 1, h => by rw [h.inv0]; exact .nil
  | w :: ws, vs, n + 1, h => by
    obtain ⟨v, t, rfl, _, h2⟩ := h.inv
    exact RVs.drop n h2
theorem RVs.rep {ws : List W} {vs : List V} (h : RVs K r H ws vs) : ∀ k : Nat, RVs K r H (List.replicate k ws).flatten (List.replicate k vs).flatten
  | 0 => by simp [RVs.nil]
  | k + 1 => by
    rw [List.replicate_succ, List.replicate_succ, List.flatten_cons, List.flatten_cons]
    exact h.app (RVs.rep h k)
theorem RVs.ints (ns : List Int) : RVs K r H (ns.map W.int) (ns.map V.int) := by
  induction ns with
  | nil => exact .nil
  | cons n t ih => exact .cons (by simp only [RV]) ih
end

/-! ### cells -/
@[simp] def keyOf : W → Option Key
  | .int i => some (.inl i)
  | .str s => some (.inr (sV s))
  | _ => none
@[simp] def keysOf : List W → Option (List Key)
  | [] => some []
  | w :: r => match keyOf w, keysOf r with
    | some k, some ks => some (k :: ks)
    | _, _ => none
@[simp] def keyT : W → Option (List Key)
  | .tup l => keysOf l
  | _ => none
def RKs {κ : Type} (f : W → Option κ) (K : PySem.W.Frag) (r : List Addr) (H : Hp) : List (W × W) → List (κ × V) → Prop
  | [], kvs => kvs = []
  | p :: l, kvs => ∃ k v t, kvs = (k, v) :: t ∧ f p.1 = some k ∧ RV K r H p.2 v ∧ RKs f K r H l t
def RFs (g : Gm) (r : List Addr) (H : Hp) : List (Nat × W) → List (Str × V) → Prop
  | [], fs => fs = []
  | p :: l, fs => ∃ v t, fs = (g.fd p.1, v) :: t ∧ RV g.K r H p.2 v ∧ RFs g r H l t
def lkO (lk : Bool) (u o : HO) : Prop := if lk then ∃ ob, o = .frz ob u else o = u
def RC (g : Gm) (r : List Addr) (H : Hp) : Cell → HO → Prop
  | .lst l, o => ∃ vs, o = .lst vs ∧ RVs g.K r H l vs
  | .dk lk l, o => ∃ kvs, lkO lk (.dK kvs) o ∧ RKs keyOf g.K r H l kvs
  | .dt lk l, o => ∃ kvs, lkO lk (.dT kvs) o ∧ RKs keyT g.K r H l kvs
  | .ins c fs, o => (∃ dx gs, o = .ins (g.ca c) dx gs ∧ RFs g r H fs gs) ∧ Cls g.K (g.ca c) ∧ ∀ p ∈ fs, NoAttr g.K (g.ca c) (g.fd p.1)
  | .xd fs, o => ∃ gs, o = .xd gs ∧ RFs g r H fs gs

theorem RKs.gro0 {κ : Type} {f : W → Option κ} {K : PySem.W.Frag} {r r' : List Addr} {H H' : Hp} (g : Gro0 r H r' H') : ∀ {l : List (W × W)} {kvs : List (κ × V)}, RKs f K r H l kvs → RKs f K r' H' l kvs
  | [], _, h => h
  | p :: l, kvs, h => by
    obtain ⟨k, v, t, e, h1, h2, h3⟩ := h
    exact ⟨k, v, t, e, h1, RV.gro0 g _ _ h2, RKs.gro0 g h3⟩
theorem RFs.gro0 {m : Gm} {r r' : List Addr} {H H' : Hp} (g : Gro0 r H r' H') : ∀ {l : List (Nat × W)} {fs : List (Str × V)}, RFs m r H l fs → RFs m r' H' l fs
  | [], _, h => h
  | p :: l, fs, h => by
    obtain ⟨v, t, e, h2, h3⟩ := h
    exact ⟨v, t, e, RV.gro0 g _ _ h2, RFs.gro0 g h3⟩
theorem RC.gro0 {m : Gm} {r r' : List Addr} {H H' : Hp} (g : Gro0 r H r' H') : ∀ {c : Cell} {o : HO}, RC m r H c o → RC m r' H' c o
  | .lst l, o, ⟨vs, e, h⟩ => ⟨vs, e, RVs.gro0 g _ _ h⟩
  | .dk lk l, o, ⟨vs, e, h⟩ => ⟨vs, e, RKs.gro0 g h⟩
  | .dt lk l, o, ⟨vs, e, h⟩ => ⟨vs, e, RKs.gro0 g h⟩
  | .ins c fs, o, ⟨⟨dx, gs, e, h⟩, k⟩ => ⟨⟨dx, gs, e, RFs.gro0 g h⟩, k⟩
  | .xd fs, o, ⟨gs, e, h⟩ => ⟨gs, e, RFs.gro0 g h⟩

theorem RKs.gro {κ : Type} {f : W → Option κ} {K : PySem.W.Frag} {r r' : List Addr} {H H' : Hp} (g : Gro r H r' H') {l : List (W × W)} {kvs : List (κ × V)} (h : RKs f K r H l kvs) : RKs f K r' H' l kvs := RKs.gro0 g.z h
theorem RFs.gro {m : Gm} {r r' : List Addr} {H H' : Hp} (g : Gro r H r' H') {l : List (Nat × W)} {fs : List (Str × V)} (h : RFs m r H l fs) : RFs m r' H' l fs := RFs.gro0 g.z h
theorem RC.gro {m : Gm} {r r' : List Addr} {H H' : Hp} (g : Gro r H r' H') {c : Cell} {o : HO} (h : RC m r H c o) : RC m r' H' c o := RC.gro0 g.z h

/-- the heap of cells lies in the abstract heap -/
structure Rep (g : Gm) (r : List Addr) (h : Hq) (H : Hp) : Prop where
  nd : r.Nodup
  len : r.length = h.length
  at_ : ∀ (n : Nat) (c : Cell), h[n]? = some c → ∃ (a : Addr) (o : HO), r[n]? = some a ∧ H a = some o ∧ RC g r H c o
section
variable {g : Gm} {r : List Addr} {h : Hq} {H : Hp}
theorem Rep.there (R : Rep g r h H) {a : Addr} (ha : a ∈ r) : ∃ o, H a = some o := by
  obtain ⟨n, hn, e⟩ := List.getElem_of_mem ha
  have hn' : n < h.length := by rw [← R.len]; exact hn
  obtain ⟨b, o, e1, e2, _⟩ := R.at_ n _ (List.getElem?_eq_getElem hn')
  rw [List.getElem?_eq_getElem hn, e] at e1
  cases e1
  exact ⟨o, e2⟩
theorem Rep.fresh (R : Rep g r h H) {p : Addr} (hp : H p = none) : p ∉ r := fun z => by
  obtain ⟨o, e⟩ := R.there z
  rw [hp] at e; cases e
theorem nodup_at {l : List Addr} (nd : l.Nodup) {i j : Nat} {a : Addr} (h1 : l[i]? = some a) (h2 : l[j]? = some a) : i = j := by
  obtain ⟨p1, e1⟩ := List.getElem?_eq_some_iff.mp h1
  obtain ⟨p2, e2⟩ := List.getElem?_eq_some_iff.mp h2
  exact (List.getElem_inj nd).mp (e1.trans e2.symm)
/-- something new that is no cell -/
theorem Gro.upd {p : Addr} {o : HO} (hp : H p = none) : Gro r H r (L2.upd H p o) :=
  ⟨⟨[], by simp⟩, fun a u _ e => by rw [upd_ne (ne_of_none e hp)]; exact e, fun _ z => .inl z, fun a u x e => by rw [upd_ne (ne_of_none e hp)]; exact e⟩
theorem Rep.upd (R : Rep g r h H) {p : Addr} {o : HO} (hp : H p = none) : Rep g r h (L2.upd H p o) :=
  ⟨R.nd, R.len, fun n c e => by
    obtain ⟨a, u, e1, e2, q⟩ := R.at_ n c e
    exact ⟨a, u, e1, by rw [upd_ne (ne_of_none e2 hp)]; exact e2, q.gro (Gro.upd hp)⟩⟩
/-- a new cell -/
theorem Gro.cell {p : Addr} {o : HO} (hp : H p = none) : Gro r H (r ++ [p]) (L2.upd H p o) :=
  ⟨⟨[p], rfl⟩, fun a u _ e => by rw [upd_ne (ne_of_none e hp)]; exact e, fun a z => by
    rcases List.mem_append.mp z with q | q
    · exact .inl q
    · simp at q; subst q; exact .inr hp, fun a u x e => by rw [upd_ne (ne_of_none e hp)]; exact e⟩
theorem Rep.cell (R : Rep g r h H) {p : Addr} {o : HO} {c : Cell} (hp : H p = none) (q : RC g (r ++ [p]) (L2.upd H p o) c o) : Rep g (r ++ [p]) (h ++ [c]) (L2.upd H p o) := by
  have np := R.fresh hp
  refine ⟨?_, by simp [R.len], fun n d e => ?_⟩
  · refine List.nodup_append.mpr ⟨R.nd, by simp, fun a ha b hb => ?_⟩
    simp at hb; subst hb
    exact fun z => np (z ▸ ha)
  · by_cases hn : n < h.length
    · rw [List.getElem?_append_left hn] at e
      obtain ⟨a, u, e1, e2, q'⟩ := R.at_ n d e
      exact ⟨a, u, by rw [List.getElem?_append_left (by rw [R.len]; exact hn)]; exact e1, by rw [upd_ne (ne_of_none e2 hp)]; exact e2, q'.gro (Gro.cell hp)⟩
    · have hl : n < (h ++ [c]).length := (List.getElem?_eq_some_iff.mp e).1
      have hn2 : n = h.length := by simp at hl; omega
      subst hn2
      simp at e; subst e
      exact ⟨p, o, by rw [← R.len]; simp, upd_same, q⟩
/-- a cell is written -/
theorem Gro.write {n : Nat} {a : Addr} {o u : HO} (R : Rep g r h H) (hr : r[n]? = some a) (ha : H a = some u) (hu : ∀ b x, u ≠ .frz b x) : Gro r H r (L2.upd H a o) := by
  have ma : a ∈ r := List.mem_of_getElem? hr
  exact ⟨⟨[], by simp⟩, fun b x hb e => by rw [upd_ne (fun z : b = a => hb (by rw [z]; exact ma))]; exact e, fun _ z => .inl z, fun b x y e => by
    rw [upd_ne (fun z => by subst z; rw [ha] at e; cases e; exact hu _ _ rfl)]; exact e⟩
theorem Rep.write (R : Rep g r h H) {n : Nat} {a : Addr} {o u : HO} {c : Cell} (hr : r[n]? = some a) (ha : H a = some u) (hu : ∀ b x, u ≠ .frz b x) (q : RC g r (L2.upd H a o) c o) : Rep g r (h.set n c) (L2.upd H a o) := by
  have gr : Gro r H r (L2.upd H a o) := Gro.write R hr ha hu
  refine ⟨R.nd, by simp [R.len], fun m d e => ?_⟩
  have hm : m < h.length := by
    have := (List.getElem?_eq_some_iff.mp e).1
    simpa using this
  by_cases hmn : m = n
  · subst hmn
    rw [List.getElem?_set_self hm] at e
    cases e
    exact ⟨a, o, hr, upd_same, q⟩
  · rw [List.getElem?_set_ne (Ne.symm hmn)] at e
    obtain ⟨b, x, e1, e2, q'⟩ := R.at_ m d e
    have hb : b ≠ a := fun z => hmn (nodup_at R.nd e1 (z ▸ hr))
    exact ⟨b, x, e1, by rw [upd_ne hb]; exact e2, q'.gro gr⟩
end

/-! ### locals -/
abbrev Loc := List (Option W)
structure RL (K : PySem.W.Frag) (r : List Addr) (H : Hp) (L : Loc) (σ : Sl) : Prop where
  len : L.length = σ.length
  at_ : ∀ (i : Nat) (w : W), L[i]? = some (some w) → ∃ v, σ[i]? = some (some v) ∧ RV K r H w v
section
variable {K : PySem.W.Frag} {r r' : List Addr} {H H' : Hp} {L : Loc} {σ : Sl}
theorem RL.gro (g : Gro r H r' H') (l : RL K r H L σ) : RL K r' H' L σ := ⟨l.len, fun i w e => by
  obtain ⟨v, e1, q⟩ := l.at_ i w e
  exact ⟨v, e1, RV.gro g _ _ q⟩⟩
theorem RL.set (l : RL K r H L σ) {w : W} {v : V} (i : Nat) (q : RV K r H w v) : RL K r H (L.set i (some w)) (σ.set i (some v)) := ⟨by simp [l.len], fun j x e => by
  have hj : j < L.length := by
    have := (List.getElem?_eq_some_iff.mp e).1
    simpa using this
  by_cases h : j = i
  · subst h
    rw [List.getElem?_set_self hj] at e
    cases e
    exact ⟨v, by rw [List.getElem?_set_self (by rw [← l.len]; exact hj)], q⟩
  · rw [List.getElem?_set_ne (Ne.symm h)] at e
    obtain ⟨u, e1, e2⟩ := l.at_ j x e
    exact ⟨u, by rw [List.getElem?_set_ne (Ne.symm h)]; exact e1, e2⟩⟩
def wipeL (L : Loc) : List Nat → Loc
  | [] => L
  | v :: vs => (wipeL L vs).set v none
theorem RL.forget (l : RL K r H L σ) (i : Nat) : RL K r H (L.set i none) (σ.set i none) := ⟨by simp [l.len], fun j x e => by
  have hj : j < L.length := by
    have := (List.getElem?_eq_some_iff.mp e).1
    simpa using this
  by_cases h : j = i
  · subst h
    rw [List.getElem?_set_self hj] at e
    cases e
  · rw [List.getElem?_set_ne (Ne.symm h)] at e
    obtain ⟨u, e1, e2⟩ := l.at_ j x e
    exact ⟨u, by rw [List.getElem?_set_ne (Ne.symm h)]; exact e1, e2⟩⟩
theorem RL.wipe (l : RL K r H L σ) : ∀ vs : List Nat, RL K r H (wipeL L vs) (L2.wipe σ vs)
  | [] => l
  | v :: vs => (RL.wipe l vs).forget v
end
end MR
/-! MExpr: results, the mirror's combinators for expressions, each sound for the hand layer's readings. -/
namespace MR
open PySem PySem.Spec PyProof.Rows L2

/-- how an expression ends: a value; an own exception of a class with its fields; or nothing is said -/
inductive Rs where
  | ok (w : W) (h : Hq)
  | ex (c : Nat) (fs : List (Nat × W)) (h : Hq)
  | bad
def Rs.bind (x : Rs) (k : W → Hq → Rs) : Rs := match x with
  | .ok w h => k w h
  | .ex c fs h => .ex c fs h
  | .bad => .bad
/-- a list of values is carried as a tuple -/
def Rs.bindL (x : Rs) (k : List W → Hq → Rs) : Rs := match x with
  | .ok (.tup ws) h => k ws h
  | .ok _ _ => .bad
  | .ex c fs h => .ex c fs h
  | .bad => .bad
@[simp] theorem Rs.bind_ok (w : W) (h : Hq) (k : W → Hq → Rs) : (Rs.ok w h).bind k = k w h := rfl
@[simp] theorem Rs.bind_ex (c : Nat) (fs : List (Nat × W)) (h : Hq) (k : W → Hq → Rs) : (Rs.ex c fs h).bind k = .ex c fs h := rfl
@[simp] theorem Rs.bind_bad (k : W → Hq → Rs) : (Rs.bad).bind k = .bad := rfl
@[simp] theorem Rs.bindL_ok (w : List W) (h : Hq) (k : List W → Hq → Rs) : (Rs.ok (.tup w) h).bindL k = k w h := rfl
@[simp] theorem Rs.bindL_ex (c : Nat) (fs : List (Nat × W)) (h : Hq) (k : List W → Hq → Rs) : (Rs.ex c fs h).bindL k = .ex c fs h := rfl
@[simp] theorem Rs.bindL_bad (k : List W → Hq → Rs) : (Rs.bad).bindL k = .bad := rfl
abbrev M := Loc → Hq → Rs
/-- a function of the text -/
abbrev Fn := List W → Hq → Rs

/-- what an exception is -/
def RX (g : Gm) (r : List Addr) (H : Hp) (c : Nat) (fs : List (Nat × W)) (cls : Value) (d : Option Addr) : Prop :=
  cls = .ref (g.ca c) ∧ ((fs = [] ∧ d = none) ∨ ∃ (n : Nat) (dd : Addr), fs = [(0, .cell n)] ∧ d = some dd ∧ r[n]? = some dd)

def Aft (g : Gm) (Wx : WX) (σ : Sl) (x : Rs) (r : List Addr) (H : Hp) (Q : VK) : Prop := match x with
  | .ok w h' => ∀ (r' : List Addr) (H' : Hp) (v : V), Gro r H r' H' → Rep g r' h' H' → RV g.K r' H' w v → Q v H'
  | .ex c fs h' => ∀ (r' : List Addr) (H' : Hp) (cls : Value) (d : Option Addr), Gro r H r' H' → Rep g r' h' H' → RX g r' H' c fs cls d → Wx cls d σ H'
  | .bad => False
/-- .. of a list of values -/
def AftL (g : Gm) (Wx : WX) (σ : Sl) (x : Rs) (r : List Addr) (H : Hp) (Q : List V → Hp → Prop) : Prop := match x with
  | .ok (.tup ws) h' => ∀ (r' : List Addr) (H' : Hp) (vs : List V), Gro r H r' H' → Rep g r' h' H' → RVs g.K r' H' ws vs → Q vs H'
  | .ok _ _ => False
  | .ex c fs h' => ∀ (r' : List Addr) (H' : Hp) (cls : Value) (d : Option Addr), Gro r H r' H' → Rep g r' h' H' → RX g r' H' c fs cls d → Wx cls d σ H'
  | .bad => False
structure At (g : Gm) (r : List Addr) (h : Hq) (H : Hp) (L : Loc) (σ : Sl) : Prop where
  rep : Rep g r h H
  loc : RL g.K r H L σ
  px : g.px r
  sx : ∀ i a, g.sp = some (i, a) → L[i]? = some none → σ[i]? = some (some (.ref a))
def tM (g : Gm) (Wx : WX) (m : M) : TE := fun σ H Q => ∃ (r : List Addr) (h : Hq) (L : Loc), At g r h H L σ ∧ Aft g Wx σ (m L h) r H Q
def tML (g : Gm) (Wx : WX) (m : M) : TA := fun σ H Q => ∃ (r : List Addr) (h : Hq) (L : Loc), At g r h H L σ ∧ AftL g Wx σ (m L h) r H Q
/-- a test: a bool comes -/
def tMT (g : Gm) (Wx : WX) (m : M) : TT := fun σ H Q => ∃ (r : List Addr) (h : Hq) (L : Loc), At g r h H L σ ∧ Aft g Wx σ (m L h) r H fun v H' => ∃ b, v = .bl b ∧ Q b H'
abbrev PEM (X : Cx) (g : Gm) (Wx : WX) (e : Expr) (m : M) : Prop := PE X e (tM g Wx m)
abbrev PAM (X : Cx) (g : Gm) (Wx : WX) (es : List Expr) (m : M) : Prop := PA X es (tML g Wx m)
abbrev PTM (X : Cx) (g : Gm) (Wx : WX) (e : Expr) (m : M) : Prop := PT X e (tMT g Wx m)
abbrev PWM (X : Cx) (g : Gm) (Wx : WX) (e : Expr) (m : M) : Prop := PW X e (tMT g Wx m)

/-- what a place in the text offers -/
structure Kx (X : Cx) (g : Gm) (Wx : WX) : Prop where
  hK : X.K = g.K
  nd : X.N.Nodup
  un : X.A.units + 200 < cLine
  tk : Takes X Wx

section
variable {X : Cx} {g : Gm} {Wx : WX} {e a b c : Expr} {m ma mb mc : M} {pos : Pos}
theorem Aft.gro {σ : Sl} {x : Rs} {r r1 : List Addr} {H H1 : Hp} {Q : VK} (G : Gro r H r1 H1) (h : Aft g Wx σ x r H Q) : Aft g Wx σ x r1 H1 Q := by
  cases x with
  | ok w h' => exact fun r' H' v G' => h r' H' v (G.trans G')
  | ex c fs h' => exact fun r' H' cls d G' => h r' H' cls d (G.trans G')
  | bad => exact h
theorem AftL.gro {σ : Sl} {x : Rs} {r r1 : List Addr} {H H1 : Hp} {Q : List V → Hp → Prop} (G : Gro r H r1 H1) (h : AftL g Wx σ x r H Q) : AftL g Wx σ x r1 H1 Q := by
  cases x with
  | ok w h' =>
    cases w with
    | tup ws => exact fun r' H' v G' => h r' H' v (G.trans G')
    | _ => exact h
  | ex c fs h' => exact fun r' H' cls d G' => h r' H' cls d (G.trans G')
  | bad => exact h
theorem Aft.imp {σ : Sl} {x : Rs} {r : List Addr} {H : Hp} {Q Q' : VK} (h : Aft g Wx σ x r H Q) (i : ∀ v H', Q v H' → Q' v H') : Aft g Wx σ x r H Q' := by
  cases x with
  | ok w h' => exact fun r' H' v G' R q => i _ _ (h r' H' v G' R q)
  | ex c fs h' => exact h
  | bad => exact h
theorem At.gro {r r1 : List Addr} {h h1 : Hq} {H H1 : Hp} {L : Loc} {σ : Sl} (A : At g r h H L σ) (G : Gro r H r1 H1) (R : Rep g r1 h1 H1) : At g r1 h1 H1 L σ := ⟨R, A.loc.gro G, by
  obtain ⟨t, e⟩ := G.pre
  rw [e]
  exact g.pxm _ _ A.px, A.sx⟩

theorem pe_imp {t t' : TE} (h : PE X e t) (i : ∀ σ H Q, t' σ H Q → t σ H Q) : PE X e t' := ⟨fun pn s sg H Q I q => h.run pn s sg H Q I (i sg H Q q)⟩
theorem pt_imp {t t' : TT} (h : PT X e t) (i : ∀ σ H Q, t' σ H Q → t σ H Q) : PT X e t' := ⟨fun pn s sg H Q I q => h.run pn s sg H Q I (i sg H Q q)⟩
theorem pw_imp {t t' : TT} (h : PW X e t) (i : ∀ σ H Q, t' σ H Q → t σ H Q) : PW X e t' := ⟨fun wh pn s sg H Q I q => h.run wh pn s sg H Q I (i sg H Q q)⟩
theorem pa_imp {es : List Expr} {t t' : TA} (h : PA X es t) (i : ∀ σ H Q, t' σ H Q → t σ H Q) : PA X es t' := ⟨fun p pn s sg H Q I q => h.run p pn s sg H Q I (i sg H Q q)⟩
theorem ps_imp {st : Stmt} {t t' : TS} (h : PS X st t) (i : ∀ D σ H, t' D σ H → t D σ H) : PS X st t' := ⟨fun pn s sg H D I q => h.run pn s sg H D I (i D sg H q)⟩
theorem pss_imp {st : List Stmt} {t t' : TS} (h : PSs X st t) (i : ∀ D σ H, t' D σ H → t D σ H) : PSs X st t' := ⟨fun pn s sg H D I q => h.run pn s sg H D I (i D sg H q)⟩

/-- the first part of a row of parts -/
theorem tM_step {k : W → Hq → Rs} {σ : Sl} {r : List Addr} {h : Hq} {H : Hp} {L : Loc} {Q : VK} (A : At g r h H L σ) (x : Aft g Wx σ ((ma L h).bind k) r H Q) :
    tM g Wx ma σ H fun v H1 => ∃ (r1 : List Addr) (h1 : Hq) (w : W), At g r1 h1 H1 L σ ∧ Gro r H r1 H1 ∧ RV g.K r1 H1 w v ∧ Aft g Wx σ (k w h1) r1 H1 Q := by
  refine ⟨r, h, L, A, ?_⟩
  cases em : ma L h with
  | ok w h1 =>
    rw [em] at x
    exact fun r1 H1 v G R q => ⟨r1, h1, w, A.gro G R, G, q, x.gro G⟩
  | ex c fs h1 =>
    rw [em] at x
    exact x
  | bad =>
    rw [em] at x
    exact x
theorem tML_step {k : List W → Hq → Rs} {σ : Sl} {r : List Addr} {h : Hq} {H : Hp} {L : Loc} {Q : VK} (A : At g r h H L σ) (x : Aft g Wx σ ((ma L h).bindL k) r H Q) :
    tML g Wx ma σ H fun vs H1 => ∃ (r1 : List Addr) (h1 : Hq) (ws : List W), At g r1 h1 H1 L σ ∧ Gro r H r1 H1 ∧ RVs g.K r1 H1 ws vs ∧ Aft g Wx σ (k ws h1) r1 H1 Q := by
  refine ⟨r, h, L, A, ?_⟩
  cases em : ma L h with
  | ok w h1 =>
    rw [em] at x
    cases w with
    | tup ws => exact fun r1 H1 v G R q => ⟨r1, h1, ws, A.gro G R, G, q, Aft.gro G x⟩
    | _ => exact x
  | ex c fs h1 =>
    rw [em] at x
    exact x
  | bad =>
    rw [em] at x
    exact x
/-- the end of a row of parts -/
theorem Aft.done {σ : Sl} {r : List Addr} {h : Hq} {H : Hp} {Q : VK} {w : W} {v : V} (x : Aft g Wx σ (.ok w h) r H Q) (R : Rep g r h H) (q : RV g.K r H w v) : Q v H := x r H v Gro.refl R q

/-! ### names, constants -/
def mVar (i : Nat) : M := fun L h => match L[i]? with
  | some (some w) => .ok w h
  | _ => .bad
theorem var_ok {i : Nat} {x : Str} (hN : X.N[i]? = some x) (hv : Vis X.env.scope x) (hd : (x == ("__debug__" : Str)) = false := by decide) (hcd : (x == ("__classdict__" : Str)) = false := by decide) : PEM X g Wx (.Name x pos) (mVar i) :=
  pe_imp (pe_var hN hv hd hcd) fun σ H Q ⟨r, h, L, A, q⟩ => by
    unfold mVar at q
    cases e : L[i]? with
    | none => rw [e] at q; exact q.elim
    | some o =>
      rw [e] at q
      cases o with
      | none => exact q.elim
      | some w =>
        obtain ⟨v, e1, e2⟩ := A.loc.at_ i w e
        exact ⟨v, e1, q.done A.rep e2⟩
def mC (w : W) : M := fun _ h => .ok w h
theorem int_ok {i : Int} {j : Nat} : PEM X g Wx (.Constant (.int i) j pos) (mC (.int i)) := pe_imp pe_int fun σ H Q ⟨r, h, L, A, q⟩ => q.done A.rep (by simp only [RV])
theorem bl_ok {x : Bool} {j : Nat} : PEM X g Wx (.Constant (.bool x) j pos) (mC (.bl x)) := pe_imp pe_bl fun σ H Q ⟨r, h, L, A, q⟩ => q.done A.rep (by simp only [RV])
theorem non_ok {j : Nat} : PEM X g Wx (.Constant .none j pos) (mC .non) := pe_imp pe_non fun σ H Q ⟨r, h, L, A, q⟩ => q.done A.rep (by simp only [RV])
theorem str_ok {x : Str} {z : List Nat} {j : Nat} (e : x = sV z) : PEM X g Wx (.Constant (.str x) j pos) (mC (.str z)) := by
  subst e
  exact pe_imp pe_str fun σ H Q ⟨r, h, L, A, q⟩ => q.done A.rep (by simp only [RV])
/-- a constant of the module -/
theorem glob_ok {x : Str} {u : Value} {v : V} {w : W} (hg : Gl X x) (hm : X.mg x = some u) (rl : RelV v u) (hw : ∀ r H, RV g.K r H w v) (hd : (x == ("__debug__" : Str)) = false := by decide) : PEM X g Wx (.Name x pos) (mC w) :=
  pe_imp (pe_glob hg hm rl hd) fun σ H Q ⟨r, h, L, A, q⟩ => q.done A.rep (hw r H)

/-! ### operations on values -/
/-- f says what the rule R2 asks -/
def OpS (g : Gm) (Wx : WX) (rr : R2) (f : W → W → Hq → Rs) : Prop :=
  ∀ (r : List Addr) (h : Hq) (H : Hp) (σ : Sl) (x y : W) (v u : V) (Q : VK), Rep g r h H → RV g.K r H x v → RV g.K r H y u → Aft g Wx σ (f x y h) r H Q → rr v u H Q
def mBin (f : W → W → Hq → Rs) (ma mb : M) : M := fun L h => (ma L h).bind fun x h1 => (mb L h1).bind fun y h2 => f x y h2
theorem two_step {rr : R2} {f : W → W → Hq → Rs} (hs : OpS g Wx rr f) {σ : Sl} {H : Hp} {Q : VK} (q : tM g Wx (mBin f ma mb) σ H Q) : tOp rr (tM g Wx ma) (tM g Wx mb) σ H Q := by
  obtain ⟨r, h, L, A, q⟩ := q
  obtain ⟨r0, h0, L0, A0, q0⟩ := tM_step A q
  refine ⟨r0, h0, L0, A0, q0.imp fun v H1 ⟨r1, h1, x, A1, G1, x1, q1⟩ => ?_⟩
  obtain ⟨r2, h2, L2, A2, q2⟩ := tM_step A1 q1
  refine ⟨r2, h2, L2, A2, q2.imp fun u H2 ⟨r3, h3, y, A3, G3, x3, q3⟩ => ?_⟩
  exact hs r3 h3 H2 σ x y v u Q A3.rep (RV.gro G3 _ _ x1) x3 q3
theorem bin_ok {op : Operator} {rr : R2} {f : W → W → Hq → Rs} (ho : OpR X (binaryOp op) rr) (hs : OpS g Wx rr f) (ha : PEM X g Wx a ma) (hb : PEM X g Wx b mb) : PEM X g Wx (.BinOp a op b pos) (mBin f ma mb) :=
  pe_imp (pe_op ho ha hb) fun _ _ _ q => two_step hs q
theorem cmp_ok {op : CmpOp} {rr : R2} {f : W → W → Hq → Rs} (ho : OpR X (compareOp op) rr) (hs : OpS g Wx rr f) (ha : PEM X g Wx a ma) (hb : PEM X g Wx b mb) (hm : behindInMarks op b = false) : PEM X g Wx (.Compare a [op] [b] pos) (mBin f ma mb) :=
  pe_imp (pe_cmpR ho ha hb hm) fun _ _ _ q => two_step hs q
theorem cmpT_ok {op : CmpOp} {rr : R2} {f : W → W → Hq → Rs} (ho : OpR X (compareOp op) rr) (hs : OpS g Wx rr f) (ha : PEM X g Wx a ma) (hb : PEM X g Wx b mb) (hm : behindInMarks op b = false) : PTM X g Wx (.Compare a [op] [b] pos) (mBin f ma mb) :=
  pt_imp (pt_cmpR ho ha hb hm) fun _ _ _ q => two_step hs q
end
end MR
/-! MExpr2: truth, and, or, not, tests, displays, places, attributes. -/
namespace MR
open PySem PySem.Spec PyProof.Rows L2

@[simp] def lineN : Nat := 16777216
theorem lineN_eq : sizeLine = lineN := sizeLine_eq
theorem sV_len (s : List Nat) : (sV s).length = s.length := by
  show s.toArray.size = s.length
  simp

section
variable {X : Cx} {g : Gm} {Wx : WX} {e a b c : Expr} {m ma mb mc : M} {pos : Pos}
/-! ### what stands at a cell -/
theorem cell_at {r : List Addr} {h : Hq} {H : Hp} {n : Nat} {v : V} {d : Cell} (R : Rep g r h H) (q : RV g.K r H (.cell n) v) (e : h[n]? = some d) :
    ∃ (p : Addr) (o : HO), v = .ref p ∧ r[n]? = some p ∧ H p = some o ∧ RC g r H d o := by
  simp only [RV] at q
  obtain ⟨p, rfl, e1⟩ := q
  obtain ⟨p', o, e2, e3, e4⟩ := R.at_ n d e
  rw [e1] at e2; cases e2
  exact ⟨p, o, rfl, e1, e3, e4⟩

/-! ### truth -/
@[simp] def tru (w : W) (h : Hq) : Option Bool := match w with
  | .non => some false
  | .bl b => some b
  | .int i => some (i != 0)
  | .str s => if s.length ≤ lineN then some (!s.isEmpty) else none
  | .tup l => some (!l.isEmpty)
  | .lst l => some (!l.isEmpty)
  | .ktup l => some (!l.isEmpty)
  | .rol l => some (!l.isEmpty)
  | .cell n => match h[n]? with
    | some (.lst l) => some (!l.isEmpty)
    | some (.dk false l) => some (!l.isEmpty)
    | _ => none
theorem RVs.isEmpty {K : PySem.W.Frag} {r : List Addr} {H : Hp} {ws : List W} {vs : List V} (h : RVs K r H ws vs) : ws.isEmpty = vs.isEmpty := by
  cases ws with
  | nil => rw [h.inv0] <;> rfl
  | cons w t => obtain ⟨v, u, rfl, _⟩ := h.inv; rfl
theorem RKs.len {κ : Type} {f : W → Option κ} {K : PySem.W.Frag} {r : List Addr} {H : Hp} : ∀ {l : List (W × W)} {kvs : List (κ × V)}, RKs f K r H l kvs → l.length = kvs.length
  | [], kvs, h => by simp only [RKs] at h; subst h; rfl
  | p :: l, kvs, h => by
    simp only [RKs] at h
    obtain ⟨k, v, t, rfl, _, _, q⟩ := h
    simp [RKs.len q]
theorem tru_of {r : List Addr} {h : Hq} {H : Hp} {w : W} {v : V} {k : Bool} (R : Rep g r h H) (q : RV g.K r H w v) (t : tru w h = some k) : TruV g.K v H k := by
  cases w with
  | non => simp only [RV] at q; subst q; simp only [tru] at t; cases t; rfl
  | bl y => simp only [RV] at q; subst q; simp only [tru] at t; cases t; rfl
  | int i => simp only [RV] at q; subst q; simp only [tru] at t; cases t; rfl
  | str s =>
    simp only [RV] at q; subst q; simp only [tru] at t
    split at t
    · rename_i hl
      cases t
      refine ⟨by rw [sV_len, lineN_eq]; exact hl, ?_⟩
      rw [sV_len]
      cases s with
      | nil => rfl
      | cons x y => simp [bne]; omega
    · cases t
  | tup l =>
    simp only [RV] at q
    obtain ⟨p, vs, rfl, ⟨_, hp⟩, q⟩ := q
    simp only [tru] at t; cases t
    exact .inr (.inl ⟨vs, SqT.of hp, by rw [q.isEmpty]⟩)
  | lst l =>
    simp only [RV] at q
    obtain ⟨p, vs, rfl, ⟨_, hp⟩, q⟩ := q
    simp only [tru] at t; cases t
    exact .inl ⟨vs, SqL.of hp, by rw [q.isEmpty]⟩
  | ktup l =>
    simp only [RV] at q
    obtain ⟨p, vs, rfl, hp, q⟩ := q
    simp only [tru] at t; cases t
    exact .inr (.inl ⟨vs, .inr hp, by rw [q.isEmpty]⟩)
  | rol l =>
    simp only [RV] at q
    obtain ⟨p, vs, rfl, hp, q⟩ := q
    simp only [tru] at t; cases t
    refine .inl ⟨vs, ?_, by rw [q.isEmpty]⟩
    rcases hp with ⟨_, hp⟩ | hp
    · exact .inl hp
    · exact .inr hp
  | cell n =>
    simp only [tru] at t
    cases ec : h[n]? with
    | none => rw [ec] at t; cases t
    | some d =>
      rw [ec] at t
      obtain ⟨p, o, rfl, _, hp, rc⟩ := cell_at R q ec
      cases d with
      | lst l =>
        obtain ⟨vs, rfl, q'⟩ := rc
        cases t
        exact .inl ⟨vs, SqL.of hp, by rw [q'.isEmpty]⟩
      | dk lk l =>
        cases lk with
        | true => cases t
        | false =>
          obtain ⟨kvs, e1, q'⟩ := rc
          have e1' : o = .dK kvs := e1
          subst e1'
          cases t
          refine .inr (.inr ⟨kvs, hp, ?_⟩)
          have hl := q'.len
          cases l <;> cases kvs <;> simp_all
      | dt lk l => cases t
      | ins c fs => cases t
      | xd fs => cases t
def mAnd (ma mb : M) : M := fun L h => (ma L h).bind fun x h1 => match tru x h1 with
  | some true => mb L h1
  | some false => .ok x h1
  | none => .bad
def mOr (ma mb : M) : M := fun L h => (ma L h).bind fun x h1 => match tru x h1 with
  | some false => mb L h1
  | some true => .ok x h1
  | none => .bad
def mNot (ma : M) : M := fun L h => (ma L h).bind fun x h1 => match tru x h1 with
  | some k => .ok (.bl !k) h1
  | none => .bad
variable {rest : List Expr}
theorem and_ok (hk : Kx X g Wx) (ha : PEM X g Wx a ma) (hb : PEM X g Wx (.BoolOp .And (b :: rest) pos) mb) : PEM X g Wx (.BoolOp .And (a :: b :: rest) pos) (mAnd ma mb) :=
  pe_imp (pe_andT ha hb) fun σ H Q ⟨r, h, L, A, q⟩ => by
    obtain ⟨r0, h0, L0, A0, q0⟩ := tM_step (ma := ma) A q
    refine ⟨r0, h0, L0, A0, q0.imp fun v H1 ⟨r1, h1, x, A1, G1, x1, q1⟩ => ?_⟩
    rw [hk.hK]
    cases et : tru x h1 with
    | none => rw [et] at q1; exact q1.elim
    | some k =>
      rw [et] at q1
      refine ⟨k, tru_of A1.rep x1 et, ?_⟩
      cases k with
      | true => exact iteT ⟨r1, h1, L, A1, q1⟩
      | false => exact iteF (q1.done A1.rep x1)
theorem or_ok (hk : Kx X g Wx) (ha : PEM X g Wx a ma) (hb : PEM X g Wx (.BoolOp .Or (b :: rest) pos) mb) : PEM X g Wx (.BoolOp .Or (a :: b :: rest) pos) (mOr ma mb) :=
  pe_imp (pe_orT ha hb) fun σ H Q ⟨r, h, L, A, q⟩ => by
    obtain ⟨r0, h0, L0, A0, q0⟩ := tM_step (ma := ma) A q
    refine ⟨r0, h0, L0, A0, q0.imp fun v H1 ⟨r1, h1, x, A1, G1, x1, q1⟩ => ?_⟩
    rw [hk.hK]
    cases et : tru x h1 with
    | none => rw [et] at q1; exact q1.elim
    | some k =>
      rw [et] at q1
      refine ⟨k, tru_of A1.rep x1 et, ?_⟩
      cases k with
      | true => exact iteT (q1.done A1.rep x1)
      | false => exact iteF ⟨r1, h1, L, A1, q1⟩
theorem one_ok {op : BoolOp} (ha : PEM X g Wx a ma) : PEM X g Wx (.BoolOp op [a] pos) ma := pe_one ha
theorem not_ok (hk : Kx X g Wx) (ha : PEM X g Wx a ma) : PEM X g Wx (.UnaryOp .Not a pos) (mNot ma) :=
  pe_imp (pe_notT ha) fun σ H Q ⟨r, h, L, A, q⟩ => by
    obtain ⟨r0, h0, L0, A0, q0⟩ := tM_step (ma := ma) A q
    refine ⟨r0, h0, L0, A0, q0.imp fun v H1 ⟨r1, h1, x, A1, G1, x1, q1⟩ => ?_⟩
    rw [hk.hK]
    cases et : tru x h1 with
    | none => rw [et] at q1; exact q1.elim
    | some k =>
      rw [et] at q1
      exact ⟨k, tru_of A1.rep x1 et, q1.done A1.rep (by simp only [RV])⟩

/-! ### tests -/
def mTru (m : M) : M := fun L h => (m L h).bind fun x h1 => match tru x h1 with
  | some k => .ok (.bl k) h1
  | none => .bad
def mB (x : W) (f : Bool → Rs) : Rs := match x with
  | .bl k => f k
  | _ => .bad
@[simp] theorem mB_bl (k : Bool) (f : Bool → Rs) : mB (.bl k) f = f k := rfl
def mAndT (ma mb : M) : M := fun L h => (ma L h).bind fun x h1 => mB x fun k => if k = true then mb L h1 else .ok (.bl false) h1
def mOrT (ma mb : M) : M := fun L h => (ma L h).bind fun x h1 => mB x fun k => if k = true then .ok (.bl true) h1 else mb L h1
def mNotT (ma : M) : M := fun L h => (ma L h).bind fun x h1 => mB x fun k => .ok (.bl !k) h1
def mIf (mc ma mb : M) : M := fun L h => (mc L h).bind fun x h1 => mB x fun k => if k = true then ma L h1 else mb L h1
/-- a test's first part -/
theorem tMT_step {k : Bool → Hq → Rs} {σ : Sl} {r : List Addr} {h : Hq} {H : Hp} {L : Loc} {Q : VK} (A : At g r h H L σ) (x : Aft g Wx σ ((ma L h).bind fun x h1 => mB x fun c => k c h1) r H Q) :
    tMT g Wx ma σ H fun c H1 => ∃ (r1 : List Addr) (h1 : Hq), At g r1 h1 H1 L σ ∧ Gro r H r1 H1 ∧ Aft g Wx σ (k c h1) r1 H1 Q := by
  refine ⟨r, h, L, A, ?_⟩
  cases em : ma L h with
  | ok w h1 =>
    rw [em] at x
    intro r1 H1 v G R q
    have x' : Aft g Wx σ (mB w fun c => k c h1) r H Q := x
    cases w with
    | bl c =>
      simp only [RV] at q
      exact ⟨c, q, r1, h1, A.gro G R, G, x'.gro G⟩
    | _ => exact x'.elim
  | ex c fs h1 =>
    rw [em] at x
    exact x
  | bad =>
    rw [em] at x
    exact x
theorem Aft.bl {σ : Sl} {r : List Addr} {h : Hq} {H : Hp} {Q : Bool → Hp → Prop} {k : Bool} (x : Aft g Wx σ (.ok (.bl k) h) r H fun v H' => ∃ b, v = .bl b ∧ Q b H') (R : Rep g r h H) : Q k H := by
  obtain ⟨b, e, q⟩ := x.done R (v := .bl k) (by simp only [RV])
  cases e
  exact q
theorem truth_ok (hk : Kx X g Wx) (ha : PEM X g Wx a ma) (he : ∀ whole, isTrue a X.env whole = (do let v ← whole; standAt a.pos; holding [v] (truthy v)) := by intro _; rfl) : PTM X g Wx a (mTru ma) :=
  pt_imp (pt_truth ha he) fun σ H Q ⟨r, h, L, A, q⟩ => by
    obtain ⟨r0, h0, L0, A0, q0⟩ := tM_step (ma := ma) A q
    refine ⟨r0, h0, L0, A0, q0.imp fun v H1 ⟨r1, h1, x, A1, G1, x1, q1⟩ => ?_⟩
    rw [hk.hK]
    cases et : tru x h1 with
    | none => rw [et] at q1; exact q1.elim
    | some k =>
      rw [et] at q1
      exact ⟨k, tru_of A1.rep x1 et, q1.bl A1.rep⟩
theorem and1T_ok (ha : PTM X g Wx a ma) : PWM X g Wx (.BoolOp .And [a] pos) ma := pw_and1 ha
theorem or1T_ok (ha : PTM X g Wx a ma) : PWM X g Wx (.BoolOp .Or [a] pos) ma := pw_or1 ha
theorem andT_ok (ha : PTM X g Wx a ma) (hb : PWM X g Wx (.BoolOp .And (b :: rest) pos) mb) : PWM X g Wx (.BoolOp .And (a :: b :: rest) pos) (mAndT ma mb) :=
  pw_imp (pw_and ha hb) fun σ H Q ⟨r, h, L, A, q⟩ => by
    obtain ⟨r0, h0, L0, A0, q0⟩ := tMT_step (ma := ma) (k := fun c h1 => if c = true then mb L h1 else .ok (.bl false) h1) A q
    refine ⟨r0, h0, L0, A0, q0.imp fun v H1 ⟨k, ev, r1, h1, A1, G1, q1⟩ => ⟨k, ev, ?_⟩⟩
    cases k with
    | true => exact iteT ⟨r1, h1, L, A1, q1⟩
    | false => exact iteF (Aft.bl q1 A1.rep)
theorem orT_ok (ha : PTM X g Wx a ma) (hb : PWM X g Wx (.BoolOp .Or (b :: rest) pos) mb) : PWM X g Wx (.BoolOp .Or (a :: b :: rest) pos) (mOrT ma mb) :=
  pw_imp (pw_or ha hb) fun σ H Q ⟨r, h, L, A, q⟩ => by
    obtain ⟨r0, h0, L0, A0, q0⟩ := tMT_step (ma := ma) (k := fun c h1 => if c = true then .ok (.bl true) h1 else mb L h1) A q
    refine ⟨r0, h0, L0, A0, q0.imp fun v H1 ⟨k, ev, r1, h1, A1, G1, q1⟩ => ⟨k, ev, ?_⟩⟩
    cases k with
    | true => exact iteT (Aft.bl q1 A1.rep)
    | false => exact iteF ⟨r1, h1, L, A1, q1⟩
theorem notT_ok (ha : PTM X g Wx a ma) : PTM X g Wx (.UnaryOp .Not a pos) (mNotT ma) :=
  pt_imp (pt_not ha) fun σ H Q ⟨r, h, L, A, q⟩ => by
    obtain ⟨r0, h0, L0, A0, q0⟩ := tMT_step (ma := ma) (k := fun c h1 => .ok (.bl !c) h1) A q
    refine ⟨r0, h0, L0, A0, q0.imp fun v H1 ⟨k, ev, r1, h1, A1, G1, q1⟩ => ⟨k, ev, Aft.bl q1 A1.rep⟩⟩
theorem ife_ok (hc : PTM X g Wx c mc) (ha : PEM X g Wx a ma) (hb : PEM X g Wx b mb) : PEM X g Wx (.IfExp c a b pos) (mIf mc ma mb) :=
  pe_imp (pe_ifExp hc ha hb) fun σ H Q ⟨r, h, L, A, q⟩ => by
    obtain ⟨r0, h0, L0, A0, q0⟩ := tMT_step (ma := mc) (k := fun c h1 => if c = true then ma L h1 else mb L h1) A q
    refine ⟨r0, h0, L0, A0, q0.imp fun v H1 ⟨k, ev, r1, h1, A1, G1, q1⟩ => ⟨k, ev, ?_⟩⟩
    cases k with
    | true => exact iteT ⟨r1, h1, L, A1, q1⟩
    | false => exact iteF ⟨r1, h1, L, A1, q1⟩

/-! ### chains -/
def mChain (f f' : W → W → Hq → Rs) (ma mb mc : M) : M := fun L h => (ma L h).bind fun x h1 => (mb L h1).bind fun y h2 => (f x y h2).bind fun z h3 => mB z fun k =>
  if k = true then (mc L h3).bind fun w h4 => f' y w h4 else .ok (.bl false) h3
/-- f hands on the heap as it is -/
def OpS1 (g : Gm) (Wx : WX) (rr : R2) (f : W → W → Hq → Rs) : Prop :=
  ∀ (r : List Addr) (h : Hq) (H : Hp) (σ : Sl) (x y : W) (v u : V) (k : Bool → Hq → Rs) (Q : VK), Rep g r h H → RV g.K r H x v → RV g.K r H y u → Aft g Wx σ ((f x y h).bind fun z h3 => mB z fun c => k c h3) r H Q →
    rr v u H fun z H3 => ∃ c, z = .bl c ∧ H3 = H ∧ Aft g Wx σ (k c h) r H Q
theorem chain_step {rr rr' : R2} {f f' : W → W → Hq → Rs} (hs : OpS1 g Wx rr f) (hs' : OpS g Wx rr' f') (mono : ∀ v u H Q Q', (∀ z H', Q z H' → Q' z H') → rr v u H Q → rr v u H Q') {σ : Sl} {H : Hp} {Q : VK} (q : tM g Wx (mChain f f' ma mb mc) σ H Q) :
    tChain rr rr' (tM g Wx ma) (tM g Wx mb) (tM g Wx mc) σ H Q := by
  obtain ⟨r, h, L, A, q⟩ := q
  obtain ⟨r0, h0, L0, A0, q0⟩ := tM_step (ma := ma) A q
  refine ⟨r0, h0, L0, A0, q0.imp fun v H1 ⟨r1, h1, x, A1, G1, x1, q1⟩ => ?_⟩
  obtain ⟨r2, h2, L2, A2, q2⟩ := tM_step (ma := mb) A1 q1
  refine ⟨r2, h2, L2, A2, q2.imp fun u H2 ⟨r3, h3, y, A3, G3, y3, q3⟩ => ?_⟩
  refine mono _ _ _ _ _ (fun z H3 ⟨c, ec, eH, qc⟩ => ?_) (hs r3 h3 H2 σ x y v u _ Q A3.rep (RV.gro G3 _ _ x1) y3 q3)
  subst eH
  refine ⟨c, ec, ?_⟩
  cases c with
  | false => exact iteF (qc.done A3.rep (by simp only [RV]))
  | true =>
    refine iteT ?_
    obtain ⟨r4, h4, L4, A4, q4⟩ := tM_step (ma := mc) A3 qc
    refine ⟨r4, h4, L4, A4, q4.imp fun w H5 ⟨r5, h5, z5, A5, G5, x5, q5⟩ => ?_⟩
    exact hs' r5 h5 H5 σ y z5 u w Q A5.rep (RV.gro G5 _ _ y3) x5 q5
theorem chain_ok {op op' : CmpOp} {rr rr' : R2} {f f' : W → W → Hq → Rs} (ho : OpR X (compareOp op) rr) (ho' : OpR X (compareOp op') rr') (hs : OpS1 g Wx rr f) (hs' : OpS g Wx rr' f') (mono : ∀ v u H Q Q', (∀ z H', Q z H' → Q' z H') → rr v u H Q → rr v u H Q')
    (ha : PEM X g Wx a ma) (hb : PEM X g Wx b mb) (hc : PEM X g Wx c mc) (hm : lastMarks [op, op'] [b, c] = false) : PEM X g Wx (.Compare a [op, op'] [b, c] pos) (mChain f f' ma mb mc) :=
  pe_imp (pe_chain ho ho' ha hb hc hm) fun _ _ _ q => chain_step hs hs' mono q
theorem chainT_ok {op op' : CmpOp} {rr rr' : R2} {f f' : W → W → Hq → Rs} (ho : OpR X (compareOp op) rr) (ho' : OpR X (compareOp op') rr') (hs : OpS1 g Wx rr f) (hs' : OpS g Wx rr' f') (mono : ∀ v u H Q Q', (∀ z H', Q z H' → Q' z H') → rr v u H Q → rr v u H Q')
    (ha : PEM X g Wx a ma) (hb : PEM X g Wx b mb) (hc : PEM X g Wx c mc) (hm : lastMarks [op, op'] [b, c] = false) : PTM X g Wx (.Compare a [op, op'] [b, c] pos) (mChain f f' ma mb mc) :=
  pt_imp (pt_chain ho ho' ha hb hc hm) fun _ _ _ q => chain_step hs hs' mono q

/-! ### argument lists, displays -/
def mNil : M := fun _ h => .ok (.tup []) h
def mCons (ma mr : M) : M := fun L h => (ma L h).bind fun x h1 => (mr L h1).bindL fun xs h2 => .ok (.tup (x :: xs)) h2
theorem nil_ok : PAM X g Wx [] mNil := pa_imp pa_nil fun σ H Q ⟨r, h, L, A, q⟩ => q r H [] Gro.refl A.rep .nil
theorem cons_ok {es : List Expr} {mr : M} (ha : PEM X g Wx a ma) (hr : PAM X g Wx es mr) (hs : starEach (a :: es) X.env = (false, eval a X.env) :: starEach es X.env := by rfl) : PAM X g Wx (a :: es) (mCons ma mr) :=
  pa_imp (pa_cons ha hr hs) fun σ H Q ⟨r, h, L, A, q⟩ => by
    refine ⟨r, h, L, A, ?_⟩
    cases em : ma L h with
    | bad => unfold mCons at q; rw [em] at q; exact q
    | ex c fs h1 => unfold mCons at q; rw [em] at q; exact q
    | ok x h1 =>
      unfold mCons at q; rw [em] at q
      intro r1 H1 v G R qx
      refine ⟨r1, h1, L, A.gro G R, ?_⟩
      have q : AftL g Wx σ ((mr L h1).bindL fun xs h2 => .ok (.tup (x :: xs)) h2) r H Q := q
      cases er : mr L h1 with
      | bad => rw [er] at q; exact q
      | ex c fs h2 => rw [er] at q; exact fun r2 H2 cls d G2 R2 x2 => q r2 H2 cls d (G.trans G2) R2 x2
      | ok y h2 =>
        rw [er] at q
        cases y with
        | tup ys => exact fun r2 H2 vs G2 R2 q2 => q r2 H2 (v :: vs) (G.trans G2) R2 (.cons (RV.gro G2 _ _ qx) q2)
        | _ => exact q
def mTup (ms : M) : M := fun L h => (ms L h).bindL fun ws h1 => if ws.length ≤ lineN then .ok (.tup ws) h1 else .bad
def mLst (ms : M) : M := fun L h => (ms L h).bindL fun ws h1 => if ws.length ≤ lineN then .ok (.lst ws) h1 else .bad
/-- a list that may be changed -/
def mLstC (ms : M) : M := fun L h => (ms L h).bindL fun ws h1 => if ws.length ≤ lineN then .ok (.cell h1.length) (h1 ++ [.lst ws]) else .bad
theorem tup_ok {es : List Expr} {k : Nat} {ms : M} (hs : PAM X g Wx es ms) : PEM X g Wx (.Tuple es k pos) (mTup ms) :=
  pe_imp (pe_tup hs) fun σ H Q ⟨r, h, L, A, q⟩ => by
    obtain ⟨r0, h0, L0, A0, q0⟩ := tML_step (ma := ms) A q
    refine ⟨r0, h0, L0, A0, ?_⟩
    cases em : ms L0 h0 with
    | bad => rw [em] at q0; exact q0
    | ex c fs h1 => rw [em] at q0; exact q0
    | ok x h1 =>
      rw [em] at q0
      cases x with
      | tup ws =>
        intro r1 H1 vs G R qx
        obtain ⟨r2, h2, ws2, A2, G2, q2, q3⟩ := q0 r1 H1 vs G R qx
        split at q3
        · rename_i hl
          refine ⟨by rw [← q2.len, lineN_eq]; exact hl, fun p hp => ?_⟩
          refine q3 r2 _ _ (Gro.upd hp) (A2.rep.upd hp) ?_
          simp only [RV]
          exact ⟨p, vs, rfl, ⟨A2.rep.fresh hp, upd_same⟩, RVs.gro (Gro.upd hp) _ _ q2⟩
        · exact q3.elim
      | _ => exact q0
theorem lst_ok {es : List Expr} {ms : M} (hs : PAM X g Wx es ms) : PEM X g Wx (.List es pos) (mLst ms) :=
  pe_imp (pe_lst hs) fun σ H Q ⟨r, h, L, A, q⟩ => by
    obtain ⟨r0, h0, L0, A0, q0⟩ := tML_step (ma := ms) A q
    refine ⟨r0, h0, L0, A0, ?_⟩
    cases em : ms L0 h0 with
    | bad => rw [em] at q0; exact q0
    | ex c fs h1 => rw [em] at q0; exact q0
    | ok x h1 =>
      rw [em] at q0
      cases x with
      | tup ws =>
        intro r1 H1 vs G R qx
        obtain ⟨r2, h2, ws2, A2, G2, q2, q3⟩ := q0 r1 H1 vs G R qx
        split at q3
        · rename_i hl
          refine ⟨by rw [← q2.len, lineN_eq]; exact hl, fun p hp => ?_⟩
          refine q3 r2 _ _ (Gro.upd hp) (A2.rep.upd hp) ?_
          simp only [RV]
          exact ⟨p, vs, rfl, ⟨A2.rep.fresh hp, upd_same⟩, RVs.gro (Gro.upd hp) _ _ q2⟩
        · exact q3.elim
      | _ => exact q0
theorem RV.new {r : List Addr} {h : Hq} {H : Hp} {p : Addr} (R : Rep g r h H) : RV g.K (r ++ [p]) H' (.cell h.length) (.ref p) := by
  simp only [RV]
  exact ⟨p, rfl, by rw [← R.len]; simp⟩
theorem lstC_ok {es : List Expr} {ms : M} (hs : PAM X g Wx es ms) : PEM X g Wx (.List es pos) (mLstC ms) :=
  pe_imp (pe_lst hs) fun σ H Q ⟨r, h, L, A, q⟩ => by
    obtain ⟨r0, h0, L0, A0, q0⟩ := tML_step (ma := ms) A q
    refine ⟨r0, h0, L0, A0, ?_⟩
    cases em : ms L0 h0 with
    | bad => rw [em] at q0; exact q0
    | ex c fs h1 => rw [em] at q0; exact q0
    | ok x h1 =>
      rw [em] at q0
      cases x with
      | tup ws =>
        intro r1 H1 vs G R qx
        obtain ⟨r2, h2, ws2, A2, G2, q2, q3⟩ := q0 r1 H1 vs G R qx
        split at q3
        · rename_i hl
          refine ⟨by rw [← q2.len, lineN_eq]; exact hl, fun p hp => ?_⟩
          refine q3 (r2 ++ [p]) _ _ (Gro.cell hp) (A2.rep.cell hp ⟨vs, rfl, RVs.gro (Gro.cell hp) _ _ q2⟩) (RV.new A2.rep)
        · exact q3.elim
      | _ => exact q0
end
end MR
/-! MExpr3: operators on values: arithmetic, joining, comparing. -/
namespace MR
open PySem PySem.Spec PyProof.Rows L2

/-- the items of a list -/
@[simp] def lstOf (w : W) (h : Hq) : Option (List W) := match w with
  | .lst l => some l
  | .cell n => match h[n]? with
    | some (.lst l) => some l
    | _ => none
  | _ => none
/-- the items of what may be read as a row -/
@[simp] def seqOf (w : W) (h : Hq) : Option (List W) := match w with
  | .tup l => some l
  | .ktup l => some l
  | .rol l => some l
  | w => lstOf w h
section
variable {X : Cx} {g : Gm} {Wx : WX} {e a b c : Expr} {m ma mb mc : M} {pos : Pos}
theorem lstOf_at {r : List Addr} {h : Hq} {H : Hp} {w : W} {v : V} {l : List W} (R : Rep g r h H) (q : RV g.K r H w v) (t : lstOf w h = some l) :
    ∃ (p : Addr) (vs : List V), v = .ref p ∧ H p = some (.lst vs) ∧ RVs g.K r H l vs := by
  cases w with
  | lst l' =>
    simp only [lstOf, Option.some.injEq] at t; subst t
    simp only [RV] at q
    obtain ⟨p, vs, rfl, ⟨_, hp⟩, q⟩ := q
    exact ⟨p, vs, rfl, hp, q⟩
  | cell n =>
    simp only [lstOf] at t
    cases ec : h[n]? with
    | none => rw [ec] at t; cases t
    | some d =>
      rw [ec] at t
      obtain ⟨p, o, rfl, _, hp, rc⟩ := cell_at R q ec
      cases d with
      | lst l' =>
        obtain ⟨vs, rfl, q'⟩ := rc
        cases t
        exact ⟨p, vs, rfl, hp, q'⟩
      | _ => cases t
  | _ => simp only [lstOf] at t; cases t
theorem seqOf_at {r : List Addr} {h : Hq} {H : Hp} {w : W} {v : V} {l : List W} (R : Rep g r h H) (q : RV g.K r H w v) (t : seqOf w h = some l) :
    ∃ (p : Addr) (vs : List V), v = .ref p ∧ (SqL g.K H p vs ∨ SqT g.K H p vs) ∧ RVs g.K r H l vs := by
  cases w with
  | tup l' =>
    simp only [seqOf, Option.some.injEq] at t; subst t
    simp only [RV] at q
    obtain ⟨p, vs, rfl, ⟨_, hp⟩, q⟩ := q
    exact ⟨p, vs, rfl, .inr (SqT.of hp), q⟩
  | ktup l' =>
    simp only [seqOf, Option.some.injEq] at t; subst t
    simp only [RV] at q
    obtain ⟨p, vs, rfl, hp, q⟩ := q
    exact ⟨p, vs, rfl, .inr (.inr hp), q⟩
  | rol l' =>
    simp only [seqOf, Option.some.injEq] at t; subst t
    simp only [RV] at q
    obtain ⟨p, vs, rfl, hp, q⟩ := q
    refine ⟨p, vs, rfl, .inl ?_, q⟩
    rcases hp with ⟨_, hp⟩ | hp
    · exact .inl hp
    · exact .inr hp
  | lst l' =>
    obtain ⟨p, vs, e1, e2, e3⟩ := lstOf_at R q t
    exact ⟨p, vs, e1, .inl (SqL.of e2), e3⟩
  | cell n =>
    obtain ⟨p, vs, e1, e2, e3⟩ := lstOf_at R q t
    exact ⟨p, vs, e1, .inl (SqL.of e2), e3⟩
  | _ => simp only [seqOf, lstOf] at t; cases t

/-! ### numbers -/
@[simp] def fAdd (x y : W) (h : Hq) : Rs := match x, y with
  | .int i, .int j => .ok (.int (i + j)) h
  | .str s, .str t => if s.length + t.length ≤ lineN then .ok (.str (s ++ t)) h else .bad
  | .tup k, .tup l => if k = [] then .bad else if k.length + l.length ≤ lineN then .ok (.tup (k ++ l)) h else .bad
  | x, y => match lstOf x h, lstOf y h with
    | some k, some l => if k.length + l.length ≤ lineN then .ok (.lst (k ++ l)) h else .bad
    | _, _ => .bad
def rAddA (K : PySem.W.Frag) : R2 := fun x y H Q => (∃ i j, x = .int i ∧ y = .int j ∧ Q (.int (i + j)) H) ∨ ((∃ i j, x = .str i ∧ y = .str j ∧ i.length + j.length ≤ sizeLine ∧ Q (.str (i ++ j)) H) ∨ (rCatT K x y H Q ∨ rCat x y H Q))
theorem op_addA : OpR X (binaryOp .Add) (rAddA X.K) := op_add.or (op_add_str.or (op_catT.or op_cat))
theorem sV_app (s t : List Nat) : sV s ++ sV t = sV (s ++ t) := by
  show (⟨s.toArray ++ t.toArray⟩ : Str) = ⟨(s ++ t).toArray⟩
  simp
theorem add_S : OpS g Wx (rAddA g.K) fAdd := by
  intro r h H σ x y v u Q R qx qy q
  unfold fAdd at q
  split at q
  · simp only [RV] at qx qy; subst qx qy
    exact .inl ⟨_, _, rfl, rfl, q.done R (by simp only [RV])⟩
  · simp only [RV] at qx qy; subst qx qy
    split at q
    · rename_i hl
      exact .inr (.inl ⟨_, _, rfl, rfl, by rw [sV_len, sV_len, lineN_eq]; exact hl, by rw [sV_app]; exact q.done R (by simp only [RV])⟩)
    · exact q.elim
  · rename_i k l
    simp only [RV] at qx qy
    obtain ⟨p, vs, rfl, ⟨np, hp⟩, q1⟩ := qx
    obtain ⟨p2, us, rfl, ⟨np2, hp2⟩, q2⟩ := qy
    split at q
    · exact q.elim
    · rename_i hk
      split at q
      · rename_i hl
        have hvs : vs ≠ [] := fun z => hk (by have := q1.len; rw [z] at this; simpa using this)
        refine .inr (.inr (.inl ⟨p, p2, vs, us, rfl, rfl, SqT.of hp, SqT.of hp2, hvs, by rw [← q1.len, ← q2.len, lineN_eq]; exact hl, fun z => ?_, fun z p3 hp3 => ?_⟩))
        · have hl2 : l = [] := by have := q2.len; rw [z] at this; simpa using this
          subst hl2
          refine q.done R ?_
          simp only [RV, List.append_nil]
          exact ⟨p, vs, rfl, ⟨np, hp⟩, q1⟩
        · refine q r _ _ (Gro.upd hp3) (R.upd hp3) ?_
          simp only [RV]
          exact ⟨p3, vs ++ us, rfl, ⟨R.fresh hp3, upd_same⟩, RVs.gro (Gro.upd hp3) _ _ (q1.app q2)⟩
      · exact q.elim
  · split at q
    · rename_i k l e1 e2
      obtain ⟨p, vs, rfl, hp, q1⟩ := lstOf_at R qx e1
      obtain ⟨p2, us, rfl, hp2, q2⟩ := lstOf_at R qy e2
      split at q
      · rename_i hl
        refine .inr (.inr (.inr ⟨p, p2, vs, us, rfl, rfl, hp, hp2, by rw [← q1.len, ← q2.len, lineN_eq]; exact hl, fun p3 hp3 => ?_⟩))
        refine q r _ _ (Gro.upd hp3) (R.upd hp3) ?_
        simp only [RV]
        exact ⟨p3, vs ++ us, rfl, ⟨R.fresh hp3, upd_same⟩, RVs.gro (Gro.upd hp3) _ _ (q1.app q2)⟩
      · exact q.elim
    · exact q.elim
@[simp] def fSub (x y : W) (h : Hq) : Rs := match x, y with
  | .int i, .int j => .ok (.int (i - j)) h
  | _, _ => .bad
theorem sub_S : OpS g Wx (rI0 fun i j => .int (i - j)) fSub := by
  intro r h H σ x y v u Q R qx qy q
  unfold fSub at q
  split at q
  · simp only [RV] at qx qy; subst qx qy
    exact ⟨_, _, rfl, rfl, q.done R (by simp only [RV])⟩
  · exact q.elim
@[simp] def fMul (x y : W) (h : Hq) : Rs := match x, y with
  | .int i, .int j => if (-18446744073709551616 < i ∧ i < 18446744073709551616) ∨ (-18446744073709551616 < j ∧ j < 18446744073709551616) then .ok (.int (i * j)) h else .bad
  | x, .int k => match lstOf x h with
    | some l => if -9223372036854775808 ≤ k ∧ k < 9223372036854775808 ∧ l.length * k.toNat ≤ lineN then .ok (.lst (List.replicate k.toNat l).flatten) h else .bad
    | none => .bad
  | _, _ => .bad
def rMulA : R2 := fun x y H Q => rI CMul (fun i j => .int (i * j)) x y H Q ∨ rRep x y H Q
theorem op_mulA : OpR X (binaryOp .Mult) rMulA := op_mul.or op_rep
theorem mul_S : OpS g Wx rMulA fMul := by
  intro r h H σ x y v u Q R qx qy q
  unfold fMul at q
  split at q
  · simp only [RV] at qx qy; subst qx qy
    split at q
    · rename_i hl
      exact .inl ⟨_, _, rfl, rfl, hl, q.done R (by simp only [RV])⟩
    · exact q.elim
  · rename_i k hn
    split at q
    · rename_i l e1
      simp only [RV] at qy; subst qy
      obtain ⟨p, vs, rfl, hp, q1⟩ := lstOf_at R qx e1
      split at q
      · rename_i hl
        refine .inr ⟨p, k, vs, rfl, rfl, hp, hl.1, hl.2.1, by rw [← q1.len, lineN_eq]; exact hl.2.2, fun p3 hp3 => ?_⟩
        refine q r _ _ (Gro.upd hp3) (R.upd hp3) ?_
        simp only [RV]
        exact ⟨p3, _, rfl, ⟨R.fresh hp3, upd_same⟩, RVs.gro (Gro.upd hp3) _ _ (q1.rep k.toNat)⟩
      · exact q.elim
    · exact q.elim
  · exact q.elim
@[simp] def fDiv (x y : W) (h : Hq) : Rs := match x, y with
  | .int i, .int j => if 0 < j ∧ j < 1073741824 then .ok (.int (i / j)) h else .bad
  | _, _ => .bad
theorem div_S : OpS g Wx (rI CDiv fun i j => .int (i / j)) fDiv := by
  intro r h H σ x y v u Q R qx qy q
  unfold fDiv at q
  split at q
  · simp only [RV] at qx qy; subst qx qy
    split at q
    · rename_i hl
      exact ⟨_, _, rfl, rfl, hl, q.done R (by simp only [RV])⟩
    · exact q.elim
  · exact q.elim
@[simp] def fMod (x y : W) (h : Hq) : Rs := match x, y with
  | .int i, .int j => if 0 < j then .ok (.int (i % j)) h else .bad
  | _, _ => .bad
theorem mod_S : OpS g Wx (rI (fun _ j => 0 < j) fun i j => .int (i % j)) fMod := by
  intro r h H σ x y v u Q R qx qy q
  unfold fMod at q
  split at q
  · simp only [RV] at qx qy; subst qx qy
    split at q
    · rename_i hl
      exact ⟨_, _, rfl, rfl, hl, q.done R (by simp only [RV])⟩
    · exact q.elim
  · exact q.elim
@[simp] def fPow (x y : W) (h : Hq) : Rs := match x, y with
  | .int i, .int j => if 0 ≤ j ∧ j ≤ 1000000 ∧ i.natAbs < 18446744073709551616 then .ok (.int (i ^ j.toNat)) h else .bad
  | _, _ => .bad
theorem pow_S : OpS g Wx (rI CPow fun i j => .int (i ^ j.toNat)) fPow := by
  intro r h H σ x y v u Q R qx qy q
  unfold fPow at q
  split at q
  · simp only [RV] at qx qy; subst qx qy
    split at q
    · rename_i hl
      exact ⟨_, _, rfl, rfl, hl, q.done R (by simp only [RV])⟩
    · exact q.elim
  · exact q.elim
def mNeg (ma : M) : M := fun L h => (ma L h).bind fun x h1 => match x with
  | .int i => .ok (.int (-i)) h1
  | _ => .bad
theorem neg_ok (ha : PEM X g Wx a ma) : PEM X g Wx (.UnaryOp .USub a pos) (mNeg ma) :=
  pe_imp (pe_un un_neg ha) fun σ H Q ⟨r, h, L, A, q⟩ => by
    obtain ⟨r0, h0, L0, A0, q0⟩ := tM_step (ma := ma) A q
    refine ⟨r0, h0, L0, A0, q0.imp fun v H1 ⟨r1, h1, x, A1, G1, x1, q1⟩ => ?_⟩
    cases x with
    | int i =>
      simp only [RV] at x1; subst x1
      exact ⟨i, rfl, q1.done A1.rep (by simp only [RV])⟩
    | _ => exact q1.elim

/-! ### data, and == -/
@[simp] def allD (f : W → Option PyData) : List W → Option (List PyData)
  | [] => some []
  | w :: r => match f w, allD f r with
    | some d, some ds => some (d :: ds)
    | _, _ => none
def toD (h : Hq) : Nat → W → Option PyData
  | 0, _ => none
  | n + 1, w => match w with
    | .non => some .none
    | .bl b => some (.bool b)
    | .int i => some (.int i)
    | .str s => if s.all (· < 0x110000) then some (.str (sV s)) else none
    | .tup l => (allD (toD h n) l).map .tuple
    | .ktup l => (allD (toD h n) l).map .tuple
    | .rol l => (allD (toD h n) l).map .list
    | w => match lstOf w h with
      | some l => (allD (toD h n) l).map .list
      | none => none
theorem strOk_sV (s : List Nat) : PyData.strOk (sV s) = s.all (· < 0x110000) := by
  show s.toArray.all (· < 0x110000) = _
  simp
theorem allD_shaped {f : W → Option PyData} {n : Nat} (ih : ∀ w d, f w = some d → d.canLay0 = true ∧ d.depth ≤ n) : ∀ (l : List W) (ds : List PyData), allD f l = some ds → PyData.canLayAll0 ds = true ∧ PyData.depthAll ds ≤ n
  | [], ds, e => by
    simp only [allD, Option.some.injEq] at e; subst e
    exact ⟨by simp [PyData.canLayAll0], by simp [PyData.depthAll]⟩
  | w :: r, ds, e => by
    simp only [allD] at e
    split at e
    · rename_i d ds' e1 e2
      cases e
      obtain ⟨a1, a2⟩ := ih _ _ e1
      obtain ⟨b1, b2⟩ := allD_shaped ih r ds' e2
      exact ⟨by simp [PyData.canLayAll0, a1, b1], by simp only [PyData.depthAll]; omega⟩
    · cases e
theorem toD_shaped {h : Hq} : ∀ (n : Nat) (w : W) (d : PyData), toD h n w = some d → d.canLay0 = true ∧ d.depth ≤ n
  | 0, _, _, e => by simp only [toD] at e; cases e
  | n + 1, w, d, e => by
    have seq : ∀ (l : List W) (f : List PyData → PyData), (f = .tuple ∨ f = .list) → (allD (toD h n) l).map f = some d → d.canLay0 = true ∧ d.depth ≤ n + 1 := fun l f hf e1 => by
      cases e2 : allD (toD h n) l with
      | none => rw [e2] at e1; cases e1
      | some ds =>
        rw [e2] at e1
        simp only [Option.map_some, Option.some.injEq] at e1
        obtain ⟨b1, b2⟩ := allD_shaped (fun w d => toD_shaped n w d) l ds e2
        rcases hf with z | z <;> subst z <;> subst e1 <;> exact ⟨by simp only [PyData.canLay0]; exact b1, by simp only [PyData.depth]; omega⟩
    simp only [toD] at e
    split at e
    · cases e; exact ⟨by simp [PyData.canLay0], by simp [PyData.depth]⟩
    · cases e; exact ⟨by simp [PyData.canLay0], by simp [PyData.depth]⟩
    · cases e; exact ⟨by simp [PyData.canLay0], by simp [PyData.depth]⟩
    · split at e
      · rename_i hs
        cases e
        exact ⟨by simp only [PyData.canLay0]; rw [strOk_sV]; exact hs, by simp [PyData.depth]⟩
      · cases e
    · exact seq _ _ (.inl rfl) e
    · exact seq _ _ (.inl rfl) e
    · exact seq _ _ (.inr rfl) e
    · split at e
      · exact seq _ _ (.inr rfl) e
      · cases e
theorem shaped_toD {h : Hq} {n : Nat} {w : W} {d : PyData} (hn : n ≤ 64) (e : toD h n w = some d) : SeqAt.shaped d = true := by
  obtain ⟨a1, a2⟩ := toD_shaped n w d e
  unfold SeqAt.shaped
  rw [a1, Bool.true_and, decide_eq_true_eq]
  omega
theorem Dp_all {r : List Addr} {H : Hp} {f : W → Option PyData} (ih : ∀ w v d, RV g.K r H w v → f w = some d → Dp g.K H v d) : ∀ (l : List W) (vs : List V) (ds : List PyData), RVs g.K r H l vs → allD f l = some ds → DpAll g.K H vs ds
  | [], vs, ds, q, e => by
    simp only [allD, Option.some.injEq] at e; subst e
    rw [q.inv0]; exact .nil
  | w :: l, vs, ds, q, e => by
    simp only [allD] at e
    obtain ⟨v, t, rfl, q1, q2⟩ := q.inv
    split at e
    · rename_i d ds' e1 e2
      cases e
      exact .cons (ih _ _ _ q1 e1) (Dp_all ih l t ds' q2 e2)
    · cases e
theorem Dp_of {r : List Addr} {h : Hq} {H : Hp} (R : Rep g r h H) : ∀ (n : Nat) (w : W) (v : V) (d : PyData), RV g.K r H w v → toD h n w = some d → Dp g.K H v d
  | 0, _, _, _, _, e => by simp only [toD] at e; cases e
  | n + 1, w, v, d, q, e => by
    have ih := Dp_all (fun w v d => Dp_of R n w v d)
    simp only [toD] at e
    split at e
    · cases e; simp only [RV] at q; subst q; exact .non
    · cases e; simp only [RV] at q; subst q; exact .bl _
    · cases e; simp only [RV] at q; subst q; exact .int _
    · split at e
      · cases e; simp only [RV] at q; subst q; exact .str _
      · cases e
    · rename_i l
      obtain ⟨ds, e1, e2⟩ := Option.map_eq_some_iff.mp e
      subst e2
      simp only [RV] at q
      obtain ⟨p, vs, rfl, ⟨_, hp⟩, q⟩ := q
      exact .tup (SqT.of hp) (ih _ _ _ q e1)
    · rename_i l
      obtain ⟨ds, e1, e2⟩ := Option.map_eq_some_iff.mp e
      subst e2
      simp only [RV] at q
      obtain ⟨p, vs, rfl, hp, q⟩ := q
      exact .tup (.inr hp) (ih _ _ _ q e1)
    · rename_i l
      obtain ⟨ds, e1, e2⟩ := Option.map_eq_some_iff.mp e
      subst e2
      simp only [RV] at q
      obtain ⟨p, vs, rfl, hp, q⟩ := q
      refine .lst ?_ (ih _ _ _ q e1)
      rcases hp with ⟨_, hp⟩ | hp
      · exact .inl hp
      · exact .inr hp
    · split at e
      · rename_i l el
        obtain ⟨ds, e1, e2⟩ := Option.map_eq_some_iff.mp e
        subst e2
        obtain ⟨p, vs, rfl, hp, q⟩ := lstOf_at R q el
        exact .lst (SqL.of hp) (ih _ _ _ q e1)
      · cases e
@[simp] def eqF : Nat := 24
/-- == of data -/
def eqW (x y : W) (h : Hq) : Option Bool := match toD h eqF x, toD h eqF y with
  | some d, some e => some (PyData.eqv d e)
  | _, _ => none
theorem eqW_at {r : List Addr} {h : Hq} {H : Hp} {x y : W} {v u : V} {k : Bool} (R : Rep g r h H) (qx : RV g.K r H x v) (qy : RV g.K r H y u) (e : eqW x y h = some k) :
    ∃ d d', Dp g.K H v d ∧ Dp g.K H u d' ∧ SeqAt.shaped d = true ∧ SeqAt.shaped d' = true ∧ k = PyData.eqv d d' := by
  unfold eqW at e
  split at e
  · rename_i d d' e1 e2
    cases e
    exact ⟨d, d', Dp_of R _ _ _ _ qx e1, Dp_of R _ _ _ _ qy e2, shaped_toD (by decide) e1, shaped_toD (by decide) e2, rfl⟩
  · cases e
def fEq (x y : W) (h : Hq) : Rs := match eqW x y h with
  | some k => .ok (.bl k) h
  | none => .bad
def fNe (x y : W) (h : Hq) : Rs := match eqW x y h with
  | some k => .ok (.bl !k) h
  | none => .bad
theorem eq_S : OpS g Wx (rEqD g.K) fEq := by
  intro r h H σ x y v u Q R qx qy q
  unfold fEq at q
  split at q
  · rename_i k e
    obtain ⟨d, d', h1, h2, h3, h4, rfl⟩ := eqW_at R qx qy e
    exact ⟨d, d', h1, h2, h3, h4, q.done R (by simp only [RV])⟩
  · exact q.elim
theorem ne_S : OpS g Wx (rNeD g.K) fNe := by
  intro r h H σ x y v u Q R qx qy q
  unfold fNe at q
  split at q
  · rename_i k e
    obtain ⟨d, d', h1, h2, h3, h4, rfl⟩ := eqW_at R qx qy e
    exact ⟨d, d', h1, h2, h3, h4, q.done R (by simp only [RV])⟩
  · exact q.elim
/-! ### order, is None -/
@[simp] def fCmpI (p : Int → Int → Bool) (x y : W) (h : Hq) : Rs := match x, y with
  | .int i, .int j => .ok (.bl (p i j)) h
  | _, _ => .bad
theorem cmpI_S (p : Int → Int → Bool) : OpS g Wx (rI0 fun i j => .bl (p i j)) (fCmpI p) := by
  intro r h H σ x y v u Q R qx qy q
  unfold fCmpI at q
  split at q
  · simp only [RV] at qx qy; subst qx qy
    exact ⟨_, _, rfl, rfl, q.done R (by simp only [RV])⟩
  · exact q.elim
theorem cmpI_S1 (p : Int → Int → Bool) : OpS1 g Wx (rI0 fun i j => .bl (p i j)) (fCmpI p) := by
  intro r h H σ x y v u k Q R qx qy q
  unfold fCmpI at q
  split at q
  · simp only [RV] at qx qy; subst qx qy
    exact ⟨_, _, rfl, rfl, _, rfl, rfl, q⟩
  · exact q.elim
theorem rI0_mono {f : Int → Int → V} (v u : V) (H : Hp) (Q Q' : VK) (i : ∀ z H', Q z H' → Q' z H') (h : rI0 f v u H Q) : rI0 f v u H Q' := by
  obtain ⟨a, b, h1, h2, h3⟩ := h
  exact ⟨a, b, h1, h2, i _ _ h3⟩
abbrev fLt := fCmpI fun i j => decide (i < j)
abbrev fLe := fCmpI fun i j => decide (i ≤ j)
abbrev fGt := fCmpI fun i j => decide (j < i)
abbrev fGe := fCmpI fun i j => decide (j ≤ i)
@[simp] def isNon : W → Bool
  | .non => true
  | _ => false
theorem isNon_at {r : List Addr} {H : Hp} {x : W} {v : V} (q : RV g.K r H x v) : isNon x = decide (v = .non) := by
  cases x with
  | non => simp only [RV] at q; subst q; rfl
  | bl _ => simp only [RV] at q; subst q; rfl
  | int _ => simp only [RV] at q; subst q; rfl
  | str _ => simp only [RV] at q; subst q; rfl
  | tup _ => simp only [RV] at q; obtain ⟨p, vs, rfl, _⟩ := q; rfl
  | lst _ => simp only [RV] at q; obtain ⟨p, vs, rfl, _⟩ := q; rfl
  | ktup _ => simp only [RV] at q; obtain ⟨p, vs, rfl, _⟩ := q; rfl
  | rol _ => simp only [RV] at q; obtain ⟨p, vs, rfl, _⟩ := q; rfl
  | cell _ => simp only [RV] at q; obtain ⟨p, rfl, _⟩ := q; rfl
@[simp] def fIsN (x y : W) (h : Hq) : Rs := if isNon y then .ok (.bl (isNon x)) h else .bad
@[simp] def fNotN (x y : W) (h : Hq) : Rs := if isNon y then .ok (.bl (!isNon x)) h else .bad
theorem isN_S : OpS g Wx (fun x y H Q => y = .non ∧ Q (.bl (decide (x = .non))) H) fIsN := by
  intro r h H σ x y v u Q R qx qy q
  unfold fIsN at q
  split at q
  · rename_i hy
    rw [isNon_at qy, decide_eq_true_eq] at hy
    refine ⟨hy, ?_⟩
    rw [← isNon_at qx]
    exact q.done R (by simp only [RV])
  · exact q.elim
theorem notN_S : OpS g Wx (fun x y H Q => y = .non ∧ Q (.bl (!decide (x = .non))) H) fNotN := by
  intro r h H σ x y v u Q R qx qy q
  unfold fNotN at q
  split at q
  · rename_i hy
    rw [isNon_at qy, decide_eq_true_eq] at hy
    refine ⟨hy, ?_⟩
    rw [← isNon_at qx]
    exact q.done R (by simp only [RV])
  · exact q.elim
end
end MR
/-! MExpr4: dicts' keys, places, membership, attributes. -/
namespace MR
open PySem PySem.Spec PyProof.Rows L2

/-! ### keys -/
section
variable {κ : Type} [DecidableEq κ]
@[simp] def dGet (f : W → Option κ) : List (W × W) → κ → Option W
  | [], _ => none
  | p :: l, k => if f p.1 = some k then some p.2 else dGet f l k
@[simp] def dPut (f : W → Option κ) (l : List (W × W)) (k : κ) (kw w : W) : List (W × W) :=
  if (dGet f l k).isSome then l.map fun p => if f p.1 = some k then (p.1, w) else p else l ++ [(kw, w)]
@[simp] def dDrop (f : W → Option κ) (l : List (W × W)) (k : κ) : List (W × W) := l.filter fun p => decide (f p.1 ≠ some k)
variable {f : W → Option κ} {K : PySem.W.Frag} {r : List Addr} {H : Hp}
theorem RKs.look (k : κ) : ∀ {l : List (W × W)} {kvs : List (κ × V)}, RKs f K r H l kvs →
    (∀ w, dGet f l k = some w → ∃ v, valV kvs k = some v ∧ RV K r H w v) ∧ (dGet f l k = none → valV kvs k = none)
  | [], kvs, h => by
    simp only [RKs] at h; subst h
    exact ⟨fun w e => by simp [dGet] at e, fun _ => rfl⟩
  | p :: l, kvs, h => by
    simp only [RKs] at h
    obtain ⟨k', v, t, rfl, e1, e2, e3⟩ := h
    obtain ⟨i1, i2⟩ := RKs.look k e3
    by_cases hk : k' = k
    · subst hk
      refine ⟨fun w e => ?_, fun e => ?_⟩
      · simp only [dGet, e1, if_true] at e
        cases e
        exact ⟨v, valV_pos rfl, e2⟩
      · simp only [dGet, e1, if_true] at e
        cases e
    · have hk2 : ¬ f p.1 = some k := fun z => hk (by rw [e1] at z; exact Option.some.inj z)
      refine ⟨fun w e => ?_, fun e => ?_⟩
      · simp only [dGet, if_neg hk2] at e
        rw [valV_neg hk]
        exact i1 w e
      · simp only [dGet, if_neg hk2] at e
        rw [valV_neg hk]
        exact i2 e
theorem RKs.look_o {l : List (W × W)} {kvs : List (κ × V)} (h : RKs f K r H l kvs) (k : κ) : (valV kvs k).isSome = (dGet f l k).isSome := by
  obtain ⟨i1, i2⟩ := RKs.look k h
  cases e : dGet f l k with
  | none => rw [i2 e] <;> rfl
  | some w => obtain ⟨v, e1, _⟩ := i1 w e; rw [e1] <;> rfl
theorem RKs.mapd {k : κ} {w : W} {v : V} (q : RV K r H w v) : ∀ {l : List (W × W)} {kvs : List (κ × V)}, RKs f K r H l kvs →
    RKs f K r H (l.map fun p => if f p.1 = some k then (p.1, w) else p) (kvs.map fun kv => if kv.1 = k then (kv.1, v) else kv)
  | [], kvs, h => by simp only [RKs] at h; subst h; simp [RKs]
  | p :: l, kvs, h => by
    simp only [RKs] at h
    obtain ⟨k', v', t, rfl, e1, e2, e3⟩ := h
    have ih := RKs.mapd (k := k) q e3
    simp only [List.map_cons, RKs]
    by_cases hk : k' = k
    · subst hk
      rw [if_pos e1, if_pos (show (k', v').1 = k' from rfl)]
      exact ⟨k', v, _, rfl, e1, q, ih⟩
    · have hk2 : ¬ f p.1 = some k := fun z => hk (by rw [e1] at z; exact Option.some.inj z)
      rw [if_neg hk2, if_neg (show ¬ (k', v').1 = k from hk)]
      exact ⟨k', v', _, rfl, e1, e2, ih⟩
theorem RKs.app : ∀ {l l' : List (W × W)} {kvs kvs' : List (κ × V)}, RKs f K r H l kvs → RKs f K r H l' kvs' → RKs f K r H (l ++ l') (kvs ++ kvs')
  | [], _, kvs, _, h, h' => by simp only [RKs] at h; subst h; exact h'
  | p :: l, _, kvs, _, h, h' => by
    simp only [RKs] at h
    obtain ⟨k, v, t, rfl, e1, e2, e3⟩ := h
    exact ⟨k, v, _, rfl, e1, e2, RKs.app e3 h'⟩
theorem RKs.one {kw w : W} {k : κ} {v : V} (e : f kw = some k) (q : RV K r H w v) : RKs f K r H [(kw, w)] [(k, v)] := ⟨k, v, [], rfl, e, q, rfl⟩
theorem RKs.put {l : List (W × W)} {kvs : List (κ × V)} (h : RKs f K r H l kvs) {kw w : W} {k : κ} {v : V} (e : f kw = some k) (q : RV K r H w v) : RKs f K r H (dPut f l k kw w) (putK kvs k v) := by
  unfold dPut putK
  rw [valV_any, h.look_o k]
  split
  · exact h.mapd q
  · exact h.app (.one e q)
theorem RKs.drop {k : κ} : ∀ {l : List (W × W)} {kvs : List (κ × V)}, RKs f K r H l kvs → RKs f K r H (dDrop f l k) (dropK kvs k)
  | [], kvs, h => by simp only [RKs] at h; subst h; simp [RKs, dDrop, dropK]
  | p :: l, kvs, h => by
    simp only [RKs] at h
    obtain ⟨k', v', t, rfl, e1, e2, e3⟩ := h
    have ih := RKs.drop (k := k) e3
    unfold dDrop dropK at ih ⊢
    by_cases hk : k' = k
    · have hk2 : f p.1 = some k := by rw [e1, hk]
      simpa [List.filter_cons, hk, hk2] using ih
    · have hk2 : ¬ f p.1 = some k := fun z => hk (by rw [e1] at z; exact Option.some.inj z)
      simp only [List.filter_cons, hk, hk2, ne_eq, not_false_eq_true, decide_true, if_true]
      exact ⟨k', v', _, rfl, e1, e2, ih⟩
end
theorem keyOf_at {K : PySem.W.Frag} {r : List Addr} {H : Hp} {w : W} {v : V} {k : Key} (q : RV K r H w v) (e : keyOf w = some k) : v = kV k := by
  cases w with
  | int i => simp only [RV] at q; simp only [keyOf, Option.some.injEq] at e; subst q e; rfl
  | str s => simp only [RV] at q; simp only [keyOf, Option.some.injEq] at e; subst q e; rfl
  | _ => simp only [keyOf] at e; cases e
theorem keysOf_at {K : PySem.W.Frag} {r : List Addr} {H : Hp} : ∀ {ws : List W} {vs : List V} {ks : List Key}, RVs K r H ws vs → keysOf ws = some ks → vs = ks.map kV
  | [], vs, ks, q, e => by simp only [keysOf, Option.some.injEq] at e; subst e; exact q.inv0
  | w :: ws, vs, ks, q, e => by
    obtain ⟨v, t, rfl, q1, q2⟩ := q.inv
    simp only [keysOf] at e
    split at e
    · rename_i k ks' e1 e2
      cases e
      rw [keyOf_at q1 e1, keysOf_at q2 e2] <;> rfl
    · cases e
theorem keyT_at {K : PySem.W.Frag} {r : List Addr} {H : Hp} {w : W} {v : V} {k : List Key} (q : RV K r H w v) (e : keyT w = some k) : ∃ p, v = .ref p ∧ H p = some (.tup (k.map kV)) := by
  cases w with
  | tup l =>
    simp only [RV] at q
    obtain ⟨p, vs, rfl, ⟨_, hp⟩, q⟩ := q
    exact ⟨p, rfl, by rw [hp, keysOf_at q e]⟩
  | _ => simp only [keyT] at e; cases e

section
variable {X : Cx} {g : Gm} {Wx : WX} {e a b c : Expr} {m ma mb mc : M} {pos : Pos}
/-- what a dict has at a key: none: it is no dict that may be asked so -/
@[simp] def dAsk (x y : W) (h : Hq) : Option (Option W) := match x with
  | .cell n => match h[n]? with
    | some (.dk _ l) => match keyOf y with
      | some k => some (dGet keyOf l k)
      | none => none
    | some (.dt _ l) => match keyT y with
      | some k => some (dGet keyT l k)
      | none => none
    | _ => none
  | _ => none
theorem lkO_rd {lk : Bool} {u o : HO} {H : Hp} {p : Addr} (q : lkO lk u o) (hp : H p = some o) : Rd H p u := by
  cases lk with
  | true =>
    obtain ⟨ob, e⟩ : ∃ ob, o = .frz ob u := q
    exact .inr ⟨ob, by rw [hp, e]⟩
  | false =>
    have e : o = u := q
    exact .inl (by rw [hp, e])
theorem dAsk_at {r : List Addr} {h : Hq} {H : Hp} {x y : W} {v u : V} {o : Option W} (R : Rep g r h H) (qx : RV g.K r H x v) (qy : RV g.K r H y u) (e : dAsk x y h = some o) :
    ∃ (p : Addr) (o' : Option V), v = .ref p ∧ DGet H p u o' ∧ o'.isSome = o.isSome ∧ ∀ w, o = some w → ∃ v', o' = some v' ∧ RV g.K r H w v' := by
  unfold dAsk at e
  split at e
  · rename_i n
    split at e
    · rename_i lk l ec
      obtain ⟨p, ob, rfl, _, hp, kvs, lo, rc⟩ := cell_at R qx ec
      split at e
      · rename_i k ek
        cases e
        obtain ⟨i1, i2⟩ := RKs.look k rc
        exact ⟨p, valV kvs k, rfl, .inl ⟨kvs, k, lkO_rd lo hp, keyOf_at qy ek, rfl⟩, rc.look_o k, i1⟩
      · cases e
    · rename_i lk l ec
      obtain ⟨p, ob, rfl, _, hp, kvs, lo, rc⟩ := cell_at R qx ec
      split at e
      · rename_i k ek
        cases e
        obtain ⟨i1, i2⟩ := RKs.look k rc
        obtain ⟨pk, rfl, hpk⟩ := keyT_at qy ek
        exact ⟨p, valV kvs k, rfl, .inr ⟨kvs, k, pk, lkO_rd lo hp, rfl, hpk, rfl⟩, rc.look_o k, i1⟩
      · cases e
    · cases e
  · cases e

/-! ### places -/
theorem ixN_at {ws : List W} {vs : List V} {K : PySem.W.Frag} {r : List Addr} {H : Hp} {i : Int} {w : W} (q : RVs K r H ws vs) (e : atI ws i = some w) : ∃ v, atI vs i = some v ∧ RV K r H w v := by
  unfold atI at e ⊢
  rw [← q.len]
  cases en : ixN ws.length i with
  | none => rw [en] at e; cases e
  | some j =>
    rw [en] at e
    exact q.get e
@[simp] def fIdx (x y : W) (h : Hq) : Rs := match dAsk x y h with
  | some (some w) => .ok w h
  | some none => .bad
  | none => match x, y with
    | .str s, .int i => if s.length ≤ lineN then match atI s i with
      | some c => .ok (.str [c]) h
      | none => .bad else .bad
    | x, .int i => match seqOf x h with
      | some l => match atI l i with
        | some w => .ok w h
        | none => .bad
      | none => .bad
    | _, _ => .bad
/-- d[k] of a dict, for any subscript -/
def rIxD : R2 := fun x y H Q => ∃ a v, x = .ref a ∧ DGet H a y (some v) ∧ Q v H
theorem ix_dict (hu : X.A.units + 1 < cLine) : IxR X rIxD := by
  intro value slice pn s σ H x y v u Q I rx ry h hs
  obtain ⟨p, z, rfl, hg, q⟩ := h
  cases rx
  exact tail_any (dict_typeIs I hg) PySem.F.slot_dict_getitem.lookup (d_getItem hu I hg ry fun w' s' I' r' => ⟨z, H, I', r', q⟩) hs
theorem idx_S : OpS g Wx (fun x y H Q => rIx g.K x y H Q ∨ rIxD x y H Q) fIdx := by
  intro r h H σ x y v u Q R qx qy q
  unfold fIdx at q
  split at q
  · rename_i w ed
    obtain ⟨p, o', rfl, hg, _, i1⟩ := dAsk_at R qx qy ed
    obtain ⟨v', e1, e2⟩ := i1 w rfl
    subst e1
    exact .inr ⟨p, v', rfl, hg, q.done R e2⟩
  · exact q.elim
  · split at q
    · rename_i s i _
      simp only [RV] at qx qy; subst qx qy
      split at q
      · rename_i hl
        split at q
        · rename_i ch ec
          refine .inl (.inr (.inr ⟨_, _, ch, rfl, rfl, by rw [sV_len, lineN_eq]; exact hl, ?_, q.done R (by simp only [RV]; rfl)⟩))
          show atI (sV s).cps.toList i = some ch
          rw [show (sV s).cps.toList = s by simp [sV]]
          exact ec
        · exact q.elim
      · exact q.elim
    · rename_i i hn _
      simp only [RV] at qy; subst qy
      split at q
      · rename_i l el
        obtain ⟨p, vs, rfl, sq, q1⟩ := seqOf_at R qx el
        split at q
        · rename_i w ew
          obtain ⟨v', e1, e2⟩ := ixN_at q1 ew
          rcases sq with sq | sq
          · exact .inl (.inl ⟨p, vs, i, v', rfl, rfl, sq, e1, q.done R e2⟩)
          · exact .inl (.inr (.inl ⟨p, vs, i, v', rfl, rfl, sq, e1, q.done R e2⟩))
        · exact q.elim
      · exact q.elim
    · exact q.elim
theorem idx_ok (hk : Kx X g Wx) (ha : PEM X g Wx a ma) (hb : PEM X g Wx b mb) (hs : PlainIx b) : PEM X g Wx (.Subscript a b pos) (mBin fIdx ma mb) := by
  have hu : X.A.units + 1 < cLine := by have := hk.un; omega
  refine pe_imp (pe_ix (IxR.or ix_seq (ix_dict hu)) ha hb hs) fun _ _ _ q => ?_
  rw [hk.hK]
  exact two_step idx_S q

/-! ### membership -/
/-- a row of data -/
def rInD (K : PySem.W.Frag) (neg : Bool) : R2 := fun x y H Q => ∃ d ds, Dp K H x d ∧ (Dp K H y (.list ds) ∨ Dp K H y (.tuple ds)) ∧ d.canLay0 = true ∧ d.depth ≤ 64 ∧ PyData.canLayAll0 ds = true ∧
  Q (.bl (if neg then !(ds.any fun z => PyData.eqv z d) else ds.any fun z => PyData.eqv z d)) H
theorem op_inD (hu : X.A.units + 66 < cLine) : OpR X (compareOp .In) (rInD X.K false) := by
  intro pn s σ H x y v u Q I rx ry h
  obtain ⟨d, ds, h1, h2, h3, h4, h5, q⟩ := h
  obtain ⟨as, r1⟩ := Dp.reads I d x v h1 rx
  have hm : X.A.units + 1 + min (PyData.depthAll ds) d.depth < cLine := by omega
  rcases h2 with h2 | h2
  · obtain ⟨bs, r2⟩ := Dp.reads I _ y u h2 ry
    exact SeqAt.in_list_reads r2 r1 h5 h3 hm ⟨.bl _, H, I, rfl, q⟩
  · obtain ⟨bs, r2⟩ := Dp.reads I _ y u h2 ry
    exact SeqAt.in_tuple_reads r2 r1 h5 h3 hm ⟨.bl _, H, I, rfl, q⟩
theorem op_notinD (hu : X.A.units + 66 < cLine) : OpR X (compareOp .NotIn) (rInD X.K true) := by
  intro pn s σ H x y v u Q I rx ry h
  obtain ⟨d, ds, h1, h2, h3, h4, h5, q⟩ := h
  obtain ⟨as, r1⟩ := Dp.reads I d x v h1 rx
  have hm : X.A.units + 1 + min (PyData.depthAll ds) d.depth < cLine := by omega
  rcases h2 with h2 | h2
  · obtain ⟨bs, r2⟩ := Dp.reads I _ y u h2 ry
    exact SeqAt.notIn_list_reads r2 r1 h5 h3 hm ⟨.bl _, H, I, rfl, q⟩
  · obtain ⟨bs, r2⟩ := Dp.reads I _ y u h2 ry
    exact SeqAt.notIn_tuple_reads r2 r1 h5 h3 hm ⟨.bl _, H, I, rfl, q⟩
def rInK (neg : Bool) : R2 := fun x y H Q => ∃ a o, y = .ref a ∧ DGet H a x o ∧ Q (.bl (if neg then !o.isSome else o.isSome)) H
theorem op_inK (hu : X.A.units + 1 < cLine) : OpR X (compareOp .In) (rInK false) := by
  intro pn s σ H x y v u Q I rx ry h
  obtain ⟨p, o, rfl, hg, q⟩ := h
  cases ry
  exact d_in hu I hg rx fun s' I' => ⟨.bl _, H, I', rfl, q⟩
theorem op_notinK (hu : X.A.units + 1 < cLine) : OpR X (compareOp .NotIn) (rInK true) := by
  intro pn s σ H x y v u Q I rx ry h
  obtain ⟨p, o, rfl, hg, q⟩ := h
  cases ry
  exact d_notIn hu I hg rx fun s' I' => ⟨.bl _, H, I', rfl, q⟩
def rInS (neg : Bool) : R2 := fun x y H Q => ∃ (c : Nat) (z : Str), x = .str ⟨#[c]⟩ ∧ y = .str z ∧ Q (.bl (if neg then !decide (c ∈ z.cps.toList) else decide (c ∈ z.cps.toList))) H
theorem op_inS : OpR X (compareOp .In) (rInS false) := op_in_sign
theorem op_notinS : OpR X (compareOp .NotIn) (rInS true) := op_notIn_sign
/-- is x among the items of y -/
@[simp] def isIn (x y : W) (h : Hq) : Option Bool := match x, y with
  | .str [c], .str s => some (decide (c ∈ s))
  | x, y => match dAsk y x h with
    | some o => some o.isSome
    | none => match seqOf y h with
      | some l => match toD h eqF x, allD (toD h eqF) l with
        | some d, some ds => some (ds.any fun z => PyData.eqv z d)
        | _, _ => none
      | none => none
@[simp] def fIn (neg : Bool) (x y : W) (h : Hq) : Rs := match isIn x y h with
  | some k => .ok (.bl (if neg then !k else k)) h
  | none => .bad
theorem seq_Dp {r : List Addr} {h : Hq} {H : Hp} {y : W} {u : V} {l : List W} {ds : List PyData} (R : Rep g r h H) (qy : RV g.K r H y u) (e : seqOf y h = some l) (ed : allD (toD h eqF) l = some ds) : Dp g.K H u (.list ds) ∨ Dp g.K H u (.tuple ds) := by
  obtain ⟨p, vs, rfl, sq, q1⟩ := seqOf_at R qy e
  have hd := Dp_all (fun w v d => Dp_of R eqF w v d) l vs ds q1 ed
  rcases sq with sq | sq
  · exact .inl (.lst sq hd)
  · exact .inr (.tup sq hd)
theorem in_S (neg : Bool) : OpS g Wx (fun x y H Q => rInS neg x y H Q ∨ (rInK neg x y H Q ∨ rInD g.K neg x y H Q)) (fIn neg) := by
  intro r h H σ x y v u Q R qx qy q
  unfold fIn at q
  split at q
  · rename_i k ek
    unfold isIn at ek
    split at ek
    · rename_i ch s
      simp only [RV] at qx qy; subst qx qy
      cases ek
      refine .inl ⟨ch, sV s, rfl, rfl, ?_⟩
      have es : (sV s).cps.toList = s := by simp [sV]
      rw [es]
      exact q.done R (by simp only [RV])
    · split at ek
      · rename_i o ed
        cases ek
        obtain ⟨p, o', rfl, hg, e1, _⟩ := dAsk_at R qy qx ed
        refine .inr (.inl ⟨p, o', rfl, hg, ?_⟩)
        rw [e1]
        exact q.done R (by simp only [RV])
      · split at ek
        · rename_i l el
          split at ek
          · rename_i d ds ed es
            cases ek
            obtain ⟨a1, a2⟩ := toD_shaped _ _ _ ed
            obtain ⟨b1, b2⟩ := allD_shaped (fun w d => toD_shaped eqF w d) l ds es
            exact .inr (.inr ⟨d, ds, Dp_of R _ _ _ _ qx ed, seq_Dp R qy el es, a1, by unfold eqF at a2; omega, b1, q.done R (by simp only [RV])⟩)
          · cases ek
        · cases ek
  · exact q.elim
theorem op_inA (hu : X.A.units + 66 < cLine) : OpR X (compareOp .In) (fun x y H Q => rInS false x y H Q ∨ (rInK false x y H Q ∨ rInD X.K false x y H Q)) := op_inS.or ((op_inK (by omega)).or (op_inD hu))
theorem op_notinA (hu : X.A.units + 66 < cLine) : OpR X (compareOp .NotIn) (fun x y H Q => rInS true x y H Q ∨ (rInK true x y H Q ∨ rInD X.K true x y H Q)) := op_notinS.or ((op_notinK (by omega)).or (op_notinD hu))

/-! ### attributes -/
@[simp] def fLook (f : Nat) : List (Nat × W) → Option W
  | [] => none
  | p :: l => if p.1 = f then some p.2 else fLook f l
@[simp] def fPut (f : Nat) (w : W) : List (Nat × W) → List (Nat × W)
  | [] => [(f, w)]
  | p :: l => if p.1 = f then (f, w) :: l else p :: fPut f w l
theorem RFs.look {r : List Addr} {H : Hp} {f : Nat} {w : W} : ∀ {l : List (Nat × W)} {fs : List (Str × V)}, RFs g r H l fs → fLook f l = some w → ∃ v, fs.lookup (g.fd f) = some v ∧ RV g.K r H w v
  | [], fs, _, e => by simp [fLook] at e
  | p :: l, fs, h, e => by
    obtain ⟨v, t, rfl, h2, h3⟩ := h
    by_cases hp : p.1 = f
    · simp only [fLook, if_pos hp, Option.some.injEq] at e
      subst e hp
      exact ⟨v, by simp [List.lookup_cons], h2⟩
    · simp only [fLook, if_neg hp] at e
      obtain ⟨u, e1, e2⟩ := RFs.look h3 e
      have hne : (g.fd f == g.fd p.1) = false := by
        rw [beq_eq_false_iff_ne]
        exact fun z => hp (g.inj _ _ z).symm
      exact ⟨u, by rw [List.lookup_cons, hne]; exact e1, e2⟩
theorem RFs.put {r : List Addr} {H : Hp} {f : Nat} {w : W} {v : V} (q : RV g.K r H w v) : ∀ {l : List (Nat × W)} {fs : List (Str × V)}, RFs g r H l fs → RFs g r H (fPut f w l) (putF (g.fd f) v fs)
  | [], fs, h => by
    have e : fs = [] := h
    subst e
    exact ⟨v, [], rfl, q, rfl⟩
  | p :: l, fs, h => by
    obtain ⟨v', t, rfl, h2, h3⟩ := h
    by_cases hp : p.1 = f
    · simp only [fPut, if_pos hp]
      subst hp
      exact ⟨v, t, by simp [putF], q, h3⟩
    · simp only [fPut, if_neg hp]
      refine ⟨v', putF (g.fd f) v t, ?_, h2, RFs.put q h3⟩
      have hne : ¬ g.fd p.1 = g.fd f := fun z => hp (g.inj _ _ z)
      simp [putF, hne]
theorem RFs.len {r : List Addr} {H : Hp} : ∀ {l : List (Nat × W)} {fs : List (Str × V)}, RFs g r H l fs → l.length = fs.length
  | [], fs, h => by have e : fs = [] := h; subst e; rfl
  | p :: l, fs, h => by obtain ⟨v, t, rfl, _, h3⟩ := h; simp [RFs.len h3]
theorem mem_fLook {f : Nat} {w : W} : ∀ {l : List (Nat × W)}, fLook f l = some w → (f, w) ∈ l
  | [], e => by simp [fLook] at e
  | p :: l, e => by
    by_cases hp : p.1 = f
    · simp only [fLook, if_pos hp, Option.some.injEq] at e
      subst e hp
      exact List.mem_cons_self
    · simp only [fLook, if_neg hp] at e
      exact List.mem_cons_of_mem _ (mem_fLook e)
theorem mem_fPut {f : Nat} {w : W} {q : Nat × W} : ∀ {l : List (Nat × W)}, q ∈ fPut f w l → q.1 = f ∨ q ∈ l
  | [], h => by simp [fPut] at h; exact .inl (by rw [h])
  | p :: l, h => by
    by_cases hp : p.1 = f
    · simp only [fPut, if_pos hp] at h
      rcases List.mem_cons.mp h with z | z
      · exact .inl (by rw [z])
      · exact .inr (List.mem_cons_of_mem _ z)
    · simp only [fPut, if_neg hp] at h
      rcases List.mem_cons.mp h with z | z
      · exact .inr (by rw [z]; exact List.mem_cons_self)
      · rcases mem_fPut z with y | y
        · exact .inl y
        · exact .inr (List.mem_cons_of_mem _ y)
/-- the attributes of an instance -/
@[simp] def insOf (w : W) (h : Hq) : Option (Nat × Nat × List (Nat × W)) := match w with
  | .cell n => match h[n]? with
    | some (.ins c fs) => some (n, c, fs)
    | _ => none
  | _ => none
theorem insOf_at {r : List Addr} {h : Hq} {H : Hp} {w : W} {v : V} {n c : Nat} {fs : List (Nat × W)} (R : Rep g r h H) (q : RV g.K r H w v) (e : insOf w h = some (n, c, fs)) :
    ∃ (p dx : Addr) (gs : List (Str × V)), v = .ref p ∧ r[n]? = some p ∧ H p = some (.ins (g.ca c) dx gs) ∧ RFs g r H fs gs ∧ Cls g.K (g.ca c) ∧ ∀ q ∈ fs, NoAttr g.K (g.ca c) (g.fd q.1) := by
  cases w with
  | cell k =>
    simp only [insOf] at e
    cases ec : h[k]? with
    | none => rw [ec] at e; cases e
    | some d =>
      rw [ec] at e
      obtain ⟨p, o, rfl, er, hp, rc⟩ := cell_at R q ec
      cases d with
      | ins c' fs' =>
        cases e
        obtain ⟨⟨dx, gs, rfl, h1⟩, h2, h3⟩ := rc
        exact ⟨p, dx, gs, rfl, er, hp, h1, h2, h3⟩
      | _ => cases e
  | _ => simp only [insOf] at e; cases e
def mFld (f : Nat) (ma : M) : M := fun L h => (ma L h).bind fun x h1 => match insOf x h1 with
  | some (_, _, fs) => match fLook f fs with
    | some w => .ok w h1
    | none => .bad
  | none => .bad
theorem fld_ok {f : Nat} {x : Str} (hk : Kx X g Wx) (ha : PEM X g Wx a ma) (hx : x = g.fd f) (hb : attributeBase a x X.env (eval a X.env) = eval a X.env) : PEM X g Wx (.Attribute a x pos) (mFld f ma) :=
  pe_imp (pe_fld ha hb) fun σ H Q ⟨r, h, L, A, q⟩ => by
    obtain ⟨r0, h0, L0, A0, q0⟩ := tM_step (ma := ma) A q
    refine ⟨r0, h0, L0, A0, q0.imp fun v H1 ⟨r1, h1, w, A1, G1, x1, q1⟩ => ?_⟩
    rw [hk.hK]
    split at q1
    · rename_i n c fs ei
      obtain ⟨p, dx, gs, rfl, _, hp, h2, h3, h4⟩ := insOf_at A1.rep x1 ei
      split at q1
      · rename_i w' ew
        obtain ⟨v', e1, e2⟩ := h2.look ew
        subst hx
        exact ⟨p, g.ca c, dx, gs, v', rfl, hp, h3, h4 _ (mem_fLook ew), e1, q1.done A1.rep e2⟩
      · exact q1.elim
    · exact q1.elim
end
end MR
/-! MCall: calls: of the text's defs, methods, classes; of built-ins. -/
namespace MR
open PySem PySem.Spec PyProof.Rows L2

/-- the promise: as the mirror says; n parameters -/
def spM (g : Gm) (n : Nat) (f : Fn) : Sp := fun vs H Q E => ∃ (r : List Addr) (h : Hq) (ws : List W), Rep g r h H ∧ RVs g.K r H ws vs ∧ ws.length = n ∧ Aft g (fun cls d _ H' => E cls d H') [] (f ws h) r H Q
theorem spM_len {g : Gm} {n : Nat} {f : Fn} {ps : List Str} (e : ps.length = n) (vs : List V) (H : Hp) (Q : VK) (E : XK) (h : spM g n f vs H Q E) : vs.length = ps.length := by
  obtain ⟨r, hq, ws, _, q, l, _⟩ := h
  rw [← q.len, l, e]
/-- a def of the text that may be called with the values dw for its last parameters -/
structure Cal (P : Program) (w : World) (g : Gm) (mg : Str → Option Value) (base : Heap) (k : Nat) (fa : Addr) (n : Nat) (f : Fn) (dw : List W) : Prop where
  ex : ∃ (fd : FuncData) (ps : List Str) (ds : List Value) (dvs : List V), FnOk P w g.K mg base (L2.CX P w) k fa fd ps (spM g n f) ∧ Binds g.K fd ps ds ∧ Vals dvs ds ∧ ∀ r H, RVs g.K r H dw dvs
  kp : PySem.W.keepIn g.K (.ref fa) = true

section
variable {X : Cx} {g : Gm} {Wx : WX} {e a b c : Expr} {m ma mb mc : M} {pos apos p : Pos} {k : Nat} {es : List Expr} {ms : M}
/-- the callee runs; what it lets out is taken at the slots σ -/
theorem run_at {CX : CXT} {fa : Addr} {fd : FuncData} {ps : List Str} {sp : Sp} {dvs : List V} {ds : List Value} {E : XK} {pn : List (Addr × Obj)} {σ : Sl} {H : Hp} {s : Shared} {Q : VK} {us : List Value} {vs : List V}
    (F : FnOk X.prog X.w X.K X.mg X.base CX k fa fd ps sp) (hr : Room k X.A) (hb : Binds X.K fd ps ds) (hd : Vals dvs ds) (hx : PassesAt CX X σ E)
    (I : Inv X pn σ H s) (rv : Vals vs us) (h : sp (vs ++ dvs) H Q E) : wpAny (model X.prog X.w) X.A (call (.ref fa) us) (EP X pn σ Q) X.xe s := by
  have r2 := rv.append hd
  have hl : (us ++ ds).length = ps.length := r2.length.symm.trans (F.len _ _ _ _ h)
  refine wpAny_call (codeAny_mono (F.run X.A X.stack s H ⟨us, []⟩ _ _ Q E hr I.env0 (hb s us I.kIn hl) r2 h) fun z s' hq => ?_)
  cases z with
  | error x => exact hx pn H s x s' I hq
  | ok fl => cases fl with
    | ret u => exact I.after hq
    | _ => exact hq.elim
/-- the mirror's call gives the promise -/
theorem sp_of {n : Nat} {f : Fn} {dw ws : List W} {dvs vs : List V} {σ : Sl} {r : List Addr} {h : Hq} {H : Hp} {Q : VK} (R : Rep g r h H) (q : RVs g.K r H ws vs) (qd : RVs g.K r H dw dvs) (hn : (ws ++ dw).length = n) (x : Aft g Wx σ (f (ws ++ dw) h) r H Q) :
    spM g n f (vs ++ dvs) H Q (WE Wx σ) := ⟨r, h, ws ++ dw, R, q.app qd, hn, by
      cases ef : f (ws ++ dw) h with
      | ok w h' => rw [ef] at x; exact x
      | ex c fs h' => rw [ef] at x; exact x
      | bad => rw [ef] at x; exact x⟩
/-- f(..) -/
def mCall (n : Nat) (f : Fn) (dw : List W) (ms : M) : M := fun L h => (ms L h).bindL fun ws h1 => if (ws ++ dw).length = n then f (ws ++ dw) h1 else .bad
def tCallM (sp : Sp) (dvs : List V) (E : Sl → XK) (t : TA) : TE := fun σ H Q => t σ H fun vs H1 => sp (vs ++ dvs) H1 Q (E σ)
theorem call_ok {x : Str} {fa : Addr} {n : Nat} {f : Fn} {dw : List W} (hk : Kx X g Wx) (hr : Room k X.A) (c : Cal X.prog X.w g X.mg X.base k fa n f dw) (hg : Gl X x) (hm : X.mg x = some (.ref fa)) (hs : PAM X g Wx (e :: es) ms)
    (hdb : (x == ("__debug__" : Str)) = false := by decide) (he : starEach (e :: es) X.env = (false, eval e X.env) :: starEach es X.env := by rfl) (hpl : (backTo pos (starEach es X.env)).any (·.1) = false := by rfl) :
    PEM X g Wx (.Call (.Name x p) (e :: es) [] pos) (mCall n f dw ms) := by
  obtain ⟨fd, ps, ds, dvs, F, hb, hd, hw⟩ := c.ex
  have kp := c.kp
  rw [← hk.hK] at F hb kp
  have go : PE X (.Call (.Name x p) (e :: es) [] pos) (tCallM (spM g n f) dvs (WE Wx) (tML g Wx ms)) := ⟨fun pn s σ H Q I h => by
    refine wpAny_Call_Name_kw (ld_glob I hg hm ?_ hdb)
    exact PySem.W.callWith_K (h₀ := X.base) I.ok.mod.kin kp (thn (hs.run pos pn s σ H _ I h) fun us s1 ⟨vs, H1, I1, rv, q⟩ => ⟨I1.kIn, run_at F hr hb hd (passAt hk.tk σ) I1 rv q⟩) he hpl⟩
  refine pe_imp go fun σ H Q ⟨r, h, L, A, q⟩ => ?_
  obtain ⟨r0, h0, L0, A0, q0⟩ := tML_step (ma := ms) A q
  refine ⟨r0, h0, L0, A0, ?_⟩
  cases em : ms L0 h0 with
  | bad => rw [em] at q0; exact q0
  | ex c fs h1 => rw [em] at q0; exact q0
  | ok x h1 =>
    rw [em] at q0
    cases x with
    | tup ws =>
      intro r1 H1 vs G R qx
      obtain ⟨r2, h2, ws2, A2, G2, q2, q3⟩ := q0 r1 H1 vs G R qx
      split at q3
      · rename_i hl
        exact sp_of A2.rep q2 (hw _ _) hl q3
      · exact q3.elim
    | _ => exact q0
theorem call0_ok {x : Str} {fa : Addr} {n : Nat} {f : Fn} {dw : List W} (hk : Kx X g Wx) (hr : Room k X.A) (c : Cal X.prog X.w g X.mg X.base k fa n f dw) (hg : Gl X x) (hm : X.mg x = some (.ref fa))
    (hdb : (x == ("__debug__" : Str)) = false := by decide) : PEM X g Wx (.Call (.Name x p) [] [] pos) (mCall n f dw mNil) := by
  obtain ⟨fd, ps, ds, dvs, F, hb, hd, hw⟩ := c.ex
  have kp := c.kp
  rw [← hk.hK] at F hb kp
  have go : PE X (.Call (.Name x p) [] [] pos) (fun σ H Q => spM g n f ([] ++ dvs) H Q (WE Wx σ)) := ⟨fun pn s σ H Q I h => by
    refine wpAny_Call_Name_kw (ld_glob I hg hm ?_ hdb)
    exact PySem.W.callWith_K0 I.kIn kp (run_at (us := []) (vs := []) F hr hb hd (passAt hk.tk σ) I .nil h)⟩
  refine pe_imp go fun σ H Q ⟨r, h, L, A, q⟩ => ?_
  have q' : Aft g Wx σ (if ([] ++ dw).length = n then f ([] ++ dw) h else .bad) r H Q := q
  split at q'
  · rename_i hl
    exact sp_of A.rep .nil (hw _ _) hl q'
  · exact q'.elim

/-! ### methods -/
/-- a method of the class c -/
structure Mtd (P : Program) (w : World) (g : Gm) (mg : Str → Option Value) (base : Heap) (k : Nat) (x : Str) (c : Nat) (fa : Addr) (n : Nat) (f : Fn) (dw : List W) : Prop where
  cal : Cal P w g mg base k fa n f dw
  mt : Meth g.K (g.ca c) x fa
theorem no_fld {r : List Addr} {H : Hp} {c : Nat} {x : Str} {fa : Addr} (mt : Meth g.K (g.ca c) x fa) : ∀ {fs : List (Nat × W)} {gs : List (Str × V)}, RFs g r H fs gs → (∀ q ∈ fs, NoAttr g.K (g.ca c) (g.fd q.1)) → gs.lookup x = none
  | [], gs, h, _ => by have e : gs = [] := h; subst e; rfl
  | q :: fs, gs, h, hn => by
    obtain ⟨v, t, rfl, h2, h3⟩ := h
    have hne : (x == g.fd q.1) = false := by
      rw [beq_eq_false_iff_ne]
      intro z
      have h4 := hn q List.mem_cons_self
      have h5 := mt.at_
      rw [z] at h5
      have h6 : PySem.W.findIn g.K (.ref (g.ca c)) (g.fd q.1) = some none := h4
      rw [h6] at h5
      cases h5
    rw [List.lookup_cons, hne]
    exact no_fld mt h3 fun q' hq' => hn q' (List.mem_cons_of_mem _ hq')
/-- o.x(..): by the object's class -/
def mMeth (tb : Nat → Option (Nat × Fn × List W)) (ma ms : M) : M := fun L h => (ma L h).bind fun o h1 => match insOf o h1 with
  | some (_, c, _) => match tb c with
    | some (n, f, dw) => (ms L h1).bindL fun ws h2 => if (o :: ws ++ dw).length = n then f (o :: ws ++ dw) h2 else .bad
    | none => .bad
  | none => .bad
theorem meth_ok {pl : Sem Bool} {x : Str} {tb : Nat → Option (Nat × Fn × List W)} (hk : Kx X g Wx) (hr : Room k X.A) (ct : ∀ c n f dw, tb c = some (n, f, dw) → ∃ fa, Mtd X.prog X.w g X.mg X.base k x c fa n f dw) (ha : PEM X g Wx a ma) (hs : PAM X g Wx (e :: es) ms)
    (hst : starEach (e :: es) X.env = (false, eval e X.env) :: starEach es X.env := by rfl) (hpl : (backTo pos (starEach es X.env)).any (·.1) = false := by rfl)
    (ht : eval (.Call (.Attribute a x apos) (e :: es) [] pos) X.env = (do let ov ← eval a X.env; standAt apos.atName; let (fv, first) ← holding [ov] (getMethod ov x pl); callWith pos fv first (backTo pos (starEach (e :: es) X.env)) (backToKw pos (keywordEach [] X.env))) := by rfl) :
    PEM X g Wx (.Call (.Attribute a x apos) (e :: es) [] pos) (mMeth tb ma ms) := ⟨fun pn s σ H Q I ⟨r, h, L, A, q⟩ => by
  obtain ⟨r0, h0, L0, A0, q0⟩ := tM_step (ma := ma) A q
  refine PySem.W.methodCall_KW (pl := pl) (thn (ha.run pn s σ H _ I ⟨r0, h0, L0, A0, q0⟩) fun u s1 ⟨v, H1, I1, rx, r1, h1, w, A1, G1, x1, q1⟩ => ?_) ht
  cases ei : insOf w h1 with
  | none => rw [ei] at q1; exact q1.elim
  | some z =>
    obtain ⟨nn, c, fs⟩ := z
    rw [ei] at q1
    obtain ⟨pa, dx, gs, rfl, _, hp, h2, h3, h4⟩ := insOf_at A1.rep x1 ei
    cases rx
    cases et : tb c with
    | none => simp only [et] at q1; exact q1.elim
    | some z =>
      obtain ⟨n, f, dw⟩ := z
      simp only [et] at q1
      obtain ⟨fa, md⟩ := ct c n f dw et
      obtain ⟨fd, ps, ds, dvs, F, hb, hd, hw⟩ := md.cal.ex
      have mt := md.mt
      have nf := no_fld mt h2 h4
      rw [← hk.hK] at F hb mt h3
      refine getmeth_ok I1 hp h3 mt nf ?_
      obtain ⟨r2, h5, L2, A2, q2⟩ := tML_step (ma := ms) A1 q1
      refine PySem.W.callWith_K (first := [.ref pa]) (h₀ := X.base) I.ok.mod.kin mt.kp (thn (hs.run pos pn s1 σ H1 _ I1 ⟨r2, h5, L2, A2, q2⟩) fun us s2 ⟨vs, H2, I2, rv, r3, h6, ws, A3, G3, x3, q3⟩ => ⟨I2.kIn, ?_⟩) hst hpl
      split at q3
      · rename_i hl
        exact run_at (us := .ref pa :: us) (vs := .ref pa :: vs) F hr hb hd (passAt hk.tk σ) I2 (.cons rfl rv) (sp_of (ws := w :: ws) A3.rep (.cons (RV.gro G3 _ _ x1) x3) (hw _ _) hl q3)
      · exact q3.elim⟩
theorem meth0_ok {pl : Sem Bool} {x : Str} {tb : Nat → Option (Nat × Fn × List W)} (hk : Kx X g Wx) (hr : Room k X.A) (ct : ∀ c n f dw, tb c = some (n, f, dw) → ∃ fa, Mtd X.prog X.w g X.mg X.base k x c fa n f dw) (ha : PEM X g Wx a ma)
    (ht : eval (.Call (.Attribute a x apos) [] [] pos) X.env = (do let ov ← eval a X.env; standAt apos.atName; let (fv, first) ← holding [ov] (getMethod ov x pl); callWith pos fv first (backTo pos (starEach [] X.env)) (backToKw pos (keywordEach [] X.env))) := by rfl) :
    PEM X g Wx (.Call (.Attribute a x apos) [] [] pos) (mMeth tb ma mNil) := ⟨fun pn s σ H Q I ⟨r, h, L, A, q⟩ => by
  obtain ⟨r0, h0, L0, A0, q0⟩ := tM_step (ma := ma) A q
  refine PySem.W.methodCall_KW (pl := pl) (thn (ha.run pn s σ H _ I ⟨r0, h0, L0, A0, q0⟩) fun u s1 ⟨v, H1, I1, rx, r1, h1, w, A1, G1, x1, q1⟩ => ?_) ht
  cases ei : insOf w h1 with
  | none => rw [ei] at q1; exact q1.elim
  | some z =>
    obtain ⟨nn, c, fs⟩ := z
    rw [ei] at q1
    obtain ⟨pa, dx, gs, rfl, _, hp, h2, h3, h4⟩ := insOf_at A1.rep x1 ei
    cases rx
    cases et : tb c with
    | none => simp only [et] at q1; exact q1.elim
    | some z =>
      obtain ⟨n, f, dw⟩ := z
      simp only [et] at q1
      obtain ⟨fa, md⟩ := ct c n f dw et
      obtain ⟨fd, ps, ds, dvs, F, hb, hd, hw⟩ := md.cal.ex
      have mt := md.mt
      have nf := no_fld mt h2 h4
      rw [← hk.hK] at F hb mt h3
      refine getmeth_ok I1 hp h3 mt nf ?_
      have q2 : Aft g Wx σ (if ([w] ++ dw).length = n then f ([w] ++ dw) h1 else .bad) r1 H1 Q := q1
      refine PySem.W.callWith_K0 (first := [.ref pa]) I1.kIn mt.kp ?_
      split at q2
      · rename_i hl
        exact run_at (us := [.ref pa]) (vs := [.ref pa]) F hr hb hd (passAt hk.tk σ) I1 (.cons rfl .nil) (sp_of (ws := [w]) A1.rep (.cons x1 .nil) (hw _ _) hl q2)
      · exact q2.elim⟩
end
end MR
/-! MMake: instances made; built-ins called. -/
namespace MR
open PySem PySem.Spec PyProof.Rows L2
section
variable {X : Cx} {g : Gm} {Wx : WX} {e a b c : Expr} {m ma mb mc : M} {pos apos p : Pos} {k : Nat} {es : List Expr} {ms : M}
theorem make_at {CX : CXT} {C fa : Addr} {fd : FuncData} {ps : List Str} {sp : Sp} {dvs : List V} {ds : List Value} {E : XK} {pn : List (Addr × Obj)} {σ : Sl} {H : Hp} {s : Shared} {Q : VK} {us : List Value} {vs : List V} (mk : Mk X.K C fa)
    (F : FnOk X.prog X.w X.K X.mg X.base CX k fa fd ps sp) (hr : Room (k + 1) X.A) (hb : Binds X.K fd ps ds) (hd : Vals dvs ds) (hx : PassesAt CX X σ E) (I : Inv X pn σ H s) (rv : Vals vs us)
    (h : ∀ x dx, H x = none → H dx = none → dx ≠ x → sp (.ref x :: (vs ++ dvs)) (upd (upd H dx (.own x)) x (.ins C dx [])) (fun v H2 => v = .non ∧ Q (.ref x) H2) E) :
    wpAny (model X.prog X.w) X.A (call (.ref C) us) (EP X pn σ Q) X.xe s := by
  have h1 := h (s.heap.objs.size + 1) s.heap.objs.size (I.hok.fresh (Nat.le_succ _)) (I.hok.fresh (Nat.le_refl _)) (Nat.ne_of_lt (Nat.lt_succ_self _))
  have I2 := Inv.made (C := C) I
  have rr : Vals (V.ref (s.heap.objs.size + 1) :: (vs ++ dvs)) (Value.ref (s.heap.objs.size + 1) :: (us ++ ds)) := .cons rfl (rv.append hd)
  have hl : (Value.ref (s.heap.objs.size + 1) :: us ++ ds).length = ps.length := by
    have e1 := rr.length
    have e2 := F.len _ _ _ _ h1
    exact e1.symm.trans e2
  refine wpAny_call (make_map (f := fa) I.kIn mk.makes mk.init (beq_iff_eq.mp mk.fn) (codeAny_mono (F.run _ X.stack _ _ ⟨Value.ref (s.heap.objs.size + 1) :: us, []⟩ _ _ _ E (hr.make C us []) (I2.env0.make C us [])
    (hb _ (Value.ref (s.heap.objs.size + 1) :: us) I2.kIn hl) rr h1) fun z s' hq => ?_))
  cases z with
  | error x => exact hx pn _ _ x s' I2 hq
  | ok fl => cases fl with
    | ret u =>
      obtain ⟨v, H', I3, rv', ev, q3⟩ := I2.after hq
      subst ev
      exact ⟨rv', V.ref (s.heap.objs.size + 1), H', I3, rfl, q3⟩
    | _ => exact hq.elim
def mMake (c n : Nat) (f : Fn) (dw : List W) (ms : M) : M := fun L h => (ms L h).bindL fun ws h1 =>
  if (W.cell h1.length :: (ws ++ dw)).length = n then (f (.cell h1.length :: (ws ++ dw)) (h1 ++ [.ins c []])).bind fun x h2 => if isNon x then .ok (.cell h1.length) h2 else .bad else .bad
/-- the class c may be made -/
structure Mkr (P : Program) (w : World) (g : Gm) (mg : Str → Option Value) (base : Heap) (k : Nat) (c : Nat) (fa : Addr) (n : Nat) (f : Fn) (dw : List W) : Prop where
  cal : Cal P w g mg base k fa n f dw
  maker : Mk g.K (g.ca c) fa
  cl : Cls g.K (g.ca c)
theorem sp_made {n cc : Nat} {f : Fn} {dw ws : List W} {dvs vs : List V} {σ : Sl} {r : List Addr} {h : Hq} {H : Hp} {Q : VK} (cl : Cls g.K (g.ca cc)) (R : Rep g r h H) (q : RVs g.K r H ws vs) (hw : ∀ r H, RVs g.K r H dw dvs)
    (y : Aft g Wx σ (if (W.cell h.length :: (ws ++ dw)).length = n then (f (.cell h.length :: (ws ++ dw)) (h ++ [.ins cc []])).bind fun x h2 => if isNon x then .ok (.cell h.length) h2 else .bad else .bad) r H Q)
    (x dx : Addr) (hx : H x = none) (hdx : H dx = none) (hne : dx ≠ x) :
    spM g n f (.ref x :: (vs ++ dvs)) (upd (upd H dx (.own x)) x (.ins (g.ca cc) dx [])) (fun v H2 => v = .non ∧ Q (.ref x) H2) (WE Wx σ) := by
  split at y
  · rename_i hl
    have g1 : Gro r H r (upd H dx (.own x)) := Gro.upd hdx
    have R1 : Rep g r h (upd H dx (.own x)) := R.upd hdx
    have hx1 : (upd H dx (.own x)) x = none := by rw [upd_ne (Ne.symm hne)]; exact hx
    have g2 : Gro r (upd H dx (.own x)) (r ++ [x]) (upd (upd H dx (.own x)) x (.ins (g.ca cc) dx [])) := Gro.cell hx1
    have R2 : Rep g (r ++ [x]) (h ++ [.ins cc []]) (upd (upd H dx (.own x)) x (.ins (g.ca cc) dx [])) := R1.cell hx1 ⟨⟨dx, [], rfl, rfl⟩, cl, fun _ hq => by cases hq⟩
    have gg := g1.trans g2
    refine ⟨r ++ [x], h ++ [.ins cc []], .cell h.length :: (ws ++ dw), R2, .cons (RV.new R) ((RVs.gro gg _ _ q).app (hw _ _)), hl, ?_⟩
    cases ef : f (.cell h.length :: (ws ++ dw)) (h ++ [.ins cc []]) with
    | bad => rw [ef] at y; exact y
    | ex ce fs h2 => rw [ef] at y; exact fun r' H' cls d G => y r' H' cls d (gg.trans G)
    | ok w h2 =>
      rw [ef] at y
      have y : Aft g Wx σ (if isNon w then .ok (.cell h.length) h2 else .bad) r H Q := y
      intro r' H' v G R' qv
      split at y
      · rename_i hw'
        rw [isNon_at qv, decide_eq_true_eq] at hw'
        refine ⟨hw', y r' H' _ (gg.trans G) R' ?_⟩
        exact RV.gro G _ _ (RV.new (H' := upd (upd H dx (.own x)) x (.ins (g.ca cc) dx [])) R)
      · exact y.elim
  · exact y.elim
theorem make_ok {x : Str} {cc : Nat} {fa : Addr} {n : Nat} {f : Fn} {dw : List W} (hk : Kx X g Wx) (hr : Room (k + 1) X.A) (cm : Mkr X.prog X.w g X.mg X.base k cc fa n f dw) (hg : Gl X x) (hm : X.mg x = some (.ref (g.ca cc))) (hs : PAM X g Wx (e :: es) ms)
    (hdb : (x == ("__debug__" : Str)) = false := by decide) (he : starEach (e :: es) X.env = (false, eval e X.env) :: starEach es X.env := by rfl) (hpl : (backTo pos (starEach es X.env)).any (·.1) = false := by rfl) :
    PEM X g Wx (.Call (.Name x p) (e :: es) [] pos) (mMake cc n f dw ms) := ⟨fun pn s σ H Q I ⟨r, h, L, A, q⟩ => by
  obtain ⟨fd, ps, ds, dvs, F, hb, hd, hw⟩ := cm.cal.ex
  have mk := cm.maker
  rw [← hk.hK] at F hb mk
  obtain ⟨r0, h0, L0, A0, q0⟩ := tML_step (ma := ms) A q
  refine wpAny_Call_Name_kw (ld_glob I hg hm ?_ hdb)
  refine PySem.W.callWith_K (h₀ := X.base) I.ok.mod.kin mk.kp (thn (hs.run pos pn s σ H _ I ⟨r0, h0, L0, A0, q0⟩) fun us s1 ⟨vs, H1, I1, rv, r1, h1, ws, A1, G1, x1, q1⟩ => ⟨I1.kIn, ?_⟩) he hpl
  exact make_at mk F hr hb hd (passAt hk.tk σ) I1 rv (sp_made cm.cl A1.rep x1 hw q1)⟩
theorem make0_ok {x : Str} {cc : Nat} {fa : Addr} {n : Nat} {f : Fn} {dw : List W} (hk : Kx X g Wx) (hr : Room (k + 1) X.A) (cm : Mkr X.prog X.w g X.mg X.base k cc fa n f dw) (hg : Gl X x) (hm : X.mg x = some (.ref (g.ca cc)))
    (hdb : (x == ("__debug__" : Str)) = false := by decide) : PEM X g Wx (.Call (.Name x p) [] [] pos) (mMake cc n f dw mNil) := ⟨fun pn s σ H Q I ⟨r, h, L, A, q⟩ => by
  obtain ⟨fd, ps, ds, dvs, F, hb, hd, hw⟩ := cm.cal.ex
  have mk := cm.maker
  rw [← hk.hK] at F hb mk
  refine wpAny_Call_Name_kw (ld_glob I hg hm ?_ hdb)
  refine PySem.W.callWith_K0 I.kIn mk.kp ?_
  exact make_at (us := []) (vs := []) mk F hr hb hd (passAt hk.tk σ) I .nil (sp_made (ws := []) cm.cl A.rep .nil hw q)⟩

/-! ### built-ins -/
def CallS (g : Gm) (Wx : WX) (rr : List V → Hp → VK → Prop) (f : Fn) : Prop :=
  ∀ (r : List Addr) (h : Hq) (H : Hp) (σ : Sl) (ws : List W) (vs : List V) (Q : VK), Rep g r h H → RVs g.K r H ws vs → Aft g Wx σ (f ws h) r H Q → rr vs H Q
def mBlt (f : Fn) (ms : M) : M := fun L h => (ms L h).bindL fun ws h1 => f ws h1
theorem blt_step {rr : List V → Hp → VK → Prop} {f : Fn} (hf : CallS g Wx rr f) {σ : Sl} {H : Hp} {Q : VK} (q : tM g Wx (mBlt f ms) σ H Q) : tCB rr (tML g Wx ms) σ H Q := by
  obtain ⟨r, h, L, A, q⟩ := q
  obtain ⟨r0, h0, L0, A0, q0⟩ := tML_step (ma := ms) A q
  refine ⟨r0, h0, L0, A0, ?_⟩
  cases em : ms L0 h0 with
  | bad => rw [em] at q0; exact q0
  | ex c fs h1 => rw [em] at q0; exact q0
  | ok x h1 =>
    rw [em] at q0
    cases x with
    | tup ws =>
      intro r1 H1 vs G R qx
      obtain ⟨r2, h2, ws2, A2, G2, q2, q3⟩ := q0 r1 H1 vs G R qx
      exact hf _ _ _ _ _ _ _ A2.rep q2 q3
    | _ => exact q0
theorem bltB_ok {rr : List V → Hp → VK → Prop} {f : Fn} {x : Str} {id : String} (hc : CallR X (.builtin id) rr) (hf : CallS g Wx rr f) (hg : Gl X x) (hm : X.mg x = none) (hv : bootBuiltins x = some (.builtin id)) (hs : PAM X g Wx (e :: es) ms)
    (hn : x ≠ "__name__" := by decide) (hdb : (x == ("__debug__" : Str)) = false := by decide)
    (he : starEach (e :: es) X.env = (false, eval e X.env) :: starEach es X.env := by rfl) (hpl : (backTo pos (starEach es X.env)).any (·.1) = false := by rfl) : PEM X g Wx (.Call (.Name x p) (e :: es) [] pos) (mBlt f ms) :=
  pe_imp (pe_callB hc hg hm hv hs hn hdb he hpl) fun _ _ _ q => blt_step hf q
theorem bltT_ok {rr : List V → Hp → VK → Prop} {f : Fn} {x : Str} {T : String} (hc : CallR X (.type T) rr) (hf : CallS g Wx rr f) (hg : Gl X x) (hm : X.mg x = none) (hv : bootBuiltins x = some (.type T)) (hs : PAM X g Wx (e :: es) ms)
    (hn : x ≠ "__name__" := by decide) (hdb : (x == ("__debug__" : Str)) = false := by decide)
    (he : starEach (e :: es) X.env = (false, eval e X.env) :: starEach es X.env := by rfl) (hpl : (backTo pos (starEach es X.env)).any (·.1) = false := by rfl) : PEM X g Wx (.Call (.Name x p) (e :: es) [] pos) (mBlt f ms) :=
  pe_imp (pe_callTy hc hg hm hv hs hn hdb he hpl) fun _ _ _ q => blt_step hf q
theorem RVs.one_inv {r : List Addr} {H : Hp} {w : W} {vs : List V} (q : RVs g.K r H [w] vs) : ∃ v, vs = [v] ∧ RV g.K r H w v := by
  obtain ⟨v, t, rfl, h1, h2⟩ := q.inv
  exact ⟨v, by rw [h2.inv0], h1⟩
theorem RVs.two_inv {r : List Addr} {H : Hp} {w w' : W} {vs : List V} (q : RVs g.K r H [w, w'] vs) : ∃ v v', vs = [v, v'] ∧ RV g.K r H w v ∧ RV g.K r H w' v' := by
  obtain ⟨v, t, rfl, h1, h2⟩ := q.inv
  obtain ⟨v', rfl, h3⟩ := RVs.one_inv h2
  exact ⟨v, v', rfl, h1, h3⟩
@[simp] def bAbs : Fn := fun ws h => match ws with
  | [.int i] => .ok (.int (if i < 0 then -i else i)) h
  | _ => .bad
theorem abs_S : CallS g Wx (fun xs H Q => ∃ i, xs = [.int i] ∧ Q (.int (if i < 0 then -i else i)) H) bAbs := by
  intro r h H σ ws vs Q R q x
  unfold bAbs at x
  split at x
  · obtain ⟨v, rfl, q1⟩ := RVs.one_inv q
    simp only [RV] at q1; subst q1
    exact ⟨_, rfl, x.done R (by simp only [RV])⟩
  · exact x.elim
@[simp] def bInt : Fn := fun ws h => match ws with
  | [.int i] => .ok (.int i) h
  | [.bl b] => .ok (.int (if b then 1 else 0)) h
  | _ => .bad
theorem int_S : CallS g Wx (fun xs H Q => (∃ i, xs = [.int i] ∧ Q (.int i) H) ∨ ∃ k, xs = [.bl k] ∧ Q (.int (if k then 1 else 0)) H) bInt := by
  intro r h H σ ws vs Q R q x
  unfold bInt at x
  split at x
  · obtain ⟨v, rfl, q1⟩ := RVs.one_inv q
    simp only [RV] at q1; subst q1
    exact .inl ⟨_, rfl, x.done R (by simp only [RV])⟩
  · obtain ⟨v, rfl, q1⟩ := RVs.one_inv q
    simp only [RV] at q1; subst q1
    exact .inr ⟨_, rfl, x.done R (by simp only [RV])⟩
  · exact x.elim
@[simp] def bMax : Fn := fun ws h => match ws with
  | [.int i, .int j] => .ok (.int (if j > i then j else i)) h
  | _ => .bad
theorem max_S : CallS g Wx (fun xs H Q => ∃ i j, xs = [.int i, .int j] ∧ Q (.int (if j > i then j else i)) H) bMax := by
  intro r h H σ ws vs Q R q x
  unfold bMax at x
  split at x
  · obtain ⟨v, v', rfl, q1, q2⟩ := RVs.two_inv q
    simp only [RV] at q1 q2; subst q1 q2
    exact ⟨_, _, rfl, x.done R (by simp only [RV])⟩
  · exact x.elim
@[simp] def bMin : Fn := fun ws h => match ws with
  | [.int i, .int j] => .ok (.int (if j < i then j else i)) h
  | _ => .bad
theorem min_S : CallS g Wx (fun xs H Q => ∃ i j, xs = [.int i, .int j] ∧ Q (.int (if j < i then j else i)) H) bMin := by
  intro r h H σ ws vs Q R q x
  unfold bMin at x
  split at x
  · obtain ⟨v, v', rfl, q1, q2⟩ := RVs.two_inv q
    simp only [RV] at q1 q2; subst q1 q2
    exact ⟨_, _, rfl, x.done R (by simp only [RV])⟩
  · exact x.elim
/-- len -/
@[simp] def lenW (w : W) (h : Hq) : Option Nat := match w with
  | .str s => if s.length ≤ lineN then some s.length else none
  | .cell n => match h[n]? with
    | some (.lst l) => some l.length
    | some (.dk false l) => some l.length
    | _ => none
  | w => (seqOf w h).map List.length
@[simp] def bLen : Fn := fun ws h => match ws with
  | [w] => match lenW w h with
    | some n => .ok (.int n) h
    | none => .bad
  | _ => .bad
def rLenA (K : PySem.W.Frag) : List V → Hp → VK → Prop := fun xs H Q => (∃ p ys, xs = [.ref p] ∧ (SqL K H p ys ∨ SqT K H p ys) ∧ Q (.int ys.length) H) ∨ ((∃ z, xs = [.str z] ∧ z.length ≤ sizeLine ∧ Q (.int z.length) H) ∨ ∃ a kvs, xs = [V.ref a] ∧ H a = some (.dK kvs) ∧ Q (.int kvs.length) H)
theorem CallR.or {f : Value} {r1 r2 : List V → Hp → VK → Prop} (h1 : CallR X f r1) (h2 : CallR X f r2) : CallR X f (fun xs H Q => r1 xs H Q ∨ r2 xs H Q) := by
  intro pn s σ H xs us Q I rv q
  rcases q with q | q
  · exact h1 pn s σ H xs us Q I rv q
  · exact h2 pn s σ H xs us Q I rv q
theorem call_lenA : CallR X (.builtin "len") (rLenA X.K) := CallR.or call_len_seq (CallR.or call_len_str call_lenD)
theorem len_S : CallS g Wx (rLenA g.K) bLen := by
  intro r h H σ ws vs Q R q x
  unfold bLen at x
  split at x
  · rename_i w
    obtain ⟨v, rfl, q1⟩ := RVs.one_inv q
    split at x
    · rename_i n en
      unfold lenW at en
      split at en
      · split at en
        · rename_i hl
          cases en
          simp only [RV] at q1; subst q1
          refine .inr (.inl ⟨_, rfl, by rw [sV_len, lineN_eq]; exact hl, ?_⟩)
          rw [sV_len]
          exact x.done R (by simp only [RV])
        · cases en
      · split at en
        · rename_i l ec
          cases en
          obtain ⟨p, o, rfl, _, hp, vs, rfl, rc⟩ := cell_at R q1 ec
          refine .inl ⟨p, vs, rfl, .inl (SqL.of hp), ?_⟩
          rw [← rc.len]
          exact x.done R (by simp only [RV])
        · rename_i l ec
          cases en
          obtain ⟨p, o, rfl, _, hp, kvs, lo, rc⟩ := cell_at R q1 ec
          have lo : o = .dK kvs := lo
          subst lo
          refine .inr (.inr ⟨p, kvs, rfl, hp, ?_⟩)
          rw [← rc.len]
          exact x.done R (by simp only [RV])
        · cases en
      · obtain ⟨l, el, e2⟩ := Option.map_eq_some_iff.mp en
        subst e2
        obtain ⟨p, vs, rfl, sq, rc⟩ := seqOf_at R q1 el
        refine .inl ⟨p, vs, rfl, sq, ?_⟩
        rw [← rc.len]
        exact x.done R (by simp only [RV])
    · exact x.elim
  · exact x.elim
/-- list(..), a new one -/
@[simp] def bList (cell : Bool) : Fn := fun ws h => match ws with
  | [w] => match seqOf w h with
    | some l => if cell then .ok (.cell h.length) (h ++ [.lst l]) else .ok (.lst l) h
    | none => .bad
  | _ => .bad
theorem list_S (cell : Bool) : CallS g Wx (fun xs H Q => ∃ p ys, xs = [.ref p] ∧ (SqL g.K H p ys ∨ SqT g.K H p ys) ∧ ∀ l, H l = none → Q (.ref l) (upd H l (.lst ys))) (bList cell) := by
  intro r h H σ ws vs Q R q x
  unfold bList at x
  split at x
  · rename_i w
    obtain ⟨v, rfl, q1⟩ := RVs.one_inv q
    split at x
    · rename_i l el
      obtain ⟨p, vs, rfl, sq, rc⟩ := seqOf_at R q1 el
      refine ⟨p, vs, rfl, sq, fun z hz => ?_⟩
      cases cell with
      | true => exact x _ _ _ (Gro.cell hz) (R.cell hz ⟨vs, rfl, RVs.gro (Gro.cell hz) _ _ rc⟩) (RV.new R)
      | false =>
        refine x _ _ _ (Gro.upd hz) (R.upd hz) ?_
        simp only [RV]
        exact ⟨z, vs, rfl, ⟨R.fresh hz, upd_same⟩, RVs.gro (Gro.upd hz) _ _ rc⟩
    · exact x.elim
  · exact x.elim
/-- tuple(..) -/
@[simp] def bTuple : Fn := fun ws h => match ws with
  | [.tup l] => .ok (.tup l) h
  | [.rol l] => .ok (.tup l) h
  | [w] => match lstOf w h with
    | some l => .ok (.tup l) h
    | none => .bad
  | _ => .bad
theorem tuple_S : CallS g Wx (fun xs H Q => ∃ p ys, xs = [.ref p] ∧ ((SqL g.K H p ys ∧ ∀ l, H l = none → Q (.ref l) (upd H l (.tup ys))) ∨ (SqT g.K H p ys ∧ Q (.ref p) H))) bTuple := by
  intro r h H σ ws vs Q R q x
  unfold bTuple at x
  have new : ∀ {l : List W} {vs : List V}, RVs g.K r H l vs → Aft g Wx σ (.ok (.tup l) h) r H Q → ∀ z, H z = none → Q (.ref z) (upd H z (.tup vs)) := fun {l vs} rc x z hz => by
    refine x _ _ _ (Gro.upd hz) (R.upd hz) ?_
    simp only [RV]
    exact ⟨z, vs, rfl, ⟨R.fresh hz, upd_same⟩, RVs.gro (Gro.upd hz) _ _ rc⟩
  split at x
  · obtain ⟨v, rfl, q1⟩ := RVs.one_inv q
    have q2 := q1
    simp only [RV] at q1
    obtain ⟨p, vs, rfl, ⟨np, hp⟩, rc⟩ := q1
    exact ⟨p, vs, rfl, .inr ⟨SqT.of hp, x.done R q2⟩⟩
  · obtain ⟨v, rfl, q1⟩ := RVs.one_inv q
    simp only [RV] at q1
    obtain ⟨p, vs, rfl, hp, rc⟩ := q1
    refine ⟨p, vs, rfl, .inl ⟨?_, new rc x⟩⟩
    rcases hp with ⟨_, hp⟩ | hp
    · exact .inl hp
    · exact .inr hp
  · rename_i w _ _
    obtain ⟨v, rfl, q1⟩ := RVs.one_inv q
    split at x
    · rename_i l el
      obtain ⟨p, vs, rfl, hp, rc⟩ := lstOf_at R q1 el
      exact ⟨p, vs, rfl, .inl ⟨SqL.of hp, new rc x⟩⟩
    · exact x.elim
  · exact x.elim
end
end MR
/-! MStmt: statements, targets, loops, the body of a def. -/
namespace MR
open PySem PySem.Spec PyProof.Rows L2

inductive Rf where
  | nx (L : Loc) (h : Hq)
  | rt (w : W) (h : Hq)
  | bk (L : Loc) (h : Hq)
  | ct (L : Loc) (h : Hq)
  | ex (c : Nat) (fs : List (Nat × W)) (L : Loc) (h : Hq)
  | bad
abbrev MS := Loc → Hq → Rf
def Rf.seq (x : Rf) (k : MS) : Rf := match x with
  | .nx L h => k L h
  | x => x
@[simp] theorem Rf.seq_nx (L : Loc) (h : Hq) (k : MS) : (Rf.nx L h).seq k = k L h := rfl
@[simp] theorem Rf.seq_rt (w : W) (h : Hq) (k : MS) : (Rf.rt w h).seq k = .rt w h := rfl
@[simp] theorem Rf.seq_bk (L : Loc) (h : Hq) (k : MS) : (Rf.bk L h).seq k = .bk L h := rfl
@[simp] theorem Rf.seq_ct (L : Loc) (h : Hq) (k : MS) : (Rf.ct L h).seq k = .ct L h := rfl
@[simp] theorem Rf.seq_ex (c : Nat) (fs : List (Nat × W)) (L : Loc) (h : Hq) (k : MS) : (Rf.ex c fs L h).seq k = .ex c fs L h := rfl
@[simp] theorem Rf.seq_bad (k : MS) : (Rf.bad).seq k = .bad := rfl
/-- a value, then a statement -/
def Rs.thn (x : Rs) (L : Loc) (k : W → Hq → Rf) : Rf := match x with
  | .ok w h => k w h
  | .ex c fs h => .ex c fs L h
  | .bad => .bad
@[simp] theorem Rs.thn_ok (w : W) (h : Hq) (L : Loc) (k : W → Hq → Rf) : (Rs.ok w h).thn L k = k w h := rfl
@[simp] theorem Rs.thn_ex (c : Nat) (fs : List (Nat × W)) (h : Hq) (L : Loc) (k : W → Hq → Rf) : (Rs.ex c fs h).thn L k = .ex c fs L h := rfl
@[simp] theorem Rs.thn_bad (L : Loc) (k : W → Hq → Rf) : (Rs.bad).thn L k = .bad := rfl
def AftS (g : Gm) (Wx : WX) (x : Rf) (r : List Addr) (H : Hp) (D : Ends) : Prop := match x with
  | .nx L h' => ∀ (r' : List Addr) (H' : Hp) (σ' : Sl), Gro r H r' H' → At g r' h' H' L σ' → D.nx σ' H'
  | .rt w h' => ∀ (r' : List Addr) (H' : Hp) (v : V), Gro r H r' H' → Rep g r' h' H' → RV g.K r' H' w v → D.rt v H'
  | .bk L h' => ∀ (r' : List Addr) (H' : Hp) (σ' : Sl), Gro r H r' H' → At g r' h' H' L σ' → D.bk σ' H'
  | .ct L h' => ∀ (r' : List Addr) (H' : Hp) (σ' : Sl), Gro r H r' H' → At g r' h' H' L σ' → D.ct σ' H'
  | .ex c fs L h' => ∀ (r' : List Addr) (H' : Hp) (σ' : Sl) (cls : Value) (d : Option Addr), Gro r H r' H' → At g r' h' H' L σ' → RX g r' H' c fs cls d → Wx cls d σ' H'
  | .bad => False
def tS (g : Gm) (Wx : WX) (m : MS) : TS := fun D σ H => ∃ (r : List Addr) (h : Hq) (L : Loc), At g r h H L σ ∧ AftS g Wx (m L h) r H D
abbrev PSM (X : Cx) (g : Gm) (Wx : WX) (st : Stmt) (m : MS) : Prop := PS X st (tS g Wx m)
abbrev PSsM (X : Cx) (g : Gm) (Wx : WX) (st : List Stmt) (m : MS) : Prop := PSs X st (tS g Wx m)
section
variable {X : Cx} {g : Gm} {Wx : WX} {e a b c : Expr} {m ma mb mc : M} {pos apos p : Pos} {k : Nat} {es : List Expr} {ms : M} {st : Stmt} {sts sts' : List Stmt} {s1 s2 : MS}
theorem AftS.gro {x : Rf} {r r1 : List Addr} {H H1 : Hp} {D : Ends} (G : Gro r H r1 H1) (h : AftS g Wx x r H D) : AftS g Wx x r1 H1 D := by
  cases x with
  | nx L h' => exact fun r' H' v G' => h r' H' v (G.trans G')
  | rt L h' => exact fun r' H' v G' => h r' H' v (G.trans G')
  | bk L h' => exact fun r' H' v G' => h r' H' v (G.trans G')
  | ct L h' => exact fun r' H' v G' => h r' H' v (G.trans G')
  | ex c fs L h' => exact fun r' H' v cls d G' => h r' H' v cls d (G.trans G')
  | bad => exact h
/-- the end of a statement -/
theorem AftS.fin {r : List Addr} {h : Hq} {H : Hp} {L : Loc} {σ : Sl} {D : Ends} (x : AftS g Wx (.nx L h) r H D) (A : At g r h H L σ) : D.nx σ H := x r H σ Gro.refl A
/-- a value in a statement -/
theorem tS_step {kk : W → Hq → Rf} {σ : Sl} {r : List Addr} {h : Hq} {H : Hp} {L : Loc} {D : Ends} (A : At g r h H L σ) (x : AftS g Wx ((ma L h).thn L kk) r H D) :
    tM g Wx ma σ H fun v H1 => ∃ (r1 : List Addr) (h1 : Hq) (w : W), At g r1 h1 H1 L σ ∧ Gro r H r1 H1 ∧ RV g.K r1 H1 w v ∧ AftS g Wx (kk w h1) r1 H1 D := by
  refine ⟨r, h, L, A, ?_⟩
  cases em : ma L h with
  | ok w h1 =>
    rw [em] at x
    exact fun r1 H1 v G R q => ⟨r1, h1, w, A.gro G R, G, q, x.gro G⟩
  | ex c fs h1 =>
    rw [em] at x
    exact fun r1 H1 cls d G R q => x r1 H1 σ cls d G (A.gro G R) q
  | bad =>
    rw [em] at x
    exact x
theorem tST_step {kk : Bool → Hq → Rf} {σ : Sl} {r : List Addr} {h : Hq} {H : Hp} {L : Loc} {D : Ends} (A : At g r h H L σ) (x : AftS g Wx ((ma L h).thn L fun w h1 => match w with | .bl c => kk c h1 | _ => .bad) r H D) :
    tMT g Wx ma σ H fun c H1 => ∃ (r1 : List Addr) (h1 : Hq), At g r1 h1 H1 L σ ∧ Gro r H r1 H1 ∧ AftS g Wx (kk c h1) r1 H1 D := by
  refine ⟨r, h, L, A, ?_⟩
  cases em : ma L h with
  | ok w h1 =>
    rw [em] at x
    intro r1 H1 v G R q
    cases w with
    | bl c =>
      simp only [RV] at q
      exact ⟨c, q, r1, h1, A.gro G R, G, x.gro G⟩
    | _ => exact x.elim
  | ex c fs h1 =>
    rw [em] at x
    exact fun r1 H1 cls d G R q => x r1 H1 σ cls d G (A.gro G R) q
  | bad =>
    rw [em] at x
    exact x

/-! ### small statements -/
def sPass : MS := fun L h => .nx L h
def sSeq (s1 s2 : MS) : MS := fun L h => (s1 L h).seq s2
def sRet (m : M) : MS := fun L h => (m L h).thn L fun w h1 => .rt w h1
def sRetN : MS := fun _ h => .rt .non h
def sExpr (m : M) : MS := fun L h => (m L h).thn L fun _ h1 => .nx L h1
def sBad : MS := fun _ _ => .bad
def sBrk : MS := fun L h => .bk L h
def sCont : MS := fun L h => .ct L h
def sIf (mc : M) (s1 s2 : MS) : MS := fun L h => (mc L h).thn L fun w h1 => match w with
  | .bl c => if c = true then s1 L h1 else s2 L h1
  | _ => .bad
theorem nil_S : PSsM X g Wx [] sPass := pss_imp pss_nil fun D σ H ⟨r, h, L, A, q⟩ => q.fin A
theorem pass_ok : PSM X g Wx (.Pass pos) sPass := ps_imp ps_pass fun D σ H ⟨r, h, L, A, q⟩ => q.fin A
theorem brk_ok : PSM X g Wx (.Break pos) sBrk := ps_imp ps_break fun D σ H ⟨r, h, L, A, q⟩ => q r H σ Gro.refl A
theorem cont_ok : PSM X g Wx (.Continue pos) sCont := ps_imp ps_continue fun D σ H ⟨r, h, L, A, q⟩ => q r H σ Gro.refl A
theorem seq_ok (h1 : PSM X g Wx st s1) (h2 : PSsM X g Wx sts s2) : PSsM X g Wx (st :: sts) (sSeq s1 s2) :=
  pss_imp (pss_cons h1 h2) fun D σ H ⟨r, h, L, A, q⟩ => by
    refine ⟨r, h, L, A, ?_⟩
    unfold sSeq at q
    cases e1 : s1 L h with
    | nx L1 h1 => rw [e1] at q; exact fun r1 H1 σ1 G A1 => ⟨r1, h1, L1, A1, AftS.gro G q⟩
    | rt w h1 => rw [e1] at q; exact q
    | bk L1 h1 => rw [e1] at q; exact q
    | ct L1 h1 => rw [e1] at q; exact q
    | ex c fs L1 h1 => rw [e1] at q; exact q
    | bad => rw [e1] at q; exact q
theorem last_ok (h1 : PSM X g Wx st s1) : PSsM X g Wx [st] s1 := pss_one h1
theorem ret_ok (ha : PEM X g Wx a ma) : PSM X g Wx (.Return (some a) pos) (sRet ma) :=
  ps_imp (ps_ret ha) fun D σ H ⟨r, h, L, A, q⟩ => by
    obtain ⟨r0, h0, L0, A0, q0⟩ := tS_step (ma := ma) A q
    exact ⟨r0, h0, L0, A0, q0.imp fun v H1 ⟨r1, h1, w, A1, G1, x1, q1⟩ => q1 r1 H1 v Gro.refl A1.rep x1⟩
theorem retN_ok : PSM X g Wx (.Return none pos) sRetN := ps_imp ps_retN fun D σ H ⟨r, h, L, A, q⟩ => q r H .non Gro.refl A.rep (by simp only [RV])
theorem expr_ok (ha : PEM X g Wx a ma) (hs : swapsWith a none pos.line X.env = pure false := by rfl) : PSM X g Wx (.Expr a pos) (sExpr ma) :=
  ps_imp (ps_expr ha hs) fun D σ H ⟨r, h, L, A, q⟩ => by
    obtain ⟨r0, h0, L0, A0, q0⟩ := tS_step (ma := ma) A q
    exact ⟨r0, h0, L0, A0, q0.imp fun v H1 ⟨r1, h1, w, A1, G1, x1, q1⟩ => q1.fin A1⟩
/-- a statement that is never come to -/
theorem never_ok : PSM X g Wx st sBad := ps_imp ps_never fun D σ H ⟨r, h, L, A, q⟩ => q.elim
theorem if_ok (hc : PTM X g Wx c mc) (h1 : PSsM X g Wx sts s1) (h2 : PSsM X g Wx sts' s2) : PSM X g Wx (.If c sts sts' pos) (sIf mc s1 s2) :=
  ps_imp (ps_if hc h1 h2) fun D σ H ⟨r, h, L, A, q⟩ => by
    obtain ⟨r0, h0, L0, A0, q0⟩ := tST_step (ma := mc) (kk := fun c h1 => if c = true then s1 L h1 else s2 L h1) A q
    refine ⟨r0, h0, L0, A0, q0.imp fun v H1 ⟨k, ev, r1, h1, A1, G1, q1⟩ => ⟨k, ev, ?_⟩⟩
    cases k with
    | true => exact iteT ⟨r1, h1, L, A1, q1⟩
    | false => exact iteF ⟨r1, h1, L, A1, q1⟩

/-! ### targets -/
abbrev TgM := W → Loc → Hq → Rf
def AftG (g : Gm) (x : Rf) (r : List Addr) (H : Hp) (Q : Sl → Hp → Prop) : Prop := match x with
  | .nx L h' => ∀ (r' : List Addr) (H' : Hp) (σ' : Sl), Gro r H r' H' → At g r' h' H' L σ' → Q σ' H'
  | _ => False
theorem AftG.gro {x : Rf} {r r1 : List Addr} {H H1 : Hp} {Q : Sl → Hp → Prop} (G : Gro r H r1 H1) (h : AftG g x r H Q) : AftG g x r1 H1 Q := by
  cases x with
  | nx L h' => exact fun r' H' v G' => h r' H' v (G.trans G')
  | _ => exact h
def tG (g : Gm) (mt : TgM) : TG := fun v σ H Q => ∃ (r : List Addr) (h : Hq) (L : Loc) (w : W), At g r h H L σ ∧ RV g.K r H w v ∧ AftG g (mt w L h) r H Q
abbrev PGM (X : Cx) (g : Gm) (tg : Expr) (mt : TgM) : Prop := PG X tg (tG g mt)
theorem pg_imp {tg : Expr} {t t' : TG} (h : PG X tg t) (i : ∀ v σ H Q, t' v σ H Q → t v σ H Q) : PG X tg t' := ⟨fun pn s sg H v u Q I rv q => h.run pn s sg H v u Q I rv (i v sg H Q q)⟩
def tgN (i : Nat) : TgM := fun w L h => .nx (L.set i (some w)) h
theorem At.set {r : List Addr} {h : Hq} {H : Hp} {L : Loc} {σ : Sl} {w : W} {v : V} (A : At g r h H L σ) (i : Nat) (q : RV g.K r H w v) : At g r h H (L.set i (some w)) (σ.set i (some v)) := ⟨A.rep, A.loc.set i q, A.px, fun j a e el => by
  by_cases hj : j = i
  · subst hj
    have hl : j < L.length := by
      have := (List.getElem?_eq_some_iff.mp el).1
      simpa using this
    rw [List.getElem?_set_self hl] at el
    cases el
  · rw [List.getElem?_set_ne (Ne.symm hj)] at el ⊢
    exact A.sx j a e el⟩
theorem tgN_ok {i : Nat} {x : Str} (hN : X.N.Nodup) (hi : X.N[i]? = some x) (hx : L2.Loc X.env.scope x) (hf : X.fn x = true ∨ X.env.scope.names.lookup x = some .local) : PGM X g (.Name x pos) (tgN i) :=
  pg_imp (pg_name hN hi hx hf) fun v σ H Q ⟨r, h, L, w, A, q, x⟩ => x r H _ Gro.refl (A.set i q)
/-- several targets: the values' list carried as a tuple -/
def tGs (g : Gm) (mt : List W → Loc → Hq → Rf) : TGs := fun vs σ H Q => ∃ (r : List Addr) (h : Hq) (L : Loc) (ws : List W), At g r h H L σ ∧ RVs g.K r H ws vs ∧ AftG g (mt ws L h) r H Q
def tgsNil : List W → Loc → Hq → Rf := fun ws L h => match ws with
  | [] => .nx L h
  | _ => .bad
def tgsCons (t : TgM) (ts : List W → Loc → Hq → Rf) : List W → Loc → Hq → Rf := fun ws L h => match ws with
  | w :: r => (t w L h).seq fun L1 h1 => ts r L1 h1
  | [] => .bad
theorem pgs_imp {tg : List Expr} {t t' : TGs} (h : PGs X tg t) (i : ∀ v σ H Q, t' v σ H Q → t v σ H Q) : PGs X tg t' := ⟨fun pn s sg H v u Q I rv q => h.run pn s sg H v u Q I rv (i v sg H Q q)⟩
theorem tgsNil_ok : PGs X [] (tGs g tgsNil) := pgs_imp pgs_nil fun vs σ H Q ⟨r, h, L, ws, A, q, x⟩ => by
  cases ws with
  | nil => exact ⟨q.inv0, x r H σ Gro.refl A⟩
  | cons w t => exact x.elim
theorem tgsCons_ok {t : TgM} {ts : List W → Loc → Hq → Rf} (h1 : PGM X g a t) (h2 : PGs X es (tGs g ts)) (hs : (assignEach (a :: es) X.env).map (·.2) = assign a X.env :: (assignEach es X.env).map (·.2) := by rfl) : PGs X (a :: es) (tGs g (tgsCons t ts)) :=
  pgs_imp (pgs_cons h1 h2 hs) fun vs σ H Q ⟨r, h, L, ws, A, q, x⟩ => by
    cases ws with
    | nil => exact x.elim
    | cons w tl =>
      obtain ⟨v, vt, rfl, q1, q2⟩ := q.inv
      refine ⟨v, vt, rfl, r, h, L, w, A, q1, ?_⟩
      have x : AftG g ((t w L h).seq fun L1 h1 => ts tl L1 h1) r H Q := x
      cases et : t w L h with
      | nx L1 h1 => rw [et] at x; exact fun r1 H1 σ1 G A1 => ⟨r1, h1, L1, tl, A1, RVs.gro G _ _ q2, AftG.gro G x⟩
      | _ => rw [et] at x; exact x.elim
def tgT (n : Nat) (ts : List W → Loc → Hq → Rf) : TgM := fun w L h => match seqOf w h with
  | some l => if l.length = n then ts l L h else .bad
  | none => .bad
theorem pg_or {tg : Expr} {t t' : TG} (h : PG X tg t) (h' : PG X tg t') : PG X tg (fun v σ H Q => t v σ H Q ∨ t' v σ H Q) := ⟨fun pn s sg H v u Q I rv q => by
  rcases q with q | q
  · exact h.run pn s sg H v u Q I rv q
  · exact h'.run pn s sg H v u Q I rv q⟩
theorem seqOf_tup {r : List Addr} {h : Hq} {H : Hp} {w : W} {v : V} {l : List W} (R : Rep g r h H) (q : RV g.K r H w v) (t : seqOf w h = some l) :
    ∃ (p : Addr) (vs : List V), v = .ref p ∧ (SqT g.K H p vs ∨ SqL g.K H p vs) ∧ RVs g.K r H l vs := by
  obtain ⟨p, vs, h1, h2, h3⟩ := seqOf_at R q t
  exact ⟨p, vs, h1, h2.symm, h3⟩
theorem tgT_ok {n kk : Nat} {ts : List W → Loc → Hq → Rf} (hk : Kx X g Wx) (h : PGs X es (tGs g ts)) (hn : (assignEach es X.env).length = n := by rfl) (hst : (assignEach es X.env).findIdx? (·.1) = none := by rfl) (hc : X.calm = true := by rfl) : PGM X g (.Tuple es kk pos) (tgT n ts) :=
  pg_imp (pg_or (pg_tup hc h hn hst) (pg_lst hc h hn hst)) fun v σ H Q ⟨r, hq, L, w, A, q, x⟩ => by
    unfold tgT at x
    split at x
    · rename_i l el
      obtain ⟨p, vs, rfl, sq, rc⟩ := seqOf_tup A.rep q el
      split at x
      · rename_i hl
        rw [hk.hK]
        rcases sq with sq | sq
        · exact .inl ⟨p, vs, rfl, sq, by rw [← rc.len]; exact hl, r, hq, L, l, A, rc, x⟩
        · exact .inr ⟨p, vs, rfl, sq, by rw [← rc.len]; exact hl, r, hq, L, l, A, rc, x⟩
      · exact x.elim
    · exact x.elim
/-- a store to an attribute -/
@[simp] def setFld (cs : List Nat) (f : Nat) (w o : W) (h : Hq) : Option Hq := match insOf o h with
  | some (n, c, fs) => if ((fLook f fs).isSome || cs.contains c) = true ∧ fs.length < 1000 then some (h.set n (.ins c (fPut f w fs))) else none
  | none => none
theorem setFld_at {cs : List Nat} {f : Nat} {w o : W} {v u : V} {r : List Addr} {h h' : Hq} {H : Hp} (hs : ∀ c ∈ cs, NoAttr g.K (g.ca c) (g.fd f)) (R : Rep g r h H) (qo : RV g.K r H o u) (qw : RV g.K r H w v) (e : setFld cs f w o h = some h') :
    ∃ (p C dx : Addr) (gs : List (Str × V)), u = .ref p ∧ H p = some (.ins C dx gs) ∧ Cls g.K C ∧ NoAttr g.K C (g.fd f) ∧ gs.length < 1000 ∧ Rep g r h' (upd H p (.ins C dx (putF (g.fd f) v gs))) ∧ Gro r H r (upd H p (.ins C dx (putF (g.fd f) v gs))) ∧
      ∀ n c fs, insOf o h = some (n, c, fs) → C = g.ca c := by
  unfold setFld at e
  split at e
  · rename_i n c fs ei
    split at e
    · rename_i hc
      cases e
      obtain ⟨p, dx, gs, rfl, er, hp, h2, h3, h4⟩ := insOf_at R qo ei
      have na : NoAttr g.K (g.ca c) (g.fd f) := by
        have hc1 := hc.1
        rw [Bool.or_eq_true] at hc1
        rcases hc1 with z | z
        · obtain ⟨w', ew⟩ := Option.isSome_iff_exists.mp z
          exact h4 _ (mem_fLook ew)
        · exact hs c (by simpa using z)
      have gr : Gro r H r (upd H p (.ins (g.ca c) dx (putF (g.fd f) v gs))) := Gro.write R er hp (fun b x z => by cases z)
      refine ⟨p, g.ca c, dx, gs, rfl, hp, h3, na, by rw [← h2.len]; exact hc.2, ?_, gr, fun n' c' fs' e' => by rw [ei] at e'; cases e'; rfl⟩
      refine R.write er hp (fun b x z => by cases z) ⟨⟨dx, _, rfl, RFs.gro gr (h2.put qw)⟩, h3, fun q hq => ?_⟩
      rcases mem_fPut hq with z | z
      · rw [z]; exact na
      · exact h4 q z
    · cases e
  · cases e
def sFldSet (cs : List Nat) (f : Nat) (mo mv : M) : MS := fun L h => (mv L h).thn L fun w h1 => (mo L h1).thn L fun o h2 => match setFld cs f w o h2 with
  | some h3 => .nx L h3
  | none => .bad
theorem fldSet_ok {cs : List Nat} {f : Nat} {x : Str} {pos' : Pos} (hk : Kx X g Wx) (hx : x = g.fd f) (hs : ∀ c ∈ cs, NoAttr g.K (g.ca c) (g.fd f)) (ha : PEM X g Wx a ma) (hb : PEM X g Wx b mb)
    (hw : swapsWith b (some (.Attribute a x pos')) pos.line X.env = pure false := by rfl) : PSM X g Wx (.Assign [.Attribute a x pos'] b pos) (sFldSet cs f ma mb) :=
  ps_imp (ps_fld ha hb hw) fun D σ H ⟨r, h, L, A, q⟩ => by
    obtain ⟨r0, h0, L0, A0, q0⟩ := tS_step (ma := mb) A q
    refine ⟨r0, h0, L0, A0, q0.imp fun v H1 ⟨r1, h1, w, A1, G1, x1, q1⟩ => ?_⟩
    obtain ⟨r2, h2, L2, A2, q2⟩ := tS_step (ma := ma) A1 q1
    refine ⟨r2, h2, L2, A2, q2.imp fun u H2 ⟨r3, h3, o, A3, G3, x3, q3⟩ => ?_⟩
    split at q3
    · rename_i h4 es
      obtain ⟨pp, C, dx, gs, rfl, e1, e2, e3, e4, e5, e6, _⟩ := setFld_at hs A3.rep x3 (RV.gro G3 _ _ x1) es
      rw [hk.hK]
      subst hx
      exact ⟨pp, C, dx, gs, rfl, e1, e2, e3, e4, q3 _ _ σ e6 (A3.gro e6 e5)⟩
    · exact q3.elim
/-- o.f op= e -/
def sFldAug (cs : List Nat) (f : Nat) (fo : W → W → Hq → Rs) (mo mv : M) : MS := fun L h => (mo L h).thn L fun o h1 => match insOf o h1 with
  | some (_, c, fs) => match fLook f fs with
    | some x => (mv L h1).thn L fun y h2 => (fo x y h2).thn L fun z h3 => match insOf o h3 with
      | some (_, c', _) => if c' = c then match setFld cs f z o h3 with
        | some h4 => .nx L h4
        | none => .bad else .bad
      | none => .bad
    | none => .bad
  | none => .bad
/-- the rule's reading, in a statement -/
theorem aft_thn {fo : W → W → Hq → Rs} {kk : W → Hq → Rf} {rr : R2} (hs : OpS g Wx rr fo) {σ : Sl} {r : List Addr} {h : Hq} {H : Hp} {L : Loc} {D : Ends} {x y : W} {v u : V} (A : At g r h H L σ) (qx : RV g.K r H x v) (qy : RV g.K r H y u) (q : AftS g Wx ((fo x y h).thn L kk) r H D)
    {Q : VK} (i : ∀ z H1 (r1 : List Addr) (h1 : Hq) (w : W), At g r1 h1 H1 L σ → Gro r H r1 H1 → RV g.K r1 H1 w z → AftS g Wx (kk w h1) r1 H1 D → Q z H1) : rr v u H Q := by
  refine hs r h H σ x y v u _ A.rep qx qy ?_
  cases ef : fo x y h with
  | ok w h1 =>
    rw [ef] at q
    exact fun r1 H1 v G R q' => i v H1 r1 h1 w (A.gro G R) G q' (q.gro G)
  | ex c fs h1 =>
    rw [ef] at q
    exact fun r1 H1 cls d G R q' => q r1 H1 σ cls d G (A.gro G R) q'
  | bad => rw [ef] at q; exact q
theorem fldAug_ok {cs : List Nat} {f : Nat} {x : Str} {tpos : Pos} {op : Operator} {rr : R2} {fo : W → W → Hq → Rs} (hk : Kx X g Wx) (hx : x = g.fd f) (hs : ∀ c ∈ cs, NoAttr g.K (g.ca c) (g.fd f)) (ho : OpR X (inplaceOp op) rr) (hf : OpS g Wx rr fo) (ha : PEM X g Wx a ma) (hb : PEM X g Wx b mb) :
    PSM X g Wx (.AugAssign (.Attribute a x tpos) op b pos) (sFldAug cs f fo ma mb) :=
  ps_imp (ps_fldaug ha hb (rd := rr) ho) fun D σ H ⟨r, h, L, A, q⟩ => by
    obtain ⟨r0, h0, L0, A0, q0⟩ := tS_step (ma := ma) A q
    refine ⟨r0, h0, L0, A0, q0.imp fun v H1 ⟨r1, h1, o, A1, G1, x1, q1⟩ => ?_⟩
    rw [hk.hK]
    subst hx
    split at q1
    · rename_i n c fs ei
      obtain ⟨p, dx, gs, rfl, _, hp, h2, h3, h4⟩ := insOf_at A1.rep x1 ei
      split at q1
      · rename_i xw ex
        obtain ⟨v', e1, e2⟩ := h2.look ex
        refine ⟨p, g.ca c, dx, gs, v', rfl, hp, h3, h4 _ (mem_fLook ex), e1, ?_⟩
        obtain ⟨r2, h5, L2, A2, q2⟩ := tS_step (ma := mb) A1 q1
        refine ⟨r2, h5, L2, A2, q2.imp fun u H2 ⟨r3, h6, y, A3, G3, x3, q3⟩ => ?_⟩
        refine aft_thn hf A3 (RV.gro G3 _ _ e2) x3 q3 fun z H3 r4 h7 zw A4 G4 x4 q4 => ?_
        split at q4
        · rename_i n' c' fs' ei'
          split at q4
          · rename_i hc
            subst hc
            split at q4
            · rename_i h8 es
              obtain ⟨pp, C, dx', gs', ep, e5, e6, e7, e8, e9, e10, e11⟩ := setFld_at hs A4.rep (RV.gro G4 _ _ (RV.gro G3 _ _ x1)) x4 es
              cases ep
              have e12 := e11 _ _ _ ei'
              subst e12
              exact ⟨dx', gs', e5, e8, q4 _ _ σ e10 (A4.gro e10 e9)⟩
            · exact q4.elim
          · exact q4.elim
        · exact q4.elim
      · exact q1.elim
    · exact q1.elim
end
end MR
/-! MStmt2: assignments, loops, the body of a def. -/
namespace MR
open PySem PySem.Spec PyProof.Rows L2
section
variable {X : Cx} {g : Gm} {Wx : WX} {e a b c : Expr} {m ma mb mc : M} {pos apos p : Pos} {k : Nat} {es : List Expr} {ms : M} {st : Stmt} {sts sts' : List Stmt} {s1 s2 : MS}
/-! ### assignments -/
def sSet (i : Nat) (m : M) : MS := fun L h => (m L h).thn L fun w h1 => .nx (L.set i (some w)) h1
theorem set_ok {i : Nat} {x : Str} {pos' : Pos} (hk : Kx X g Wx) (hi : X.N[i]? = some x) (hx : L2.Loc X.env.scope x) (ha : PEM X g Wx a ma) (hs : swapsWith a (some (.Name x pos')) pos.line X.env = pure false := by rfl) (hf : X.fn x = true ∨ X.env.scope.names.lookup x = some .local := by first | exact .inl rfl | exact .inr rfl | assumption) :
    PSM X g Wx (.Assign [.Name x pos'] a pos) (sSet i ma) :=
  ps_imp (ps_set hk.nd hi hx ha hs hf) fun D σ H ⟨r, h, L, A, q⟩ => by
    obtain ⟨r0, h0, L0, A0, q0⟩ := tS_step (ma := ma) A q
    exact ⟨r0, h0, L0, A0, q0.imp fun v H1 ⟨r1, h1, w, A1, G1, x1, q1⟩ => q1.fin (A1.set i x1)⟩
/-- x = the list of a comprehension: the mirror is the same -/
theorem setLc_ok {t : TE} {i : Nat} {x : Str} {pos' : Pos} {m : M} (hp : PS X (.Assign [.Name x pos'] a pos) (tAsg t (gName i))) (ht : ∀ σ H Q, tM g Wx m σ H Q → t σ H Q) : PSM X g Wx (.Assign [.Name x pos'] a pos) (sSet i m) :=
  ps_imp hp fun D σ H ⟨r, h, L, A, q⟩ => by
    refine ht σ H _ ?_
    obtain ⟨r0, h0, L0, A0, q0⟩ := tS_step (ma := m) A q
    exact ⟨r0, h0, L0, A0, q0.imp fun v H1 ⟨r1, h1, w, A1, G1, x1, q1⟩ => q1.fin (A1.set i x1)⟩
/-- values, then a statement -/
def Rs.thnL (x : Rs) (L : Loc) (k : List W → Hq → Rf) : Rf := match x with
  | .ok (.tup ws) h => k ws h
  | .ok _ _ => .bad
  | .ex c fs h => .ex c fs L h
  | .bad => .bad
@[simp] theorem Rs.thnL_ok (w : List W) (h : Hq) (L : Loc) (k : List W → Hq → Rf) : (Rs.ok (.tup w) h).thnL L k = k w h := rfl
@[simp] theorem Rs.thnL_ex (c : Nat) (fs : List (Nat × W)) (h : Hq) (L : Loc) (k : List W → Hq → Rf) : (Rs.ex c fs h).thnL L k = .ex c fs L h := rfl
@[simp] theorem Rs.thnL_bad (L : Loc) (k : List W → Hq → Rf) : (Rs.bad).thnL L k = .bad := rfl
theorem tSL_step {kk : List W → Hq → Rf} {σ : Sl} {r : List Addr} {h : Hq} {H : Hp} {L : Loc} {D : Ends} (A : At g r h H L σ) (x : AftS g Wx ((ms L h).thnL L kk) r H D) :
    tML g Wx ms σ H fun vs H1 => ∃ (r1 : List Addr) (h1 : Hq) (ws : List W), At g r1 h1 H1 L σ ∧ Gro r H r1 H1 ∧ RVs g.K r1 H1 ws vs ∧ AftS g Wx (kk ws h1) r1 H1 D := by
  refine ⟨r, h, L, A, ?_⟩
  cases em : ms L h with
  | ok w h1 =>
    rw [em] at x
    cases w with
    | tup ws => exact fun r1 H1 v G R q => ⟨r1, h1, ws, A.gro G R, G, q, AftS.gro G x⟩
    | _ => exact x
  | ex c fs h1 =>
    rw [em] at x
    exact fun r1 H1 cls d G R q => x r1 H1 σ cls d G (A.gro G R) q
  | bad =>
    rw [em] at x
    exact x
theorem AftL.imp {σ : Sl} {x : Rs} {r : List Addr} {H : Hp} {Q Q' : List V → Hp → Prop} (h : AftL g Wx σ x r H Q) (i : ∀ v H', Q v H' → Q' v H') : AftL g Wx σ x r H Q' := by
  cases x with
  | ok w h' =>
    cases w with
    | tup ws => exact fun r' H' v G' R q => i _ _ (h r' H' v G' R q)
    | _ => exact h
  | ex c fs h' => exact h
  | bad => exact h
def sPar (i j : Nat) (ms : M) : MS := fun L h => (ms L h).thnL L fun ws h1 => match ws with
  | [v, w] => .nx ((L.set i (some v)).set j (some w)) h1
  | _ => .bad
theorem par_ok {i j : Nat} {x y : Str} {px py pt : Pos} {kt k2 : Nat} {pt2 : Pos} (hk : Kx X g Wx) (hi : X.N[i]? = some x) (hj : X.N[j]? = some y) (hij : i ≠ j)
    (hx : X.env.scope.names.lookup x = some .local) (hy : X.env.scope.names.lookup y = some .local) (ha : PAM X g Wx [a, b] ms)
    (hw : swappedStores [.Tuple [.Name x px, .Name y py] kt pt] (.Tuple [a, b] k2 pt2) X.env = pure (some [x, y])) (hs : swapsWithSole [.Tuple [.Name x px, .Name y py] kt pt] (.Tuple [a, b] k2 pt2) pos.line X.env = pure false := by rfl) (hc : X.calm = true := by rfl) :
    PSM X g Wx (.Assign [.Tuple [.Name x px, .Name y py] kt pt] (.Tuple [a, b] k2 pt2) pos) (sPar i j ms) :=
  ps_imp (ps_par hc hk.nd hi hj hij hx hy ha hw hs) fun D σ H ⟨r, h, L, A, q⟩ => by
    obtain ⟨r0, h0, L0, A0, q0⟩ := tSL_step (ms := ms) A q
    refine ⟨r0, h0, L0, A0, q0.imp fun vs H1 ⟨r1, h1, ws, A1, G1, x1, q1⟩ => ?_⟩
    split at q1
    · rename_i v w
      obtain ⟨u, u', rfl, e1, e2⟩ := RVs.two_inv x1
      exact ⟨u, u', rfl, q1.fin ((A1.set i e1).set j e2)⟩
    · exact q1.elim
def sPar3 (i j l : Nat) (ms : M) : MS := fun L h => (ms L h).thnL L fun ws h1 => match ws with
  | [u, v, w] => .nx (((L.set i (some u)).set j (some v)).set l (some w)) h1
  | _ => .bad
theorem par3_ok {i j l : Nat} {x y z : Str} {px py pz pt : Pos} {kt k2 : Nat} {pt2 : Pos} (hk : Kx X g Wx) (hi : X.N[i]? = some x) (hj : X.N[j]? = some y) (hl : X.N[l]? = some z) (hij : i ≠ j) (hil : i ≠ l) (hjl : j ≠ l)
    (hx : X.env.scope.names.lookup x = some .local) (hy : X.env.scope.names.lookup y = some .local) (hz : X.env.scope.names.lookup z = some .local) (ha : PAM X g Wx [a, b, c] ms)
    (hw : swappedStores [.Tuple [.Name x px, .Name y py, .Name z pz] kt pt] (.Tuple [a, b, c] k2 pt2) X.env = pure (some [x, y, z])) (hs : swapsWithSole [.Tuple [.Name x px, .Name y py, .Name z pz] kt pt] (.Tuple [a, b, c] k2 pt2) pos.line X.env = pure false := by rfl) (hc : X.calm = true := by rfl) :
    PSM X g Wx (.Assign [.Tuple [.Name x px, .Name y py, .Name z pz] kt pt] (.Tuple [a, b, c] k2 pt2) pos) (sPar3 i j l ms) :=
  ps_imp (ps_par3 hc hk.nd hi hj hl hij hil hjl hx hy hz ha hw hs) fun D σ H ⟨r, h, L, A, q⟩ => by
    obtain ⟨r0, h0, L0, A0, q0⟩ := tSL_step (ms := ms) A q
    refine ⟨r0, h0, L0, A0, q0.imp fun vs H1 ⟨r1, h1, ws, A1, G1, x1, q1⟩ => ?_⟩
    split at q1
    · rename_i u v w
      obtain ⟨u1, t1, rfl, e1, e2⟩ := x1.inv
      obtain ⟨u2, u3, rfl, e3, e4⟩ := RVs.two_inv e2
      exact ⟨u1, u2, u3, rfl, q1.fin (((A1.set i e1).set j e3).set l e4)⟩
    · exact q1.elim
/-- target = value -/
def sAsg (mt : TgM) (m : M) : MS := fun L h => (m L h).thn L fun w h1 => mt w L h1
theorem aftS_G {x : Rf} {r : List Addr} {H : Hp} {D : Ends} (h : AftS g Wx x r H D) (ok : match x with | .nx _ _ => True | _ => False) : AftG g x r H D.nx := by
  cases x with
  | nx L h' => exact fun r' H' σ' G A => h r' H' σ' G A
  | _ => exact ok.elim
/-- a target's end alone -/
def only (x : Rf) : Rf := match x with
  | .nx L h => .nx L h
  | _ => .bad
theorem only_G {x : Rf} {r : List Addr} {H : Hp} {D : Ends} (h : AftS g Wx (only x) r H D) : AftG g x r H D.nx := by
  cases x with
  | nx L h' => exact fun r' H' σ' G A => h r' H' σ' G A
  | _ => exact h.elim
def sAsgT (mt : TgM) (m : M) : MS := fun L h => (m L h).thn L fun w h1 => only (mt w L h1)
theorem asg_ok {tg : Expr} {mt : TgM} (ha : PEM X g Wx a ma) (hg : PGM X g tg mt) (hs : swapsWithSole [tg] a pos.line X.env = pure false := by rfl) (hw : swappedStores [tg] a X.env = pure none := by rfl)
    (h1 : (assignEach [tg] X.env).map (·.2) = [assign tg X.env] := by rfl) : PSM X g Wx (.Assign [tg] a pos) (sAsgT mt ma) :=
  ps_imp (ps_asg ha hg hs hw h1) fun D σ H ⟨r, h, L, A, q⟩ => by
    obtain ⟨r0, h0, L0, A0, q0⟩ := tS_step (ma := ma) A q
    exact ⟨r0, h0, L0, A0, q0.imp fun v H1 ⟨r1, h1, w, A1, G1, x1, q1⟩ => ⟨r1, h1, L, w, A1, x1, only_G q1⟩⟩
/-- an expression within a target: nothing raised -/
def Rs.val (x : Rs) (k : W → Hq → Rf) : Rf := match x with
  | .ok w h => k w h
  | _ => .bad
@[simp] theorem Rs.val_ok (w : W) (h : Hq) (k : W → Hq → Rf) : (Rs.ok w h).val k = k w h := rfl
theorem tG_step {kk : W → Hq → Rf} {σ : Sl} {r : List Addr} {h : Hq} {H : Hp} {L : Loc} {Q : Sl → Hp → Prop} (A : At g r h H L σ) (x : AftG g ((ma L h).val kk) r H Q) :
    tM g Wx ma σ H fun v H1 => ∃ (r1 : List Addr) (h1 : Hq) (w : W), At g r1 h1 H1 L σ ∧ Gro r H r1 H1 ∧ RV g.K r1 H1 w v ∧ AftG g (kk w h1) r1 H1 Q := by
  refine ⟨r, h, L, A, ?_⟩
  cases em : ma L h with
  | ok w h1 =>
    rw [em] at x
    exact fun r1 H1 v G R q => ⟨r1, h1, w, A.gro G R, G, q, x.gro G⟩
  | ex c fs h1 =>
    rw [em] at x
    exact x.elim
  | bad =>
    rw [em] at x
    exact x.elim
/-- o.f as a target -/
def tgF (cs : List Nat) (f : Nat) (mo : M) : TgM := fun w L h => (mo L h).val fun o h1 => match setFld cs f w o h1 with
  | some h2 => .nx L h2
  | none => .bad
theorem pg_attr {x : Str} {t : TE} (ha : PE X a t) : PG X (.Attribute a x pos) (fun v σ H Q => t σ H fun u H1 => ∃ pp C dx gs, u = .ref pp ∧ H1 pp = some (.ins C dx gs) ∧ Cls X.K C ∧ NoAttr X.K C x ∧ gs.length < 1000 ∧ Q σ (upd H1 pp (.ins C dx (putF x v gs)))) := ⟨fun pn s σ H v u Q I rv q => by
  show wpAny _ _ (do let ov ← holding [u] (eval a X.env); standAt pos.atName; holding [u, ov] (setAttr ov x u); release [u, ov] []) _ _ _
  refine wpAny_bind (wpAny_holding (thn (ha.run pn s σ H _ I q) fun ov s1 ⟨y, H1, I1, r1, pp, C, dx, gs, ey, e1, e2, e3, e4, q1⟩ => ?_))
  subst ey
  cases r1
  refine wpAny_bind (wpAny_standAt (wpAny_bind (wpAny_holding (setattr_ok I1 e1 e2 e3 e4 rv fun s3 I3 => ?_))))
  exact wpAny_release ⟨σ, _, I3, q1⟩⟩
theorem tgF_ok {cs : List Nat} {f : Nat} {x : Str} (hk : Kx X g Wx) (hx : x = g.fd f) (hs : ∀ c ∈ cs, NoAttr g.K (g.ca c) (g.fd f)) (ha : PEM X g Wx a ma) : PGM X g (.Attribute a x pos) (tgF cs f ma) :=
  pg_imp (pg_attr ha) fun v σ H Q ⟨r, h, L, w, A, qw, q⟩ => by
    obtain ⟨r0, h0, L0, A0, q0⟩ := tG_step (Wx := Wx) (ma := ma) A q
    refine ⟨r0, h0, L0, A0, q0.imp fun u H1 ⟨r1, h1, o, A1, G1, x1, q1⟩ => ?_⟩
    split at q1
    · rename_i h4 es
      obtain ⟨pp, C, dx, gs, rfl, e1, e2, e3, e4, e5, e6, _⟩ := setFld_at hs A1.rep x1 (RV.gro G1 _ _ qw) es
      rw [hk.hK]
      subst hx
      exact ⟨pp, C, dx, gs, rfl, e1, e2, e3, e4, q1 _ _ σ e6 (A1.gro e6 e5)⟩
    · exact q1.elim
/-- o[i] as a target -/
@[simp] def setItm (o i w : W) (h : Hq) : Option Hq := match o with
  | .cell n => match h[n]? with
    | some (.lst l) => match i with
      | .int z => match ixN l.length z with
        | some j => some (h.set n (.lst (l.set j w)))
        | none => none
      | _ => none
    | some (.dk false l) => match keyOf i with
      | some k => if l.length < lineN then some (h.set n (.dk false (dPut keyOf l k i w))) else none
      | none => none
    | some (.dt false l) => match keyT i with
      | some k => if l.length < lineN then some (h.set n (.dt false (dPut keyT l k i w))) else none
      | none => none
    | _ => none
  | _ => none
def rSetA : V → V → V → Hp → (Hp → Prop) → Prop := fun o i v H Q => rSetL o i v H Q ∨ ∃ a H', o = .ref a ∧ DPut H a i v H' ∧ Q H'
theorem set_any (hu : X.A.units + 1 < cLine) : PSet X rSetA := by
  intro pn s σ H o i v ov iv u Q I ro ri rv q
  rcases q with q | ⟨pp, H', rfl, hd, q⟩
  · exact set_list pn s σ H o i v ov iv u Q I ro ri rv q
  · cases ro
    exact d_setItem hu I hd ri rv fun s' I' => ⟨H', I', q⟩
theorem setItm_at {o i w : W} {ov iv v : V} {r : List Addr} {h h' : Hq} {H : Hp} {Q : Hp → Prop} (R : Rep g r h H) (qo : RV g.K r H o ov) (qi : RV g.K r H i iv) (qw : RV g.K r H w v) (e : setItm o i w h = some h')
    (q : ∀ H', Gro r H r H' → Rep g r h' H' → Q H') : rSetA ov iv v H Q := by
  unfold setItm at e
  split at e
  · rename_i n
    split at e
    · rename_i l ec
      obtain ⟨pp, ob, rfl, er, hp, vs, rfl, rc⟩ := cell_at R qo ec
      split at e
      · rename_i z
        simp only [RV] at qi; subst qi
        split at e
        · rename_i j ej
          cases e
          have gr : Gro r H r (upd H pp (.lst (vs.set j v))) := Gro.write R er hp (fun b x z => by cases z)
          refine .inl ⟨pp, vs, z, j, rfl, rfl, hp, by rw [← rc.len]; exact ej, q _ gr (R.write er hp (fun b x z => by cases z) ⟨_, rfl, RVs.gro gr _ _ (rc.set j qw)⟩)⟩
        · cases e
      · cases e
    · rename_i l ec
      obtain ⟨pp, ob, rfl, er, hp, kvs, lo, rc⟩ := cell_at R qo ec
      have lo : ob = .dK kvs := lo
      subst lo
      split at e
      · rename_i k ek
        split at e
        · rename_i hl
          cases e
          have gr : Gro r H r (upd H pp (.dK (putK kvs k v))) := Gro.write R er hp (fun b x z => by cases z)
          refine .inr ⟨pp, _, rfl, .inl ⟨kvs, k, hp, keyOf_at qi ek, by rw [← rc.len, lineN_eq]; exact hl, rfl⟩, q _ gr (R.write er hp (fun b x z => by cases z) ⟨_, rfl, RKs.gro gr (rc.put ek qw)⟩)⟩
        · cases e
      · cases e
    · rename_i l ec
      obtain ⟨pp, ob, rfl, er, hp, kvs, lo, rc⟩ := cell_at R qo ec
      have lo : ob = .dT kvs := lo
      subst lo
      split at e
      · rename_i k ek
        split at e
        · rename_i hl
          cases e
          have gr : Gro r H r (upd H pp (.dT (putK kvs k v))) := Gro.write R er hp (fun b x z => by cases z)
          obtain ⟨pk, rfl, hpk⟩ := keyT_at qi ek
          refine .inr ⟨pp, _, rfl, .inr ⟨kvs, k, pk, hp, rfl, hpk, by rw [← rc.len, lineN_eq]; exact hl, rfl⟩, q _ gr (R.write er hp (fun b x z => by cases z) ⟨_, rfl, RKs.gro gr (rc.put ek qw)⟩)⟩
        · cases e
      · cases e
    · cases e
  · cases e
def tgI (mo mi : M) : TgM := fun w L h => (mo L h).val fun o h1 => (mi L h1).val fun i h2 => match setItm o i w h2 with
  | some h3 => .nx L h3
  | none => .bad
theorem tgI_ok (hk : Kx X g Wx) (ha : PEM X g Wx a ma) (hb : PEM X g Wx b mb)
    (hs : ∀ v, assign (.Subscript a b pos) X.env v = (do let ov ← holding [v] (eval a X.env); let iv ← holding [v, ov] (eval b X.env); standAt pos; holding [v, ov, iv] (setItem ov iv v); release [v, ov, iv] []) := by intro _; rfl) : PGM X g (.Subscript a b pos) (tgI ma mb) := by
  have hu : X.A.units + 1 < cLine := by have := hk.un; omega
  refine pg_imp (pg_sub ha hb (set_any hu) hs) fun v σ H Q ⟨r, h, L, w, A, qw, q⟩ => ?_
  obtain ⟨r0, h0, L0, A0, q0⟩ := tG_step (Wx := Wx) (ma := ma) A q
  refine ⟨r0, h0, L0, A0, q0.imp fun u H1 ⟨r1, h1, o, A1, G1, x1, q1⟩ => ?_⟩
  obtain ⟨r2, h2, L2, A2, q2⟩ := tG_step (Wx := Wx) (ma := mb) A1 q1
  refine ⟨r2, h2, L2, A2, q2.imp fun u2 H2 ⟨r3, h3, i, A3, G3, x3, q3⟩ => ?_⟩
  split at q3
  · rename_i h4 es
    exact setItm_at A3.rep (RV.gro G3 _ _ x1) x3 (RV.gro G3 _ _ (RV.gro G1 _ _ qw)) es fun H' G' R' => q3 r3 H' σ G' (A3.gro G' R')
  · exact q3.elim
/-- x op= e -/
def sAug (i : Nat) (fo : W → W → Hq → Rs) (m : M) : MS := fun L h => match L[i]? with
  | some (some x) => (m L h).thn L fun y h1 => (fo x y h1).thn L fun z h2 => .nx (L.set i (some z)) h2
  | _ => .bad
theorem aug_ok {i : Nat} {x : Str} {pos' : Pos} {op : Operator} {rr : R2} {fo : W → W → Hq → Rs} (hk : Kx X g Wx) (hi : X.N[i]? = some x) (hx : L2.Loc X.env.scope x) (ho : OpR X (inplaceOp op) rr) (hf : OpS g Wx rr fo) (ha : PEM X g Wx a ma)
    (hfn : X.fn x = true ∨ X.env.scope.names.lookup x = some .local := by first | exact .inl rfl | exact .inr rfl | assumption) : PSM X g Wx (.AugAssign (.Name x pos') op a pos) (sAug i fo ma) :=
  ps_imp (ps_aug hk.nd hi hx ha (ti := rr) ho hfn) fun D σ H ⟨r, h, L, A, q⟩ => by
    unfold sAug at q
    split at q
    · rename_i w ew
      obtain ⟨v, e1, e2⟩ := A.loc.at_ i w ew
      refine ⟨v, e1, ?_⟩
      obtain ⟨r0, h0, L0, A0, q0⟩ := tS_step (ma := ma) A q
      refine ⟨r0, h0, L0, A0, q0.imp fun u H1 ⟨r1, h1, y, A1, G1, x1, q1⟩ => ?_⟩
      exact aft_thn hf A1 (RV.gro G1 _ _ e2) x1 q1 fun z H2 r2 h2 zw A2 G2 x2 q2 => q2.fin (A2.set i x2)
    · exact q.elim
@[simp] def fIAdd (x y : W) (h : Hq) : Rs := match x, y with
  | .int i, .int j => .ok (.int (i + j)) h
  | .str s, .str t => if s.length + t.length ≤ lineN then .ok (.str (s ++ t)) h else .bad
  | _, _ => .bad
def rIAdd : R2 := fun x y H Q => (∃ i j, x = .int i ∧ y = .int j ∧ Q (.int (i + j)) H) ∨ ∃ i j, x = .str i ∧ y = .str j ∧ i.length + j.length ≤ sizeLine ∧ Q (.str (i ++ j)) H
theorem iop_addA : OpR X (inplaceOp .Add) rIAdd := iop_add.or iop_add_str
theorem iadd_S : OpS g Wx rIAdd fIAdd := by
  intro r h H σ x y v u Q R qx qy q
  unfold fIAdd at q
  split at q
  · simp only [RV] at qx qy; subst qx qy
    exact .inl ⟨_, _, rfl, rfl, q.done R (by simp only [RV])⟩
  · simp only [RV] at qx qy; subst qx qy
    split at q
    · rename_i hl
      exact .inr ⟨_, _, rfl, rfl, by rw [sV_len, sV_len, lineN_eq]; exact hl, by rw [sV_app]; exact q.done R (by simp only [RV])⟩
    · exact q.elim
  · exact q.elim

/-! ### loops -/
/-- one turn, then the rest -/
def turnF (mt : TgM) (s : MS) (w : W) (L : Loc) (h : Hq) (k : MS) : Rf := match mt w L h with
  | .nx L1 h1 => match s L1 h1 with
    | .nx L2 h2 => k L2 h2
    | .ct L2 h2 => k L2 h2
    | .bk L2 h2 => .nx L2 h2
    | x => x
  | _ => .bad
def loopW (mt : TgM) (s : MS) : List W → MS
  | [] => fun L h => .nx L h
  | w :: ws => fun L h => turnF mt s w L h (loopW mt s ws)
/-- a turn of the hand layer's loops -/
theorem turn_at {mt : TgM} {s : MS} {k : MS} {D : Ends} {w : W} {v : V} {r : List Addr} {h : Hq} {H : Hp} {L : Loc} {σ : Sl} {N : Sl → Hp → Prop} (A : At g r h H L σ) (q : RV g.K r H w v) (x : AftS g Wx (turnF mt s w L h k) r H D)
    (hN : ∀ (r' : List Addr) (h' : Hq) (H' : Hp) (L' : Loc) (σ' : Sl), At g r' h' H' L' σ' → Gro r H r' H' → AftS g Wx (k L' h') r' H' D → N σ' H') :
    tG g mt v σ H fun σ2 H2 => tS g Wx s { D with nx := N, ct := N, bk := D.nx } σ2 H2 := by
  refine ⟨r, h, L, w, A, q, ?_⟩
  unfold turnF at x
  cases et : mt w L h with
  | nx L1 h1 =>
    rw [et] at x
    intro r1 H1 σ1 G A1
    refine ⟨r1, h1, L1, A1, ?_⟩
    simp only at x
    cases es : s L1 h1 with
    | nx L2 h2 => rw [es] at x; exact fun r2 H2 σ2 G2 A2 => hN r2 h2 H2 L2 σ2 A2 (G.trans G2) (AftS.gro (G.trans G2) x)
    | ct L2 h2 => rw [es] at x; exact fun r2 H2 σ2 G2 A2 => hN r2 h2 H2 L2 σ2 A2 (G.trans G2) (AftS.gro (G.trans G2) x)
    | bk L2 h2 => rw [es] at x; exact fun r2 H2 σ2 G2 A2 => x r2 H2 σ2 (G.trans G2) A2
    | rt w2 h2 => rw [es] at x; exact fun r2 H2 v2 G2 => x r2 H2 v2 (G.trans G2)
    | ex c fs L2 h2 => rw [es] at x; exact fun r2 H2 σ2 cls d G2 => x r2 H2 σ2 cls d (G.trans G2)
    | bad => rw [es] at x; exact x
  | _ => rw [et] at x; exact x.elim
/-- range(..) -/
def rangeW (lo : Int) (n : Nat) : List W := (List.range n).map fun (i : Nat) => W.int (lo + i)
theorem rangeW_drop {lo : Int} {n i : Nat} (hi : i < n) : (rangeW lo n).drop i = W.int (lo + i) :: (rangeW lo n).drop (i + 1) := by
  have hl : i < (rangeW lo n).length := by simp [rangeW, hi]
  rw [List.drop_eq_getElem_cons hl]
  congr 1
  simp [rangeW]
def sForR1 (ms : M) (mt : TgM) (s : MS) : MS := fun L h => (ms L h).thnL L fun ws h1 => match ws with
  | [.int j] => if -4611686018427387904 ≤ j ∧ j < 4611686018427387904 then loopW mt s (rangeW 0 j.toNat) L h1 else .bad
  | _ => .bad
def sForR2 (ms : M) (mt : TgM) (s : MS) : MS := fun L h => (ms L h).thnL L fun ws h1 => match ws with
  | [.int i, .int j] => if (-4611686018427387904 ≤ i ∧ i < 4611686018427387904) ∧ -4611686018427387904 ≤ j ∧ j < 4611686018427387904 then loopW mt s (rangeW i (j - i).toNat) L h1 else .bad
  | _ => .bad
theorem range_loop {mt : TgM} {s : MS} {lo : Int} {n : Nat} {r : List Addr} {h : Hq} {H : Hp} {L : Loc} {σ : Sl} {D : Ends} (A : At g r h H L σ) (x : AftS g Wx (loopW mt s (rangeW lo n) L h) r H D) :
    ∃ Wv : Nat → Nat → Sl → Hp → Prop, (∃ m, Wv 0 m σ H) ∧ ∀ i m σ H, Wv i m σ H → ((Itr lo n).stop i H ∧ D.nx σ H) ∨ ((Itr lo n).go i H ∧ ∃ N : Sl → Hp → Prop, (∀ σ' H', N σ' H' → ∃ m', m' < m ∧ Wv (i + 1) m' σ' H') ∧
      ∀ x H', (Itr lo n).yld i H x H' → tG g mt x σ H' fun σ2 H2 => tS g Wx s { D with nx := N, ct := N, bk := D.nx } σ2 H2) := by
  refine for_range (lo := lo) (n := n) (g := tG g mt) (tb := tS g Wx s) (fun i σ H => ∃ (r : List Addr) (h : Hq) (L : Loc), At g r h H L σ ∧ AftS g Wx (loopW mt s ((rangeW lo n).drop i) L h) r H D) ⟨r, h, L, A, x⟩ ?_ ?_
  · rintro i σ H hi ⟨r, h, L, A, x⟩
    rw [rangeW_drop hi] at x
    exact turn_at A (by simp only [RV]) x fun r' h' H' L' σ' A' G' x' => ⟨r', h', L', A', x'⟩
  · rintro σ H ⟨r, h, L, A, x⟩
    rw [List.drop_eq_nil_of_le (by simp [rangeW])] at x
    exact x.fin A
theorem forR1_ok {tg : Expr} {mt : TgM} {p2 : Pos} (hk : Kx X g Wx) (hp : PassesOwn (model X.prog X.w) X.A X.env X.xe) (hgl : Gl X "range") (hm : X.mg "range" = none) (ha : PAM X g Wx [a] ms) (hg : PGM X g tg mt) (hb : PSsM X g Wx sts s1)
    (hs : starEach [a] X.env = [(false, eval a X.env)] := by rfl) (hf : ∀ x, foldedSetIterable (.Call (.Name "range" p) [a] [] p2) X.env x = pure x := by intro _; rfl) (hc : X.calm = true := by rfl) :
    PSM X g Wx (.For tg (.Call (.Name "range" p) [a] [] p2) sts [] pos) (sForR1 ms mt s1) :=
  ps_imp (ps_for hp hc (pi_range1 hgl hm ha hs) hg hb hf) fun D σ H ⟨r, h, L, A, q⟩ => by
    obtain ⟨r0, h0, L0, A0, q0⟩ := tSL_step (ms := ms) A q
    refine ⟨r0, h0, L0, A0, q0.imp fun vs H1 ⟨r1, h1, ws, A1, G1, x1, q1⟩ => ?_⟩
    split at q1
    · rename_i j
      obtain ⟨v, rfl, e1⟩ := RVs.one_inv x1
      simp only [RV] at e1; subst e1
      split at q1
      · rename_i hj
        exact ⟨j, rfl, hj.1, hj.2, range_loop A1 q1⟩
      · exact q1.elim
    · exact q1.elim
theorem forR2_ok {tg : Expr} {mt : TgM} {p2 : Pos} (hk : Kx X g Wx) (hp : PassesOwn (model X.prog X.w) X.A X.env X.xe) (hgl : Gl X "range") (hm : X.mg "range" = none) (ha : PAM X g Wx [a, b] ms) (hg : PGM X g tg mt) (hb : PSsM X g Wx sts s1)
    (hs : starEach [a, b] X.env = [(false, eval a X.env), (false, eval b X.env)] := by rfl) (hs2 : starEach [b] X.env = [(false, eval b X.env)] := by rfl) (hf : ∀ x, foldedSetIterable (.Call (.Name "range" p) [a, b] [] p2) X.env x = pure x := by intro _; rfl) (hc : X.calm = true := by rfl) :
    PSM X g Wx (.For tg (.Call (.Name "range" p) [a, b] [] p2) sts [] pos) (sForR2 ms mt s1) :=
  ps_imp (ps_for hp hc (pi_range2 hgl hm ha hs hs2) hg hb hf) fun D σ H ⟨r, h, L, A, q⟩ => by
    obtain ⟨r0, h0, L0, A0, q0⟩ := tSL_step (ms := ms) A q
    refine ⟨r0, h0, L0, A0, q0.imp fun vs H1 ⟨r1, h1, ws, A1, G1, x1, q1⟩ => ?_⟩
    split at q1
    · rename_i i j
      obtain ⟨v, v', rfl, e1, e2⟩ := RVs.two_inv x1
      simp only [RV] at e1 e2; subst e1 e2
      split at q1
      · rename_i hj
        exact ⟨i, j, rfl, ⟨hj.1.1, hj.1.2, hj.2.1, hj.2.2⟩, range_loop A1 q1⟩
      · exact q1.elim
    · exact q1.elim
/-! ### while -/
def loopF (mc : M) (s : MS) : Nat → MS
  | 0 => fun _ _ => .bad
  | n + 1 => fun L h => (mc L h).thn L fun w h1 => match w with
    | .bl c => if c = true then (match s L h1 with
      | .nx L2 h2 => loopF mc s n L2 h2
      | .ct L2 h2 => loopF mc s n L2 h2
      | .bk L2 h2 => .nx L2 h2
      | x => x) else .nx L h1
    | _ => .bad
def sWhile (n : Nat) (mc : M) (s : MS) : MS := loopF mc s n
theorem while_ok {n : Nat} (hp : PassesOwn (model X.prog X.w) X.A X.env X.xe) (hc : PTM X g Wx c mc) (hb : PSsM X g Wx sts s1) : PSM X g Wx (.While c sts [] pos) (sWhile n mc s1) :=
  ps_imp (ps_while hp hc hb) fun D σ H ⟨r, h, L, A, q⟩ => by
    refine ⟨fun m σ H => ∃ (r : List Addr) (h : Hq) (L : Loc), At g r h H L σ ∧ AftS g Wx (loopF mc s1 m L h) r H D, ⟨n, r, h, L, A, q⟩, ?_⟩
    rintro m σ H ⟨r, h, L, A, q⟩
    cases m with
    | zero => exact q.elim
    | succ m =>
      obtain ⟨r0, h0, L0, A0, q0⟩ := tST_step (ma := mc) (kk := fun c h1 => if c = true then (match s1 L h1 with
        | .nx L2 h2 => loopF mc s1 m L2 h2
        | .ct L2 h2 => loopF mc s1 m L2 h2
        | .bk L2 h2 => .nx L2 h2
        | x => x) else .nx L h1) A q
      refine ⟨r0, h0, L0, A0, q0.imp fun v H1 ⟨k, ev, r1, h1, A1, G1, q1⟩ => ⟨k, ev, ?_⟩⟩
      cases k with
      | false =>
        refine iteF ?_
        exact q1.fin A1
      | true =>
        refine iteT ⟨fun σ' H' => ∃ (r : List Addr) (h : Hq) (L : Loc), At g r h H' L σ' ∧ AftS g Wx (loopF mc s1 m L h) r H' D, fun σ' H' ⟨r, h, L, A, q⟩ => ⟨m, Nat.lt_succ_self _, r, h, L, A, q⟩, r1, h1, L, A1, ?_⟩
        simp only [if_true] at q1
        cases es : s1 L h1 with
        | nx L2 h2 => rw [es] at q1; exact fun r2 H2 σ2 G2 A2 => ⟨r2, h2, L2, A2, AftS.gro G2 q1⟩
        | ct L2 h2 => rw [es] at q1; exact fun r2 H2 σ2 G2 A2 => ⟨r2, h2, L2, A2, AftS.gro G2 q1⟩
        | bk L2 h2 => rw [es] at q1; exact q1
        | rt w2 h2 => rw [es] at q1; exact q1
        | ex c fs L2 h2 => rw [es] at q1; exact q1
        | bad => rw [es] at q1; exact q1
end

/-! ### the body of a def -/
def startL (n : Nat) (ws : List W) : Loc := ws.map some ++ List.replicate (n - ws.length) none
/-- a def: n slots -/
def mDef (n : Nat) (s : MS) : Fn := fun ws h => match s (startL n ws) h with
  | .nx _ h1 => .ok .non h1
  | .rt w h1 => .ok w h1
  | .ex c fs _ h1 => .ex c fs h1
  | _ => .bad
theorem start_at {g : Gm} {r : List Addr} {h : Hq} {H : Hp} {N : List Str} {ws : List W} {vs : List V} (hx : (∀ r, g.px r) ∧ g.sp = none) (R : Rep g r h H) (q : RVs g.K r H ws vs) : At g r h H (startL N.length ws) (L2.start N vs) := by
  refine ⟨R, ⟨?_, fun i w e => ?_⟩, hx.1 r, fun i a e => by rw [hx.2] at e; cases e⟩
  · simp [startL, L2.start, q.len]
  · unfold startL at e
    unfold L2.start
    by_cases hi : i < ws.length
    · rw [List.getElem?_append_left (by simpa using hi), List.getElem?_map] at e
      cases ew : ws[i]? with
      | none => rw [ew] at e; cases e
      | some w' =>
        rw [ew] at e
        cases e
        obtain ⟨v, e1, e2⟩ := q.get ew
        refine ⟨v, ?_, e2⟩
        rw [List.getElem?_append_left (by rw [List.length_map, ← q.len]; exact hi), List.getElem?_map, e1] <;> rfl
    · rw [List.getElem?_append_right (by simpa using hi)] at e
      have := List.mem_of_getElem? e
      simp at this
theorem def_pure {g : Gm} {N : List Str} {n : Nat} {s : MS} {vs : List V} {H : Hp} {Q : VK} {E : XK} (hx : (∀ r, g.px r) ∧ g.sp = none) (h : spM g n (mDef N.length s) vs H Q E) :
    tS g (fun cls d _ H' => E cls d H') s { nx := fun _ H' => Q .non H', rt := Q } (L2.start N vs) H := by
  obtain ⟨r, hq, ws, R, q, _, x⟩ := h
  refine ⟨r, hq, startL N.length ws, start_at hx R q, ?_⟩
  unfold mDef at x
  cases es : s (startL N.length ws) hq with
  | nx L h1 => rw [es] at x; exact fun r' H' σ' G A => x r' H' .non G A.rep (by simp only [RV])
  | rt w h1 => rw [es] at x; exact x
  | ex c fs L h1 => rw [es] at x; exact fun r' H' σ' cls d G A q => x r' H' cls d G A.rep q
  | bk L h1 => rw [es] at x; exact x.elim
  | ct L h1 => rw [es] at x; exact x.elim
  | bad => rw [es] at x; exact x
abbrev cxM (P : Program) (w : World) (g : Gm) (mg : Str → Option Value) (base : Heap) (N : List Str) (qual : Str) (scope : Scope) (fa : Addr) (cdv : Value) (A : Around) (outer : List Env) (s : Shared) (H : Hp) (E : XK) : Cx :=
  cxOf (L2.CX P w) P w g.K mg base N qual scope fa cdv A outer s H E
theorem fn_okM {P : Program} {w : World} {g : Gm} {mg : Str → Option Value} {base : Heap} {k : Nat} {fa : Addr} {fd : FuncData} {x qual : Str} {params : Arguments} {body : List Stmt} {scope : Scope} {dvs : List V} {kws : List (Str × V)} {N ps : List Str} {n : Nat} {s : MS}
    (hx : (∀ r, g.px r) ∧ g.sp = none) (F : FunD g.K x qual params body scope dvs kws fa fd) (S : FnScope N ps scope) (hn : ps.length = n)
    (hbody : ∀ (cdv : Value) (A : Around) (outer : List Env) (sh : Shared) (H : Hp) (E : XK), Room k (cxM P w g mg base N qual scope fa cdv A outer sh H E).A → Kx (cxM P w g mg base N qual scope fa cdv A outer sh H E) g (fun cls d _ H' => E cls d H') →
      PassesOwn (model P w) (cxM P w g mg base N qual scope fa cdv A outer sh H E).A (cxM P w g mg base N qual scope fa cdv A outer sh H E).env (cxM P w g mg base N qual scope fa cdv A outer sh H E).xe →
      PSsM (cxM P w g mg base N qual scope fa cdv A outer sh H E) g (fun cls d _ H' => E cls d H') body s) :
    FnOk P w g.K mg base (L2.CX P w) (k + 1) fa fd ps (spM g n (mDef N.length s)) :=
  F.ok S (spM_len hn) fun cdv A outer sh H vs Q E hr hsp => ⟨_, hbody cdv A outer sh H E hr
    ⟨rfl, S.nd, by have := hr.un; show (A.deeper (envOfC qual scope sh.heap.objs.size fa cdv)).units + 200 < cLine; omega, takes_of rfl rfl rfl rfl⟩ (passes_of rfl), def_pure hx hsp⟩
end MR
/-! MEq: == and != where instances and dicts stand. -/
namespace MR
open PySem PySem.Spec PyProof.Rows L2

/-- a plain type's name is no own class -/
theorem sub_ty (K : PySem.W.Frag) (C : Addr) : PySem.W.subIn K (.type "str") (.ref C) = some false ∧ PySem.W.subIn K (.type "int") (.ref C) = some false ∧ PySem.W.subIn K (.type "bool") (.ref C) = some false ∧ PySem.W.subIn K (.type "NoneType") (.ref C) = some false ∧
    PySem.W.subIn K (.type "list") (.ref C) = some false ∧ PySem.W.subIn K (.type "tuple") (.ref C) = some false ∧ PySem.W.subIn K (.type "dict") (.ref C) = some false := by
  refine ⟨?_, ?_, ?_, ?_, ?_, ?_, ?_⟩ <;> kernel_rfl

section
variable {X : Cx} {g : Gm} {Wx : WX} {k : Nat} {pn : List (Addr × Obj)} {σ : Sl} {H : Hp} {s : Shared}
/-- a type of the built-in ones -/
def PlainT (t : Value) : Prop := t = .type "str" ∨ t = .type "int" ∨ t = .type "bool" ∨ t = .type "NoneType" ∨ t = .type "list" ∨ t = .type "tuple" ∨ t = .type "dict"
theorem PlainT.sub {K : PySem.W.Frag} {C : Addr} {t : Value} (h : PlainT t) : PySem.W.subIn K t (.ref C) = some false := by
  obtain ⟨h1, h2, h3, h4, h5, h6, h7⟩ := sub_ty K C
  rcases h with e | e | e | e | e | e | e <;> subst e <;> assumption
/-- the type of a value -/
theorem tyW {r : List Addr} {h : Hq} {w : W} {v : V} (R : Rep g r h H) (q : RV g.K r H w v) (hi : insOf w h = none) : (∃ n, w = .cell n ∧ h[n]? = none) ∨ (∃ n, w = .cell n ∧ ((∃ lk l, h[n]? = some (.dt lk l)) ∨ ∃ l, h[n]? = some (.xd l))) ∨ ∃ t, TyX g.K H v t ∧ PlainT t := by
  cases w with
  | non => simp only [RV] at q; subst q; exact .inr (.inr ⟨_, .base .non, .inr (.inr (.inr (.inl rfl)))⟩)
  | bl y => simp only [RV] at q; subst q; exact .inr (.inr ⟨_, .base (.bl _), .inr (.inr (.inl rfl))⟩)
  | int i => simp only [RV] at q; subst q; exact .inr (.inr ⟨_, .base (.int _), .inr (.inl rfl)⟩)
  | str y => simp only [RV] at q; subst q; exact .inr (.inr ⟨_, .base (.str _), .inl rfl⟩)
  | tup l => simp only [RV] at q; obtain ⟨a, vs, rfl, ⟨_, hp⟩, _⟩ := q; exact .inr (.inr ⟨_, .base (.tup hp), .inr (.inr (.inr (.inr (.inr (.inl rfl)))))⟩)
  | lst l => simp only [RV] at q; obtain ⟨a, vs, rfl, ⟨_, hp⟩, _⟩ := q; exact .inr (.inr ⟨_, .base (.lst hp), .inr (.inr (.inr (.inr (.inl rfl))))⟩)
  | ktup l => simp only [RV] at q; obtain ⟨a, vs, rfl, ⟨o, its, n, e1, e2, _⟩, _⟩ := q; exact .inr (.inr ⟨_, .kTuple e1 e2, .inr (.inr (.inr (.inr (.inr (.inl rfl)))))⟩)
  | rol l =>
    simp only [RV] at q
    obtain ⟨a, vs, rfl, hp, _⟩ := q
    rcases hp with ⟨_, hp | ⟨o, hp⟩⟩ | ⟨o, its, n, e1, e2, _⟩
    · exact .inr (.inr ⟨_, .base (.lst hp), .inr (.inr (.inr (.inr (.inl rfl))))⟩)
    · exact .inr (.inr ⟨_, .base (.frz hp), .inr (.inr (.inr (.inr (.inl rfl))))⟩)
    · exact .inr (.inr ⟨_, .kList e1 e2, .inr (.inr (.inr (.inr (.inl rfl))))⟩)
  | cell n =>
    cases ec : h[n]? with
    | none => exact .inl ⟨n, rfl, ec⟩
    | some d =>
      obtain ⟨p, o, rfl, _, hp, rc⟩ := cell_at R q ec
      cases d with
      | lst l => obtain ⟨vs, rfl, _⟩ := rc; exact .inr (.inr ⟨_, .base (.lst hp), .inr (.inr (.inr (.inr (.inl rfl))))⟩)
      | dk lk l =>
        obtain ⟨kvs, lo, _⟩ := rc
        cases lk with
        | true => obtain ⟨ob, rfl⟩ : ∃ ob, o = .frz ob (.dK kvs) := lo; exact .inr (.inr ⟨_, .fDict hp, .inr (.inr (.inr (.inr (.inr (.inr rfl)))))⟩)
        | false => have lo : o = .dK kvs := lo; subst lo; exact .inr (.inr ⟨_, .base (.dK hp), .inr (.inr (.inr (.inr (.inr (.inr rfl)))))⟩)
      | dt lk l => exact .inr (.inl ⟨n, rfl, .inl ⟨lk, l, ec⟩⟩)
      | xd l => exact .inr (.inl ⟨n, rfl, .inr ⟨l, ec⟩⟩)
      | ins c fs => simp [insOf, ec] at hi

abbrev EqTb := Nat → Option Fn
/-- the text's own == -/
structure EqX (P : Program) (w : World) (g : Gm) (mg : Str → Option Value) (base : Heap) (k : Nat) (c : Nat) (f : Fn) : Prop where
  mt : ∃ fa, Mtd P w g mg base k "__eq__" c fa 2 f []
  ne : PySem.W.findIn g.K (.ref (g.ca c)) "__ne__" = some (some (.builtin "object.__ne__"))
  ob : PySem.W.mroIn g.K (g.ca c) (.type "object") = some true
  st : PySem.W.mroIn g.K (g.ca c) (.type "str") = some false
/-- no two own classes with == stand one above the other -/
def EqApart (g : Gm) (tb : EqTb) : Prop := ∀ c d, (tb c).isSome = true → (tb d).isSome = true → g.ca d ≠ g.ca c → PySem.W.mroIn g.K (g.ca d) (.ref (g.ca c)) = some false

def blOnly (x : Rs) : Rs := match x with
  | .ok (.bl k) h => .ok (.bl k) h
  | _ => .bad
def callEq (tb : EqTb) (o y : W) (h : Hq) : Rs := match insOf o h with
  | some (_, c, _) => match tb c with
    | some f => blOnly (f [o, y] h)
    | none => .bad
  | none => .bad
/-- what a call of the own == gives -/
def Own2 (X : Cx) (A : Around) (pn : List (Addr × Obj)) (σ : Sl) (Q : VK) (C : Addr) (v u : Value) (s : Shared) : Prop :=
  ∃ f, PySem.W.findIn X.K (.ref C) "__eq__" = some (some (.ref f)) ∧ PySem.W.isFn X.K (.ref f) = true ∧ wpAny (model X.prog X.w) A (call (.ref f) [v, u]) (fun z s' => ∃ b, z = .bool b ∧ ∃ H', Inv X pn σ H' s' ∧ Q (.bl b) H') X.xe s
theorem own_run {tb : EqTb} {A : Around} (hK : X.K = g.K) (fr : A.frames = X.A.frames) (hr : Room k A) (ct : ∀ c f, tb c = some f → EqX X.prog X.w g X.mg X.base k c f) {r : List Addr} {h : Hq} {x y : W} {v u : V} {vv uu : Value} {Q : VK} {c n : Nat} {fs : List (Nat × W)} (I : Inv X pn σ H s) (R : Rep g r h H) (qx : RV g.K r H x v) (qy : RV g.K r H y u) (rx : RelV v vv) (ry : RelV u uu)
    (ei : insOf x h = some (n, c, fs)) (q : Aft g Wx σ (callEq tb x y h) r H Q) : Own2 X A pn σ Q (g.ca c) vv uu s := by
  unfold callEq at q
  rw [ei] at q
  simp only at q
  cases et : tb c with
  | none => rw [et] at q; exact q.elim
  | some f =>
    rw [et] at q
    simp only at q
    obtain ⟨fa, md⟩ := (ct c f et).mt
    obtain ⟨fd, ps, ds, dvs, F, hb, hd, hw⟩ := md.cal.ex
    have e1 := (hw r H).inv0
    subst e1
    cases hd
    have mt := md.mt
    rw [← hK] at F hb mt
    refine ⟨fa, mt.at_, mt.fn, ?_⟩
    have e0 : Env0 X.prog X.w X.K X.mg X.base A X.stack s H := by
      have e := I.env0
      exact ⟨by rw [fr]; exact e.frames, e.mod, e.bs, e.bsz, e.funs, e.frf, e.hok, e.bare⟩
    have hsp : spM g 2 f [v, u] H (fun z H' => ∃ b, z = .bl b ∧ Q (.bl b) H') (fun _ _ _ => False) := by
      refine ⟨r, h, [x, y], R, .cons qx (.cons qy .nil), rfl, ?_⟩
      cases ef : f [x, y] h with
      | ok w h' =>
        rw [ef] at q
        intro r' H' v' G R' q'
        cases w with
        | bl b =>
          have q' := q'
          simp only [RV] at q'; subst q'
          exact ⟨b, rfl, q r' H' _ G R' (by simp only [RV])⟩
        | _ => exact q.elim
      | ex ce fs h' => rw [ef] at q; exact q.elim
      | bad => rw [ef] at q; exact q
    have hl := F.len _ _ _ _ hsp
    have rr : Vals [v, u] [vv, uu] := .cons rx (.cons ry .nil)
    refine wpAny_call (codeAny_mono (F.run A X.stack s H ⟨[vv, uu], []⟩ [vv, uu] [v, u] _ (fun _ _ _ => False) hr e0 (by
      have := hb s [vv, uu] I.kIn (by simpa using hl)
      simpa using this) rr hsp) fun z s' hq => ?_)
    cases z with
    | error e =>
      obtain ⟨_, _, _, _, _, _, _, _, _, _, _, _, ff⟩ := hq
      exact ff.elim
    | ok fl =>
      cases fl with
      | ret w =>
        obtain ⟨z, H', I', rz, b, ez, q'⟩ := I.after hq
        subst ez
        have rz : w = .bool b := rz
        exact ⟨b, rz, H', I', q'⟩
      | next => exact False.elim hq
      | brk => exact False.elim hq
      | cont => exact False.elim hq

/-- an object's == against anything -/
theorem rc_own {x dx C : Addr} {gs : List (Str × V)} {uu tb : Value} {Q : VK} {A : Around} (hu : A.units < cLine) (I : Inv X pn σ H s) (e : H x = some (.ins C dx gs)) (hb : PySem.W.Looks (model X.prog X.w) s.heap (typeOf uu) tb) (hn : PySem.W.notFirst X.K C tb = true)
    (o : Own2 X A pn σ Q C (.ref x) uu s) : wpAny (model X.prog X.w) A (richCompare .Eq (.ref x) uu) (EP X pn σ Q) X.xe s := by
  obtain ⟨mA, J, _⟩ := ins_get I.hok e
  obtain ⟨od, J, _⟩ := J.look
  obtain ⟨m, hF⟩ := I.fr
  obtain ⟨f, hs, hf, h⟩ := o
  refine PySem.W.cmp_K (op := .Eq) (tb := tb) hu hF I.ok.mod.kin J hb hn hs hf (wpAny_mono h (fun z s' q => ?_) fun _ _ x => x)
  obtain ⟨b, rfl, H', I', q⟩ := q
  exact ⟨.bl b, H', I', rfl, q⟩

/-- .. and != by object's -/
theorem rc_own_ne {x dx C : Addr} {gs : List (Str × V)} {uu tb : Value} {Q : VK} {A : Around} (hu : A.units + 1 < cLine) (I : Inv X pn σ H s) (e : H x = some (.ins C dx gs)) (hb : PySem.W.Looks (model X.prog X.w) s.heap (typeOf uu) tb) (hn : PySem.W.notFirst X.K C tb = true)
    (hne : PySem.W.findIn X.K (.ref C) "__ne__" = some (some (.builtin "object.__ne__"))) (hob : PySem.W.mroIn X.K C (.type "object") = some true)
    (o : Own2 X A.in1 pn σ (fun z H' => ∃ b, z = .bl b ∧ Q (.bl !b) H') C (.ref x) uu s) : wpAny (model X.prog X.w) A (richCompare .NotEq (.ref x) uu) (EP X pn σ Q) X.xe s := by
  obtain ⟨mA, J, _⟩ := ins_get I.hok e
  obtain ⟨od, J, _⟩ := J.look
  obtain ⟨f, hs, hf, h⟩ := o
  have kin := I.kIn
  have sl : Slot "object" "__ne__" "object.__ne__" := PySem.F.cmp_object.ne
  have call : wpAny (model X.prog X.w) A (PySem.call (.builtin "object.__ne__") [.ref x, uu]) (fun z s' => ∃ b : Bool, z = .bool b ∧ EP X pn σ Q (.bool b) s') X.xe s := by
    refine wpAny_call (codeAny_call_builtin sl.plain PySem.F.cmpEntry_ne ?_)
    show wpAny _ _ (checkBuiltinCall "object.__ne__" ⟨[.ref x, uu], []⟩) _ _ _
    simp only [checkBuiltinCall, PySem.F.cmpKind_ne, PySem.F.cmpSplit_ne]
    refine wpAny_bind ?_
    unfold isInstance
    refine wpAny_bind (J.type.here ((PySem.W.looks_mroIn kin hob).here ?_))
    simp only [Bool.not_true, Bool.false_eq_true, if_false]
    have fin : wpAny (model X.prog X.w) A.in1 (Builtin.«object.__ne__» ⟨[.ref x, uu], []⟩)
        (fun fin s' => match fin with | .done f => wants (fun z s' => ∃ b : Bool, z = .bool b ∧ EP X pn σ Q (.bool b) s') X.xe (.ok f) s' | .again c' => c'.quiet = true ∧ codeAny (model X.prog X.w) A c' (wants (fun z s' => ∃ b : Bool, z = .bool b ∧ EP X pn σ Q (.bool b) s') X.xe) s') (fun e s' => wants (fun z s' => ∃ b : Bool, z = .bool b ∧ EP X pn σ Q (.bool b) s') X.xe (.error e) s') s := by
      unfold Builtin.«object.__ne__»
      repeat (first
        | with_reducible refine wpAny_cRoomFor hu ?_
        | (refine wpAny_bind (m := callSpecialIfBound? (.ref x) (Str.ofString "__eq__") [uu])
            (PySem.W.ifBound_K kin J hs hf (wpAny_mono h (fun z s' hr => by
              obtain ⟨b, rfl, H', I', b', eb, hq⟩ := hr
              cases eb
              have hq2 : ∃ b' : Bool, Value.bool (!b) = .bool b' ∧ EP X pn σ Q (.bool b') s' := ⟨!b, rfl, .bl (!b), H', I', rfl, hq⟩
              repeat (first | exact hq2 | exact wpAny_pure hq2 | exact wpAny_truthy_bool hq2 | (refine wpAny_bind (m := truthy (.bool _)) (wpAny_truthy_bool ?_)) | wp_step)) fun _ _ e => e)))
        | wp_step)
    cases hsig : Manifest.signature? "object.__ne__" with
    | none => exact wpAny_pure fin
    | some sig =>
      have ha := PySem.F.cmpArgs_ne (.ref x) uu
      simp only [argsOk, hsig] at ha
      have h2 : Bind.checkArgs "object.__ne__" sig ⟨[.ref x, uu], []⟩ = pure () := ha
      show wpAny _ _ (Bind.checkArgs "object.__ne__" sig ⟨[.ref x, uu], []⟩) _ _ _
      rw [h2]; exact wpAny_pure fin
  have one : wpAny (model X.prog X.w) A (tryCompare (.ref x) (cmpInfo .NotEq).2.1 uu) (fun r s' => ∃ v, r = some v ∧ EP X pn σ Q v s') X.xe s := by
    unfold tryCompare
    refine wpAny_bind ?_
    simp only [callSpecialIfBound?, bindSpecialIfBound?]
    refine wpAny_holding (wpAny_bind (wpAny_bind (wpAny_bind (J.type.here ((PySem.W.looks_findIn kin hne).here ?_)))))
    simp only [sl.bind]
    have fin : wpAny (model X.prog X.w) A (PySem.call (.builtin "object.__ne__") ([.ref x] ++ [uu]) >>= fun v => pure (some v)) (fun a s' => wpAny (model X.prog X.w) A (match a with | some .notImplemented | none => pure none | some v => pure (some v)) (fun r s' => ∃ v, r = some v ∧ EP X pn σ Q v s') X.xe s') X.xe s := by
      refine wpAny_bind (wpAny_mono call (fun v s' h' => wpAny_pure ?_) fun _ _ h' => h')
      obtain ⟨b, rfl, q⟩ := h'
      exact wpAny_pure ⟨_, rfl, q⟩
    refine wpAny_bind (wpAny_askSetting (wpAny_ite ?_))
    split
    · exact wpAny_bind (wpAny_pure (wpAny_pure fin))
    · exact wpAny_tryCatch (wpAny_bind (wpAny_pure (wpAny_pure fin)))
  unfold richCompare
  simp only [oneThing_ref]
  refine wpAny_holding (wpAny_bind (wpAny_cRoomFor (Nat.lt_of_succ_lt hu) ?_))
  refine wpAny_bind (J.type.here (wpAny_bind (hb.here ?_)))
  split
  · rename_i q
    have e : PySem.W.subIn X.K tb (.ref C) = some false := by
      rcases Bool.or_eq_true_iff.mp hn with e | e
      · rw [beq_iff_eq.mp e] at q; simp at q
      · exact beq_iff_eq.mp e
    refine wpAny_bind ((PySem.W.looks_subIn kin e).here ?_)
    simp only [Bool.false_eq_true, if_false]
    refine wpAny_bind (wpAny_mono one (fun r s' z => ?_) fun _ _ e => e)
    obtain ⟨v, rfl, hq⟩ := z
    exact wpAny_pure hq
  · refine wpAny_bind (wpAny_pure ?_)
    simp only [Bool.false_eq_true, if_false]
    refine wpAny_bind (wpAny_mono one (fun r s' z => ?_) fun _ _ e => e)
    obtain ⟨v, rfl, hq⟩ := z
    exact wpAny_pure hq
end
end MR
/-! MEq2: a text == an instance; dict == dict; the whole == and !=. -/
namespace MR
open PySem PySem.Spec PyProof.Rows L2

section
variable {X : Cx} {g : Gm} {Wx : WX} {k : Nat} {pn : List (Addr × Obj)} {σ : Sl} {H : Hp} {s : Shared}
theorem str_declines (b : Str) (u : Tok) (l C dx : Addr) :
    Meets (Builtin.«str.__eq__» ⟨[.str b u, .ref l], []⟩) (fun _ R s => s.heap.get? l = some (PySem.W.instObj C dx) ∧ R (.ok (.ret .notImplemented)) s) :=
  .of_wp fun prog w A R s h => by obtain ⟨hp, g, d, tk, os⟩ := s; obtain ⟨hl, h⟩ := h; unfold PySem.W.instObj at hl; wp_walk using AutoSeq1.wpAny_loadPart' hl, wpAny_load hl; exact ⟨_, rfl, h⟩

/-- a text against an object -/
theorem rc_str {x dx C : Addr} {gs : List (Str × V)} {z : Str} {t : Tok} {Q : VK} {A : Around} (hu : A.units < cLine) (I : Inv X pn σ H s) (e : H x = some (.ins C dx gs)) (hst : PySem.W.mroIn X.K C (.type "str") = some false)
    (o : Own2 X A pn σ Q C (.ref x) (.str z t) s) : wpAny (model X.prog X.w) A (richCompare .Eq (.str z t) (.ref x)) (EP X pn σ Q) X.xe s := by
  obtain ⟨mA, J, _⟩ := ins_get I.hok e
  have ob := J.obj
  obtain ⟨od, J, _⟩ := J.look
  obtain ⟨f, hs, hf, h⟩ := o
  have kin := I.kIn
  have two : wpAny (model X.prog X.w) A (tryCompare (.ref x) (cmpInfo .Eq).2.2 (.str z t)) (fun r s' => ∃ v, r = some v ∧ EP X pn σ Q v s') X.xe s := by
    unfold tryCompare
    refine wpAny_bind (PySem.W.ifBound_K kin J hs hf (wpAny_mono h (fun v s' hv => ?_) fun _ _ e => e))
    obtain ⟨b, rfl, H', I', q⟩ := hv
    exact wpAny_pure ⟨_, rfl, .bl b, H', I', rfl, q⟩
  unfold richCompare
  have hT : s.TypeIs (.str z t) "str" := typeIs_str s z t
  simp only [hT.oneThing_none]
  refine wpAny_holding (wpAny_bind (wpAny_cRoomFor hu ?_))
  refine wpAny_bind (wpAny_typeOf hT (wpAny_bind (J.type.here ?_)))
  rw [if_pos (by simp)]
  refine wpAny_bind ((PySem.W.looks_mroIn kin hst).here ?_)
  simp only [Bool.false_eq_true, if_false]
  refine wpAny_bind (m := tryCompare (.str z t) _ (.ref x)) (wpAny_tryCompare_declines hT PySem.F.slot_str_eq ?_)
  refine call_meets PySem.F.slot_str_eq hT PySem.F.entry_str_eq (PySem.F.args_str_eq_2 _ _) (str_declines z t x C dx) ⟨ob, rfl, ?_⟩
  simp only [Bool.not_false, if_true]
  refine wpAny_bind (wpAny_mono two (fun r s' z => ?_) fun _ _ e => e)
  obtain ⟨v, rfl, hq⟩ := z
  exact wpAny_pure hq

/-! ### dicts -/
def dEqL (h : Hq) (ys : List (W × W)) : List (W × W) → Option Bool
  | [] => some true
  | p :: r => match keyOf p.1 with
    | some k => match dGet keyOf ys k with
      | none => some false
      | some w => match eqW p.2 w h, dEqL h ys r with
        | some a, some b => some (a && b)
        | _, _ => none
    | none => none
def dEq (x y : W) (h : Hq) : Option Bool := match x, y with
  | .cell n, .cell m => match h[n]?, h[m]? with
    | some (.dk false l), some (.dk false l') => if l.length = l'.length then dEqL h l' l else some false
    | _, _ => none
  | _, _ => none
theorem hits_of {r : List Addr} {h : Hq} {A : Around} (I : Inv X pn σ H s) (hu : A.units + 64 < cLine) (hK : X.K = g.K) (R : Rep g r h H) {ys : List (W × W)} {kb : List (Key × V)} {vb : List (Key × Value)} (qb : RKs keyOf g.K r H ys kb) (rb : KV kb vb) :
    ∀ (xs : List (W × W)) (ka : List (Key × V)) (va : List (Key × Value)) (b : Bool), RKs keyOf g.K r H xs ka → KV ka va → dEqL h ys xs = some b → PySem.W.KeqHits A s vb va b
  | [], ka, va, b, qa, ra, e => by
    simp only [RKs] at qa; subst qa
    cases ra
    simp only [dEqL, Option.some.injEq] at e; subst e
    exact .nil
  | p :: xs, ka, va, b, qa, ra, e => by
    simp only [RKs] at qa
    obtain ⟨k, v, t, rfl, e1, e2, e3⟩ := qa
    cases ra with
    | @cons a a' as as' hd tl =>
      obtain ⟨k', u⟩ := a'
      obtain ⟨hk, hv⟩ := hd
      have hk : k = k' := hk
      subst hk
      have hv : RelV v u := hv
      simp only [dEqL, e1] at e
      obtain ⟨i1, i2⟩ := RKs.look k qb
      cases ed : dGet keyOf ys k with
      | none =>
        rw [ed] at e
        cases e
        have z := KV.val rb k
        rw [i2 ed] at z
        refine .miss ?_
        cases ez : valueAt vb k with
        | none => rfl
        | some u' => rw [ez] at z; exact z.elim
      | some w =>
        rw [ed] at e
        simp only at e
        split at e
        · rename_i a1 b1 ew er
          cases e
          obtain ⟨y, ey, qy⟩ := i1 w ed
          have z := KV.val rb k
          rw [ey] at z
          cases ez : valueAt vb k with
          | none => rw [ez] at z; exact z.elim
          | some u' =>
            rw [ez] at z
            obtain ⟨d, d', h1, h2, h3, h4, ek⟩ := eqW_at R e2 qy ew
            subst ek
            rw [← hK] at h1 h2
            obtain ⟨as, r1⟩ := Dp.reads I d v u h1 hv
            obtain ⟨bs, r2⟩ := Dp.reads I d' y u' h2 z
            exact .hit ez (SeqAt.eqAt_reads d d' A s u u' as bs r1 r2 (SeqAt.canLay_of_shaped h3) (SeqAt.canLay_of_shaped h4) (SeqAt.room_of_shaped h3 hu)) (hits_of I hu hK R qb rb xs t as' b1 e3 tl er)
        · cases e
theorem dEq_at {r : List Addr} {h : Hq} {x y : W} {v u : V} {b : Bool} (R : Rep g r h H) (qx : RV g.K r H x v) (qy : RV g.K r H y u) (e : dEq x y h = some b) :
    ∃ (p q : Addr) (xs ys : List (W × W)) (ka kb : List (Key × V)), v = .ref p ∧ u = .ref q ∧ H p = some (.dK ka) ∧ H q = some (.dK kb) ∧ RKs keyOf g.K r H xs ka ∧ RKs keyOf g.K r H ys kb ∧ ((xs.length = ys.length ∧ dEqL h ys xs = some b) ∨ (xs.length ≠ ys.length ∧ b = false)) := by
  unfold dEq at e
  split at e
  · rename_i n m
    split at e
    · rename_i l l' e1 e2
      obtain ⟨p, o, rfl, _, hp, ka, lo, ra⟩ := cell_at R qx e1
      obtain ⟨q, o', rfl, _, hq, kb, lo', rb⟩ := cell_at R qy e2
      have lo : o = .dK ka := lo
      have lo' : o' = .dK kb := lo'
      subst lo lo'
      refine ⟨p, q, l, l', ka, kb, rfl, rfl, hp, hq, ra, rb, ?_⟩
      split at e
      · rename_i hl
        exact .inl ⟨hl, e⟩
      · rename_i hl
        cases e
        exact .inr ⟨hl, rfl⟩
    · cases e
  · cases e
/-- the mirror itself as the rule; nothing is raised -/
def noWx : WX := fun _ _ _ _ => False
def rM (g : Gm) (f : W → W → Hq → Rs) : R2 := fun x y H Q => ∃ (r : List Addr) (h : Hq) (w1 w2 : W), Rep g r h H ∧ RV g.K r H w1 x ∧ RV g.K r H w2 y ∧ Aft g noWx [] (f w1 w2 h) r H Q
def NoEx (f : W → W → Hq → Rs) : Prop := ∀ x y h c fs h', f x y h ≠ .ex c fs h'
theorem rM_S {f : W → W → Hq → Rs} (hf : NoEx f) : OpS g Wx (rM g f) f := by
  intro r h H σ x y v u Q R qx qy q
  refine ⟨r, h, x, y, R, qx, qy, ?_⟩
  cases e : f x y h with
  | ok w h' => rw [e] at q; exact q
  | ex c fs h' => exact absurd e (hf x y h c fs h')
  | bad => rw [e] at q; exact q
def isDt (y : W) (h : Hq) : Bool := match y with
  | .cell n => match h[n]? with
    | some (.dt _ _) => true
    | some (.xd _) => true
    | _ => false
  | _ => false
/-- the other one is not covered -/
def offEq (tb : EqTb) (y : W) (h : Hq) : Bool := isDt y h || match insOf y h with
  | some (_, d, _) => (tb d).isNone
  | none => false
def fEqA (tb : EqTb) (x y : W) (h : Hq) : Rs := if (insOf x h).isSome then (if offEq tb y h then .bad else callEq tb x y h) else if (insOf y h).isSome then (match x with
  | .str _ => callEq tb y x h
  | _ => .bad) else match dEq x y h with
  | some k => .ok (.bl k) h
  | none => fEq x y h
def blNot (x : Rs) : Rs := match x with
  | .ok (.bl k) h => .ok (.bl !k) h
  | _ => .bad
def fNeA (tb : EqTb) (x y : W) (h : Hq) : Rs := if (insOf x h).isSome then (if offEq tb y h then .bad else blNot (callEq tb x y h)) else if (insOf y h).isSome then .bad else match dEq x y h with
  | some k => .ok (.bl !k) h
  | none => fNe x y h
theorem callEq_noEx {tb : EqTb} : NoEx (callEq tb) := by
  intro x y h c fs h' e
  unfold callEq blOnly at e
  split at e
  · split at e
    · split at e <;> cases e
    · cases e
  · cases e
theorem fEqA_noEx {tb : EqTb} : NoEx (fEqA tb) := by
  intro x y h c fs h' e
  unfold fEqA at e
  split at e
  · split at e
    · cases e
    · exact callEq_noEx _ _ _ _ _ _ e
  · split at e
    · split at e
      · exact callEq_noEx _ _ _ _ _ _ e
      · cases e
    · split at e
      · cases e
      · unfold fEq at e
        split at e <;> cases e
theorem fNeA_noEx {tb : EqTb} : NoEx (fNeA tb) := by
  intro x y h c fs h' e
  unfold fNeA at e
  split at e
  · split at e
    · cases e
    · unfold blNot at e
      split at e <;> cases e
  · split at e
    · cases e
    · split at e
      · cases e
      · unfold fNe at e
        split at e <;> cases e
/-- what must be seen of the text's own == -/
structure EqAll (P : Program) (w : World) (g : Gm) (mg : Str → Option Value) (base : Heap) (k : Nat) (tb : EqTb) : Prop where
  one : ∀ c f, tb c = some f → EqX P w g mg base k c f
  apart : EqApart g tb
theorem isDt_no {y : W} {h : Hq} (e : ¬ isDt y h = true) : ∀ n, y = .cell n → ¬ ((∃ lk l, h[n]? = some (.dt lk l)) ∨ ∃ l, h[n]? = some (.xd l)) := by
  rintro n rfl z
  rcases z with ⟨lk, l, z⟩ | ⟨l, z⟩ <;> simp [isDt, z] at e
/-- the other one is no class above -/
theorem notFirst_of {P : Program} {w : World} {mg : Str → Option Value} {base : Heap} {tb : EqTb} {r : List Addr} {h : Hq} {y : W} {u : V} {uu : Value} {c : Nat} (ea : EqAll P w g mg base k tb) (hK : X.K = g.K) (I : Inv X pn σ H s) (R : Rep g r h H) (qy : RV g.K r H y u) (ry : RelV u uu) (hc : (tb c).isSome = true)
    (hoff : ¬ offEq tb y h = true) : ∃ t, PySem.W.Looks (model X.prog X.w) s.heap (typeOf uu) t ∧ PySem.W.notFirst X.K (g.ca c) t = true := by
  have hoff2 : offEq tb y h = false := by
    cases e : offEq tb y h with
    | false => rfl
    | true => exact absurd e hoff
  unfold offEq at hoff2
  obtain ⟨ho1, ho2⟩ := Bool.or_eq_false_iff.mp hoff2
  have hy := isDt_no (y := y) (h := h) (by rw [ho1]; exact Bool.false_ne_true)
  cases ei : insOf y h with
  | some z =>
    obtain ⟨n, d, fs⟩ := z
    obtain ⟨p, dx, gs, rfl, _, hp, _⟩ := insOf_at R qy ei
    cases ry
    obtain ⟨mA, J, _⟩ := ins_get I.hok hp
    obtain ⟨od, J, _⟩ := J.look
    refine ⟨_, J.type, ?_⟩
    unfold PySem.W.notFirst
    by_cases hd : g.ca d = g.ca c
    · rw [hd]; simp
    · rw [ei] at ho2
      have hd2 : (tb d).isSome = true := by
        have z : (tb d).isNone = false := ho2
        cases e : tb d with
        | none => rw [e] at z; cases z
        | some _ => rfl
      have := ea.apart c d hc hd2 hd
      rw [hK]
      show (_ || PySem.W.mroIn g.K (g.ca d) (.ref (g.ca c)) == some false) = true
      rw [this]; simp
  | none =>
    rcases tyW R qy ei with ⟨n, rfl, en⟩ | ⟨n, rfl, en⟩ | ⟨t, ty, pt⟩
    · exfalso
      simp only [RV] at qy
      obtain ⟨p, rfl, e1⟩ := qy
      have h1 := (List.getElem?_eq_some_iff.mp e1).1
      have h2 := List.getElem?_eq_none_iff.mp en
      rw [R.len] at h1
      omega
    · exact absurd en (hy n rfl)
    · rw [← hK] at ty
      obtain ⟨P', Z, p, _⟩ := kit_of I ry ty
      refine ⟨t, Z.ty _ _ I.kIn p, ?_⟩
      unfold PySem.W.notFirst
      rw [pt.sub]
      simp
theorem Aft.noσ {σ σ' : Sl} {x : Rs} {r : List Addr} {H : Hp} {Q : VK} (q : Aft g noWx σ x r H Q) : Aft g noWx σ' x r H Q := by
  cases x with
  | ok w h' => exact q
  | ex c fs h' => exact q
  | bad => exact q
theorem callEq_some {tb : EqTb} {r : List Addr} {h : Hq} {x y : W} {Q : VK} {n c : Nat} {fs : List (Nat × W)} (ei : insOf x h = some (n, c, fs)) (a : Aft g noWx σ (callEq tb x y h) r H Q) : (tb c).isSome = true := by
  unfold callEq at a
  rw [ei] at a
  simp only at a
  cases et : tb c with
  | none => rw [et] at a; exact a.elim
  | some f => rfl
theorem blNot_aft {x : Rs} {r : List Addr} {h : Hq} {Q : VK} (q : Aft g noWx σ (blNot x) r H Q) : Aft g noWx σ x r H (fun z H' => ∃ b, z = .bl b ∧ Q (.bl !b) H') := by
  cases x with
  | ok w h' =>
    cases w with
    | bl b =>
      intro r' H' v G R qv
      simp only [RV] at qv
      subst qv
      exact ⟨b, rfl, q r' H' _ G R (by simp only [RV])⟩
    | _ => exact q.elim
  | ex c fs h' => exact q.elim
  | bad => exact q.elim
theorem op_eqA {tb : EqTb} (hK : X.K = g.K) (hr : Room k X.A) (ea : EqAll X.prog X.w g X.mg X.base k tb) : OpR X (compareOp .Eq) (rM g (fEqA tb)) := by
  have hu := hr.units
  intro pn s σ H x y v u Q I rx ry h
  obtain ⟨r, h, w1, w2, R, q1, q2, a⟩ := h
  have a : Aft g noWx σ (fEqA tb w1 w2 h) r H Q := a.noσ
  unfold fEqA at a
  split at a
  · rename_i hs
    obtain ⟨⟨n, c, fs⟩, ei⟩ := Option.isSome_iff_exists.mp hs
    obtain ⟨p, dx, gs, rfl, _, hp, _⟩ := insOf_at R q1 ei
    split at a
    · exact a.elim
    · rename_i hd
      obtain ⟨t, L, N⟩ := notFirst_of ea hK I R q2 ry (callEq_some ei a) hd
      have own := own_run hK rfl hr ea.one I R q1 q2 rx ry ei a
      cases rx
      exact rc_own (by omega) I hp L N own
  · split at a
    · rename_i hs
      obtain ⟨⟨n, c, fs⟩, ei⟩ := Option.isSome_iff_exists.mp hs
      obtain ⟨p, dx, gs, rfl, _, hp, _⟩ := insOf_at R q2 ei
      split at a
      · have own := own_run hK rfl hr ea.one I R q2 q1 ry rx ei a
        obtain ⟨f, ef⟩ := Option.isSome_iff_exists.mp (callEq_some ei a)
        simp only [RV] at q1; subst q1
        obtain ⟨t, rfl⟩ := rx
        cases ry
        exact rc_str (by omega) I hp (by rw [hK]; exact (ea.one c f ef).st) own
      · exact a.elim
    · split at a
      · rename_i b ed
        obtain ⟨p, q, xs, ys, ka, kb, rfl, rfl, hp, hq, ra, rb, hh⟩ := dEq_at R q1 q2 ed
        cases rx
        cases ry
        obtain ⟨_, sa, va, wa, da⟩ := (show ObjOk X.prog X.w H s.heap p (.dK ka) from I.hok p _ hp)
        obtain ⟨_, sb, vb, wb, db⟩ := (show ObjOk X.prog X.w H s.heap q (.dK kb) from I.hok q _ hq)
        have e1 := ra.len; have e2 := rb.len; have e3 := wa.length; have e4 := wb.length
        rcases hh with ⟨hl, ed2⟩ | ⟨hl, rfl⟩
        · refine PySem.W.keq_eq (knd := mixKind X.prog X.w) (r := b) sa sb da db (by omega) (fun _ => hits_of (A := X.A.in1) I (by show X.A.units + 1 + 64 < cLine; have := hr.un; omega) hK R rb wb xs ka va b ra wa ed2) ⟨.bl b, H, I, ?_, a.done R (by simp only [RV])⟩
          have : va.length = vb.length := by omega
          simp [this, L2.RelV]
        · refine PySem.W.keq_eq (knd := mixKind X.prog X.w) (r := false) sa sb da db (by omega) (fun z => absurd z (by omega)) ⟨.bl false, H, I, ?_, a.done R (by simp only [RV])⟩
          simp [L2.RelV]
      · obtain ⟨hx⟩ : Nonempty Unit := ⟨()⟩
        have z : rEqD X.K x y H Q := by rw [hK]; exact eq_S (Wx := noWx) r h H σ w1 w2 x y Q R q1 q2 a
        exact op_eqD (by omega) pn s σ H x y v u Q I rx ry z
theorem op_neA {tb : EqTb} (hK : X.K = g.K) (hr : Room (k + 1) X.A) (ea : EqAll X.prog X.w g X.mg X.base k tb) : OpR X (compareOp .NotEq) (rM g (fNeA tb)) := by
  have hu := hr.units
  intro pn s σ H x y v u Q I rx ry h
  obtain ⟨r, h, w1, w2, R, q1, q2, a⟩ := h
  have a : Aft g noWx σ (fNeA tb w1 w2 h) r H Q := a.noσ
  unfold fNeA at a
  split at a
  · rename_i hs
    obtain ⟨⟨n, c, fs⟩, ei⟩ := Option.isSome_iff_exists.mp hs
    obtain ⟨p, dx, gs, rfl, _, hp, _⟩ := insOf_at R q1 ei
    split at a
    · exact a.elim
    · rename_i hd
      have a2 := blNot_aft (h := h) a
      have hc := callEq_some ei a2
      obtain ⟨f, ef⟩ := Option.isSome_iff_exists.mp hc
      obtain ⟨t, L, N⟩ := notFirst_of ea hK I R q2 ry hc hd
      have own := own_run (A := X.A.in1) hK rfl hr.in1 ea.one I R q1 q2 rx ry ei a2
      have e1 := (ea.one c f ef).ne
      have e2 := (ea.one c f ef).ob
      rw [← hK] at e1 e2
      cases rx
      exact rc_own_ne (by omega) I hp L N e1 e2 own
  · split at a
    · exact a.elim
    · split at a
      · rename_i b ed
        obtain ⟨p, q, xs, ys, ka, kb, rfl, rfl, hp, hq, ra, rb, hh⟩ := dEq_at R q1 q2 ed
        cases rx
        cases ry
        obtain ⟨_, sa, va, wa, da⟩ := (show ObjOk X.prog X.w H s.heap p (.dK ka) from I.hok p _ hp)
        obtain ⟨_, sb, vb, wb, db⟩ := (show ObjOk X.prog X.w H s.heap q (.dK kb) from I.hok q _ hq)
        have e1 := ra.len; have e2 := rb.len; have e3 := wa.length; have e4 := wb.length
        rcases hh with ⟨hl, ed2⟩ | ⟨hl, rfl⟩
        · refine PySem.W.keq_ne (knd := mixKind X.prog X.w) (r := b) sa sb da db (by omega) (fun _ => hits_of (A := X.A.in1) I (by show X.A.units + 1 + 64 < cLine; have := hr.un; omega) hK R rb wb xs ka va b ra wa ed2) ⟨.bl (!b), H, I, ?_, a.done R (by simp only [RV])⟩
          have : va.length = vb.length := by omega
          simp [this, L2.RelV]
        · refine PySem.W.keq_ne (knd := mixKind X.prog X.w) (r := false) sa sb da db (by omega) (fun z => absurd z (by omega)) ⟨.bl true, H, I, ?_, a.done R (by simp only [RV, Bool.not_false])⟩
          simp [L2.RelV]
      · have z : rNeD X.K x y H Q := by rw [hK]; exact ne_S (Wx := noWx) r h H σ w1 w2 x y Q R q1 q2 a
        exact op_neD (by omega) pn s σ H x y v u Q I rx ry z
end
end MR
/-! MMore: tables of the text, isinstance, displays of dicts, copies, methods of lists and dicts. -/
namespace MR
open PySem PySem.Spec PyProof.Rows L2
section
variable {X : Cx} {g : Gm} {Wx : WX} {e a b c : Expr} {m ma mb mc : M} {pos apos cpos p : Pos} {k : Nat} {es : List Expr} {ms : M}

/-! ### a table of the text: texts to constants -/
structure KTab (g : Gm) (w : World) (d : Addr) (l : List (List Nat × W)) : Prop where
  dict : ∃ es n, KDict g.K w d es n
  at_ : ∀ z v, l.lookup z = some v → ∃ u0 v0, PySem.W.nsIn g.K d (sV z) = some (some u0) ∧ RelV v0 u0 ∧ ∀ r H, RV g.K r H v v0
def mKd (l : List (List Nat × W)) (mb : M) : M := fun L h => (mb L h).bind fun y h1 => match y with
  | .str z => match l.lookup z with
    | some v => .ok v h1
    | none => .bad
  | _ => .bad
def rKd (K : PySem.W.Frag) (d : Addr) : R2 := fun x y H Q => ∃ (z : Str) (u0 : Value) (v0 : V), x = .ref d ∧ y = .str z ∧ PySem.W.nsIn K d z = some (some u0) ∧ RelV v0 u0 ∧ Q v0 H
theorem ix_kd {d : Addr} {es : Array DictEntry} {n : Nat} (D : KDict X.K X.w d es n) : IxR X (rKd X.K d) := by
  intro value slice pn s σ H x y v u Q I rx ry h hs
  obtain ⟨z, u0, v0, rfl, rfl, q⟩ := h
  have rx' := rx
  cases rx
  exact tail_any (kd_type D I) PySem.F.slot_dict_getitem.lookup (op_item_kd D pn s σ H (.ref d) (.str z) _ _ Q I rx' ry ⟨z, u0, v0, rfl, rfl, q⟩) hs
theorem kd_ok {x : Str} {d : Addr} {l : List (List Nat × W)} (hk : Kx X g Wx) (T : KTab g X.w d l) (hg : Gl X x) (hm : X.mg x = some (.ref d)) (hb : PEM X g Wx b mb) (hs : PlainIx b) (hd : (x == ("__debug__" : Str)) = false := by decide) : PEM X g Wx (.Subscript (.Name x p) b pos) (mKd l mb) := by
  obtain ⟨es, n, D⟩ := T.dict
  rw [← hk.hK] at D
  refine pe_imp (pe_ix (ix_kd D) (pe_glob (v := .ref d) hg hm rfl hd) hb hs) fun σ H Q ⟨r, h, L, A, q⟩ => ?_
  show tM g Wx mb σ H fun y H1 => rKd X.K d (.ref d) y H1 Q
  obtain ⟨r0, h0, L0, A0, q0⟩ := tM_step (ma := mb) A q
  refine ⟨r0, h0, L0, A0, q0.imp fun v H1 ⟨r1, h1, y, A1, G1, x1, q1⟩ => ?_⟩
  split at q1
  · rename_i z
    simp only [RV] at x1; subst x1
    split at q1
    · rename_i v ev
      obtain ⟨u0, v0, e1, e2, e3⟩ := T.at_ z v ev
      rw [hk.hK]
      exact ⟨_, u0, v0, rfl, rfl, e1, e2, q1.done A1.rep (e3 _ _)⟩
    · exact q1.elim
  · exact q1.elim
/-- key in / not in a table -/
def mKdIn (neg : Bool) (l : List (List Nat)) (mb : M) : M := fun L h => (mb L h).bind fun y h1 => match y with
  | .str z => .ok (.bl (if neg then !(l.contains z) else l.contains z)) h1
  | _ => .bad

/-! ### isinstance -/
/-- what the model asks of an own class for isinstance -/
structure InsF (g : Gm) (c : Nat) : Prop where
  ha : PySem.W.findIn g.K (.ref (g.ca c)) "__class__" = some (some (.builtin "object.__class__"))
  hn : PySem.W.specialIn g.K (.builtin "object.__class__") "__get__" = some (some (.builtin "getset_descriptor.__get__"))
  ht : PySem.W.takesIn g.K (.builtin "object.__class__") = some true
  hm : PySem.W.mroIn g.K (g.ca c) (.type "object") = some true
/-- the type of a value: a built-in one, or an own class -/
inductive TyN where
  | ty (n : String) | own (c : Nat)
  deriving DecidableEq
@[simp] def tyN (w : W) (h : Hq) : Option TyN := match w with
  | .non => some (.ty "NoneType")
  | .bl _ => some (.ty "bool")
  | .int _ => some (.ty "int")
  | .str _ => some (.ty "str")
  | .tup _ => some (.ty "tuple")
  | .ktup _ => some (.ty "tuple")
  | .lst _ => some (.ty "list")
  | .rol _ => some (.ty "list")
  | .cell n => match h[n]? with
    | some (.lst _) => some (.ty "list")
    | some (.dk _ _) => some (.ty "dict")
    | some (.dt false _) => some (.ty "dict")
    | some (.ins c _) => some (.own c)
    | _ => none
def TyN.val (g : Gm) : TyN → Value
  | .ty n => .type n
  | .own c => .ref (g.ca c)
theorem tyN_at {r : List Addr} {h : Hq} {H : Hp} {w : W} {v : V} {t : TyN} (R : Rep g r h H) (q : RV g.K r H w v) (hi : ∀ c, t = .own c → InsF g c) (e : tyN w h = some t) : TyX g.K H v (t.val g) := by
  cases w with
  | non => simp only [RV] at q; subst q; cases e; exact .base .non
  | bl y => simp only [RV] at q; subst q; cases e; exact .base (.bl _)
  | int i => simp only [RV] at q; subst q; cases e; exact .base (.int _)
  | str y => simp only [RV] at q; subst q; cases e; exact .base (.str _)
  | tup l => simp only [RV] at q; obtain ⟨a, vs, rfl, ⟨_, hp⟩, _⟩ := q; cases e; exact .base (.tup hp)
  | lst l => simp only [RV] at q; obtain ⟨a, vs, rfl, ⟨_, hp⟩, _⟩ := q; cases e; exact .base (.lst hp)
  | ktup l => simp only [RV] at q; obtain ⟨a, vs, rfl, ⟨o, its, n, e1, e2, _⟩, _⟩ := q; cases e; exact .kTuple e1 e2
  | rol l =>
    simp only [RV] at q
    obtain ⟨a, vs, rfl, hp, _⟩ := q
    cases e
    rcases hp with ⟨_, hp | ⟨o, hp⟩⟩ | ⟨o, its, n, e1, e2, _⟩
    · exact .base (.lst hp)
    · exact .base (.frz hp)
    · exact .kList e1 e2
  | cell n =>
    simp only [tyN] at e
    cases ec : h[n]? with
    | none => rw [ec] at e; cases e
    | some d =>
      rw [ec] at e
      obtain ⟨p, o, rfl, _, hp, rc⟩ := cell_at R q ec
      cases d with
      | lst l => obtain ⟨vs, rfl, _⟩ := rc; cases e; exact .base (.lst hp)
      | dk lk l =>
        obtain ⟨kvs, lo, _⟩ := rc
        cases e
        cases lk with
        | true => obtain ⟨ob, rfl⟩ : ∃ ob, o = .frz ob (.dK kvs) := lo; exact .fDict hp
        | false => have lo : o = .dK kvs := lo; subst lo; exact .base (.dK hp)
      | dt lk l =>
        obtain ⟨kvs, lo, _⟩ := rc
        cases lk with
        | true => cases e
        | false => have lo : o = .dT kvs := lo; subst lo; cases e; exact .base (.dT hp)
      | ins c fs =>
        obtain ⟨⟨dx, gs, rfl, _⟩, cl, _⟩ := rc
        cases e
        have f := hi c rfl
        exact .base (.ins hp cl f.ha f.hn f.ht f.hm)
      | xd fs => cases e
/-- is a type below one of these -/
def subT (kt : List ((TyN × TyN) × Bool)) (t : TyN) : List TyN → Option Bool
  | [] => some false
  | c :: r => match kt.lookup (t, c) with
    | some true => some true
    | some false => subT kt t r
    | none => none
/-- the table says what the model says -/
def KitT (g : Gm) (kt : List ((TyN × TyN) × Bool)) : Prop := ∀ x ∈ kt, PySem.W.kitOne g.K (x.1.1.val g) (x.1.2.val g) = some x.2 ∧ (∀ c, x.1.1 = .own c → InsF g c)
theorem lookup_mem {α β : Type} [BEq α] [LawfulBEq α] {x : α} {y : β} : ∀ {l : List (α × β)}, l.lookup x = some y → (x, y) ∈ l
  | [], e => by simp at e
  | p :: l, e => by
    rw [List.lookup_cons] at e
    split at e
    · rename_i hp
      cases e
      rw [eq_of_beq hp]
      exact List.mem_cons_self
    · exact List.mem_cons_of_mem _ (lookup_mem e)
/-- isinstance(e, c) -/
def mIsi (kt : List ((TyN × TyN) × Bool)) (c : TyN) (ma : M) : M := fun L h => (ma L h).bind fun x h1 => match tyN x h1 with
  | some t => match kt.lookup (t, c) with
    | some b => .ok (.bl b) h1
    | none => .bad
  | none => .bad
/-- how a class is named in the text -/
def ClsE (X : Cx) (g : Gm) (e : Expr) (c : TyN) : Prop := ∃ v : V, PE X e (tC v) ∧ ClsV v (c.val g)
theorem clsTy {x : Str} {T : String} (hg : Gl X x) (hm : X.mg x = none) (hv : bootBuiltins x = some (.type T)) (hn : x ≠ "__name__" := by decide) (hd : (x == ("__debug__" : Str)) = false := by decide) : ClsE X g (.Name x pos) (.ty T) := ⟨.ty T, pe_bltn hg hm hv rfl hn hd, .ty T⟩
theorem clsOwn {x : Str} {c : Nat} (hg : Gl X x) (hm : X.mg x = some (.ref (g.ca c))) (hd : (x == ("__debug__" : Str)) = false := by decide) : ClsE X g (.Name x pos) (.own c) := ⟨.ref (g.ca c), pe_glob hg hm rfl hd, .own _⟩
theorem isi_ok {kt : List ((TyN × TyN) × Bool)} {c : TyN} (hk : Kx X g Wx) (hT : KitT g kt) (hg : Gl X "isinstance") (hm : X.mg "isinstance" = none) (ha : PEM X g Wx a ma) (hc : ClsE X g b c)
    (h1 : starEach [a, b] X.env = (false, eval a X.env) :: starEach [b] X.env := by rfl) (h2 : starEach [b] X.env = (false, eval b X.env) :: starEach [] X.env := by rfl) (hpl : (backTo pos (starEach [b] X.env)).any (·.1) = false := by rfl) :
    PEM X g Wx (.Call (.Name "isinstance" p) [a, b] [] pos) (mIsi kt c ma) := by
  obtain ⟨v, hv, cv⟩ := hc
  refine pe_imp (pe_callB call_isi hg hm rfl (pa_cons ha (pa_cons hv pa_nil h2) h1) (by decide) (by decide) h1 hpl) fun σ H Q ⟨r, h, L, A, q⟩ => ?_
  show tM g Wx ma σ H fun x H1 => rIsi X.K [x, v] H1 Q
  obtain ⟨r0, h0, L0, A0, q0⟩ := tM_step (ma := ma) A q
  refine ⟨r0, h0, L0, A0, q0.imp fun u H1 ⟨r1, h1, x, A1, G1, x1, q1⟩ => ?_⟩
  split at q1
  · rename_i t et
    split at q1
    · rename_i b' eb
      obtain ⟨k1, k2⟩ := hT _ (lookup_mem eb)
      rw [hk.hK]
      exact ⟨u, v, _, _, b', rfl, cv, tyN_at A1.rep x1 k2 et, k1, q1.done A1.rep (by simp only [RV])⟩
    · exact q1.elim
  · exact q1.elim

/-! ### {k: v, ..} -/
/-- the pairs, from the left -/
def mPairs : List (M × M) → Loc → Hq → (List (W × W) → Hq → Rs) → Rs
  | [], _, h, k => k [] h
  | (mk, mv) :: r, L, h, k => (mk L h).bind fun x h1 => (mv L h1).bind fun y h2 => mPairs r L h2 fun ps h3 => k ((x, y) :: ps) h3
@[simp] def putAll (l : List (W × W)) : List (W × W) → Option (List (W × W))
  | [] => some l
  | p :: r => match keyOf p.1 with
    | some k => putAll (dPut keyOf l k p.1 p.2) r
    | none => none
/-- the dict's own place is taken first -/
def mDict (ps : List (M × M)) : M := fun L h => mPairs ps L (h ++ [.dk false []]) fun kvs h1 => match h1[h.length]? with
  | some (.dk false []) => match putAll [] kvs with
    | some l => .ok (.cell h.length) (h1.set h.length (.dk false l))
    | none => .bad
  | _ => .bad
structure PPM (X : Cx) (g : Gm) (Wx : WX) (pos : Pos) (keys : List (Option Expr)) (vals : List Expr) (ps : List (M × M)) : Prop where
  ok : PPs X pos keys vals (ps.map fun p => (tM g Wx p.1, tM g Wx p.2))
theorem ppm_nil : PPM X g Wx pos [] [] [] := ⟨pps_nil⟩
theorem ppm_cons {kx vx : Expr} {ks : List (Option Expr)} {vs : List Expr} {mk mv : M} {ps : List (M × M)} (h1 : PEM X g Wx kx mk) (h2 : PEM X g Wx vx mv) (h3 : PPM X g Wx pos ks vs ps) : PPM X g Wx pos (some kx :: ks) (vx :: vs) ((mk, mv) :: ps) := ⟨pps_cons h1 h2 h3.ok⟩
def RVp (K : PySem.W.Frag) (r : List Addr) (H : Hp) : List (W × W) → List (V × V) → Prop
  | [], vs => vs = []
  | p :: ps, vs => ∃ k v t, vs = (k, v) :: t ∧ RV K r H p.1 k ∧ RV K r H p.2 v ∧ RVp K r H ps t
theorem pairs_run : ∀ (ps : List (M × M)) {σ : Sl} {r : List Addr} {h : Hq} {H : Hp} {L : Loc} {k : List (W × W) → Hq → Rs} {Q : VK} {Q' : List (V × V) → Hp → Prop}, At g r h H L σ → Aft g Wx σ (mPairs ps L h k) r H Q →
    (∀ (r1 : List Addr) (h1 : Hq) (H1 : Hp) (ws : List (W × W)) (vs : List (V × V)), At g r1 h1 H1 L σ → Gro r H r1 H1 → RVp g.K r1 H1 ws vs → Aft g Wx σ (k ws h1) r1 H1 Q → Q' vs H1) → tPairs (ps.map fun p => (tM g Wx p.1, tM g Wx p.2)) σ H Q'
  | [], σ, r, h, H, L, k, Q, Q', A, q, i => i r h H [] [] A Gro.refl rfl q
  | (mk, mv) :: ps, σ, r, h, H, L, k, Q, Q', A, q, i => by
    obtain ⟨r0, h0, L0, A0, q0⟩ := tM_step (ma := mk) A q
    refine ⟨r0, h0, L0, A0, q0.imp fun x H1 ⟨r1, h1, w, A1, G1, x1, q1⟩ => ?_⟩
    obtain ⟨r2, h2, L2, A2, q2⟩ := tM_step (ma := mv) A1 q1
    refine ⟨r2, h2, L2, A2, q2.imp fun y H2 ⟨r3, h3, w', A3, G3, x3, q3⟩ => ?_⟩
    exact pairs_run ps A3 q3 fun r4 h4 H4 ws vs A4 G4 x4 q4 => i r4 h4 H4 ((w, w') :: ws) ((x, y) :: vs) A4 ((G1.trans G3).trans G4) ⟨x, y, vs, rfl, RV.gro (G3.trans G4) _ _ x1, RV.gro G4 _ _ x3, x4⟩ q4
theorem putAll_at {K : PySem.W.Frag} {r : List Addr} {H : Hp} : ∀ {ws : List (W × W)} {vs : List (V × V)} {l l' : List (W × W)} {kvs : List (Key × V)}, RVp K r H ws vs → RKs keyOf K r H l kvs → putAll l ws = some l' →
    ∃ more : List (Key × V), vs = more.map (fun kv => (kV kv.1, kv.2)) ∧ RKs keyOf K r H l' (mergeK kvs more)
  | [], vs, l, l', kvs, q, ql, e => by
    have z : vs = [] := q
    subst z
    simp only [putAll, Option.some.injEq] at e; subst e
    exact ⟨[], rfl, ql⟩
  | p :: ws, vs, l, l', kvs, q, ql, e => by
    obtain ⟨kv, v, t, rfl, q1, q2, q3⟩ := q
    simp only [putAll] at e
    split at e
    · rename_i k ek
      obtain ⟨more, e1, e2⟩ := putAll_at (kvs := putK kvs k v) q3 (ql.put ek q2) e
      exact ⟨(k, v) :: more, by rw [e1, keyOf_at q1 ek] <;> rfl, e2⟩
    · cases e
theorem mPairs_len : ∀ (ps : List (M × M)) {k : List (W × W) → Hq → Rs} {L : Loc} {h : Hq}, mPairs ps L h (fun kvs h1 => if kvs.length = ps.length then k kvs h1 else .bad) = mPairs ps L h k
  | [], k, L, h => by simp [mPairs]
  | (mk, mv) :: ps, k, L, h => by
    simp only [mPairs]
    congr 1; funext x h1; congr 1; funext y h2
    rw [← mPairs_len ps (k := fun ps' h3 => k ((x, y) :: ps') h3)]
    congr 1; funext ps' h3
    simp only [List.length_cons, Nat.add_right_cancel_iff]
theorem disp_ok {keys : List (Option Expr)} {vals : List Expr} {ps : List (M × M)} (hp : PPM X g Wx pos keys vals ps) (hall : keys.all (·.isSome) = true) (hl : keys.length = vals.length) (h0 : keys ≠ []) (h15 : keys.length ≤ 15) (hps : ps.length ≤ 15) :
    PEM X g Wx (.Dict keys vals pos) (mDict ps) :=
  pe_imp (pe_disp hp.ok hall hl h0 h15) fun σ H Q ⟨r, h, L, A, q⟩ => fun z hz => by
    have R := A.rep
    have G0 : Gro r H (r ++ [z]) (upd H z (.dK [])) := Gro.cell hz
    have A0 : At g (r ++ [z]) (h ++ [.dk false []]) (upd H z (.dK [])) L σ := A.gro G0 (R.cell hz ⟨[], rfl, rfl⟩)
    unfold mDict at q
    rw [← mPairs_len] at q
    refine pairs_run ps A0 (Aft.gro G0 q) fun r1 h1 H1 ws vs A1 G1 x1 q1 => ?_
    split at q1
    · rename_i hlen
      split at q1
      · rename_i ec
        split at q1
        · rename_i l el
          obtain ⟨a, o, e1, e2, kvs, lo, rc⟩ := A1.rep.at_ _ _ ec
          have ea : r1[h.length]? = some z := G1.at_ (by rw [← R.len]; simp)
          rw [ea] at e1; cases e1
          have lo : o = .dK kvs := lo
          subst lo
          have rc : kvs = [] := rc
          subst rc
          obtain ⟨more, em, rk⟩ := putAll_at (kvs := []) x1 (show RKs keyOf g.K r1 H1 [] [] from rfl) el
          refine ⟨e2, more, em, ?_, ?_⟩
          · have hv : ws.length = vs.length := RVp_len x1
            rw [em, List.length_map] at hv
            omega
          · have gr : Gro r1 H1 r1 (upd H1 z (.dK (mergeK [] more))) := Gro.write A1.rep ea e2 (fun b x y => by cases y)
            exact q1 r1 _ _ gr (A1.rep.write ea e2 (fun b x y => by cases y) ⟨_, rfl, RKs.gro gr rk⟩) (by simp only [RV]; exact ⟨z, rfl, ea⟩)
        · exact q1.elim
      · exact q1.elim
    · exact q1.elim
where RVp_len {K : PySem.W.Frag} {r : List Addr} {H : Hp} : ∀ {ws : List (W × W)} {vs : List (V × V)}, RVp K r H ws vs → ws.length = vs.length
  | [], vs, q => by have z : vs = [] := q; subst z; rfl
  | p :: ws, vs, q => by obtain ⟨k, v, t, rfl, _, _, q3⟩ := q; simp [RVp_len q3]
/-- {} -/
def mDict0 : M := fun _ h => .ok (.cell h.length) (h ++ [.dk false []])
theorem dict0_ok : PEM X g Wx (.Dict [] [] pos) mDict0 := pe_imp pe_dnewK fun σ H Q ⟨r, h, L, A, q⟩ => fun z hz => q _ _ _ (Gro.cell hz) (A.rep.cell hz ⟨[], rfl, rfl⟩) (RV.new A.rep)

/-! ### dict(d) -/
@[simp] def bDict : Fn := fun ws h => match ws with
  | [.cell n] => match h[n]? with
    | some (.dk _ l) => .ok (.cell h.length) (h ++ [.dk false l])
    | _ => .bad
  | _ => .bad
theorem dict_S : CallS g Wx (fun xs H Q => ∃ (a : Addr) (kvs : List (Key × V)), xs = [.ref a] ∧ Rd H a (.dK kvs) ∧ ∀ p, H p = none → Q (.ref p) (upd H p (.dK kvs))) bDict := by
  intro r h H σ ws vs Q R q x
  unfold bDict at x
  split at x
  · rename_i n
    obtain ⟨v, rfl, q1⟩ := RVs.one_inv q
    split at x
    · rename_i lk l ec
      obtain ⟨p, o, rfl, _, hp, kvs, lo, rc⟩ := cell_at R q1 ec
      exact ⟨p, kvs, rfl, lkO_rd lo hp, fun z hz => x _ _ _ (Gro.cell hz) (R.cell hz ⟨kvs, rfl, RKs.gro (Gro.cell hz) rc⟩) (RV.new R)⟩
    · exact x.elim
  · exact x.elim

/-! ### methods of the built-in types -/
abbrev Mf := W → List W → Hq → Rs
def MtS' (g : Gm) (Wx : WX) (r : V → List V → Hp → VK → Prop) (f : Mf) : Prop :=
  ∀ (ra : List Addr) (h : Hq) (H : Hp) (σ : Sl) (o : W) (v : V) (ws : List W) (vs : List V) (Q : VK), Rep g ra h H → RV g.K ra H o v → RVs g.K ra H ws vs → Aft g Wx σ (f o ws h) ra H Q → r v vs H Q
@[simp] def isTy (T : String) (w : W) (h : Hq) : Bool := match w with
  | .str _ => T == "str"
  | .rol _ => T == "list"
  | .lst _ => T == "list"
  | .cell n => match h[n]? with
    | some (.lst _) => T == "list"
    | some (.dk false _) => T == "dict"
    | some (.dt false _) => T == "dict"
    | _ => false
  | _ => false
theorem isTy_at {T : String} {r : List Addr} {h : Hq} {H : Hp} {w : W} {v : V} (R : Rep g r h H) (q : RV g.K r H w v) (e : isTy T w h = true) : tyV g.K T v H := by
  cases w with
  | str s => simp only [RV] at q; subst q; exact eq_of_beq e
  | lst l =>
    simp only [RV] at q
    obtain ⟨a, vs, rfl, ⟨_, hp⟩, _⟩ := q
    exact .inl ⟨eq_of_beq e, vs, SqL.of hp⟩
  | rol l =>
    simp only [RV] at q
    obtain ⟨a, vs, rfl, hp, _⟩ := q
    refine .inl ⟨eq_of_beq e, vs, ?_⟩
    rcases hp with ⟨_, hp⟩ | hp
    · exact .inl hp
    · exact .inr hp
  | cell n =>
    simp only [isTy] at e
    cases ec : h[n]? with
    | none => rw [ec] at e; cases e
    | some d =>
      rw [ec] at e
      obtain ⟨p, o, rfl, _, hp, rc⟩ := cell_at R q ec
      cases d with
      | lst l => obtain ⟨vs, rfl, _⟩ := rc; exact .inl ⟨eq_of_beq e, vs, SqL.of hp⟩
      | dk lk l =>
        obtain ⟨kvs, lo, _⟩ := rc
        cases lk with
        | true => cases e
        | false => have lo : o = .dK kvs := lo; subst lo; exact .inr (.inr (.inl ⟨eq_of_beq e, .inl ⟨kvs, hp⟩⟩))
      | dt lk l =>
        obtain ⟨kvs, lo, _⟩ := rc
        cases lk with
        | true => cases e
        | false => have lo : o = .dT kvs := lo; subst lo; exact .inr (.inr (.inl ⟨eq_of_beq e, .inr ⟨kvs, hp⟩⟩))
      | ins c fs => cases e
      | xd fs => cases e
  | _ => cases e
def mBM (T : String) (f : Mf) (mo ms : M) : M := fun L h => (mo L h).bind fun o h1 => if isTy T o h1 = true then (ms L h1).bindL fun ws h2 => f o ws h2 else .bad
theorem bm_ok {T id : String} {name : Str} {rr : V → List V → Hp → VK → Prop} {f : Mf} (hk : Kx X g Wx) (pa : PlainAttrs T) (slot : Slot T name id) (hty : typeOf (.builtin id) = pure (.type "method_descriptor")) (hm : MtR X id rr) (hf : MtS' g Wx rr f) (ho : PEM X g Wx a mo) (ha : PAM X g Wx (e :: es) ms)
    (hbase : attributeBase a name X.env (eval a X.env) = eval a X.env := by rfl)
    (hfew : ((backTo cpos (starEach (e :: es) X.env)).all (fun x => !x.1) && (backToKw cpos (keywordEach [] X.env)).all (fun x => x.1.isSome) && decide ((e :: es).length + ([] : List Keyword).length + (if ([] : List Keyword).isEmpty then 0 else 1) < 30)) = true := by rfl)
    (hline : (apos.endLine == cpos.line) = true := by rfl) (hs : starEach (e :: es) X.env = (false, eval e X.env) :: starEach es X.env := by rfl) (hplain : (backTo cpos (starEach es X.env)).any (·.1) = false := by rfl) :
    PEM X g Wx (.Call (.Attribute a name apos) (e :: es) [] cpos) (mBM T f mo ms) :=
  pe_imp (pe_bm pa slot hty hm ho ha hbase hfew hline hs hplain) fun σ H Q ⟨r, h, L, A, q⟩ => by
    obtain ⟨r0, h0, L0, A0, q0⟩ := tM_step (ma := mo) A q
    refine ⟨r0, h0, L0, A0, q0.imp fun v H1 ⟨r1, h1, o, A1, G1, x1, q1⟩ => ?_⟩
    split at q1
    · rename_i ht
      refine ⟨by rw [hk.hK]; exact isTy_at A1.rep x1 ht, ?_⟩
      obtain ⟨r2, h2, L2, A2, q2⟩ := tML_step (ma := ms) A1 q1
      exact ⟨r2, h2, L2, A2, q2.imp fun vs H2 ⟨r3, h3, ws, A3, G3, x3, q3⟩ => hf r3 h3 H2 σ o v ws vs Q A3.rep (RV.gro G3 _ _ x1) x3 q3⟩
    · exact q1.elim
theorem bm0_ok {T id : String} {name : Str} {rr : V → List V → Hp → VK → Prop} {f : Mf} (hk : Kx X g Wx) (pa : PlainAttrs T) (slot : Slot T name id) (hty : typeOf (.builtin id) = pure (.type "method_descriptor")) (hm : MtR X id rr) (hf : MtS' g Wx rr f) (ho : PEM X g Wx a mo)
    (hbase : attributeBase a name X.env (eval a X.env) = eval a X.env := by rfl) (hline : (apos.endLine == cpos.line) = true := by rfl) :
    PEM X g Wx (.Call (.Attribute a name apos) [] [] cpos) (mBM T f mo mNil) :=
  pe_imp (pe_bm0 pa slot hty hm ho hbase hline) fun σ H Q ⟨r, h, L, A, q⟩ => by
    obtain ⟨r0, h0, L0, A0, q0⟩ := tM_step (ma := mo) A q
    refine ⟨r0, h0, L0, A0, q0.imp fun v H1 ⟨r1, h1, o, A1, G1, x1, q1⟩ => ?_⟩
    split at q1
    · rename_i ht
      exact ⟨by rw [hk.hK]; exact isTy_at A1.rep x1 ht, hf r1 h1 H1 σ o v [] [] Q A1.rep x1 .nil q1⟩
    · exact q1.elim
/-- a list that may be written: its cell -/
@[simp] def cellL (w : W) (h : Hq) : Option (Nat × List W) := match w with
  | .cell n => match h[n]? with
    | some (.lst l) => some (n, l)
    | _ => none
  | _ => none
theorem cellL_at {r : List Addr} {h : Hq} {H : Hp} {w : W} {v : V} {n : Nat} {l : List W} (R : Rep g r h H) (q : RV g.K r H w v) (e : cellL w h = some (n, l)) :
    ∃ (p : Addr) (vs : List V), v = .ref p ∧ r[n]? = some p ∧ H p = some (.lst vs) ∧ RVs g.K r H l vs := by
  cases w with
  | cell k =>
    simp only [cellL] at e
    cases ec : h[k]? with
    | none => rw [ec] at e; cases e
    | some d =>
      rw [ec] at e
      obtain ⟨p, o, rfl, er, hp, rc⟩ := cell_at R q ec
      cases d with
      | lst l' => obtain ⟨vs, rfl, q'⟩ := rc; cases e; exact ⟨p, vs, rfl, er, hp, q'⟩
      | _ => cases e
  | _ => simp only [cellL] at e; cases e
/-- a written list: the heaps -/
theorem put_lst {r : List Addr} {h : Hq} {H : Hp} {n : Nat} {p : Addr} {vs vs' : List V} {l' : List W} (R : Rep g r h H) (er : r[n]? = some p) (hp : H p = some (.lst vs)) (q : RVs g.K r H l' vs') :
    Gro r H r (upd H p (.lst vs')) ∧ Rep g r (h.set n (.lst l')) (upd H p (.lst vs')) := by
  have gr : Gro r H r (upd H p (.lst vs')) := Gro.write R er hp (fun b x y => by cases y)
  exact ⟨gr, R.write er hp (fun b x y => by cases y) ⟨_, rfl, RVs.gro gr _ _ q⟩⟩
@[simp] def fAppend : Mf := fun o ws h => match ws with
  | [w] => match cellL o h with
    | some (n, l) => if l.length < lineN then .ok .non (h.set n (.lst (l ++ [w]))) else .bad
    | none => .bad
  | _ => .bad
theorem append_S : MtS' g Wx rAppend fAppend := by
  intro r h H σ o v ws vs Q R qo qw x
  unfold fAppend at x
  split at x
  · rename_i w
    obtain ⟨u, rfl, q1⟩ := RVs.one_inv qw
    split at x
    · rename_i n l el
      obtain ⟨p, vs, rfl, er, hp, q2⟩ := cellL_at R qo el
      split at x
      · rename_i hl
        obtain ⟨G, R'⟩ := put_lst R er hp (q2.app (.cons q1 .nil))
        exact ⟨p, vs, u, rfl, rfl, hp, by rw [← q2.len, lineN_eq]; exact hl, x r _ _ G R' (by simp only [RV])⟩
      · exact x.elim
    · exact x.elim
  · exact x.elim
end
end MR
/-! MTop: what the head tells, for the mirrors. -/
namespace MR
open PySem PySem.Spec PyProof.Rows L2

/-! ### names of attributes by number -/
def fdT (ns : List Str) (n : Nat) : Str := (ns[n]?).getD (sV (List.replicate (1000 + n) 120))
theorem fdT_inj {ns : List Str} (nd : ns.Nodup) (hl : ∀ x ∈ ns, x.length < 1000) : ∀ i j, fdT ns i = fdT ns j → i = j := by
  intro i j e
  unfold fdT at e
  have len : ∀ n, (sV (List.replicate (1000 + n) 120)).length = 1000 + n := fun n => by rw [sV_len]; simp
  cases ei : ns[i]? with
  | none =>
    cases ej : ns[j]? with
    | none =>
      rw [ei, ej] at e
      have := congrArg Str.length e
      simp only [Option.getD_none, len] at this
      omega
    | some y =>
      rw [ei, ej] at e
      have h1 := hl y (List.mem_of_getElem? ej)
      have := congrArg Str.length e
      simp only [Option.getD_none, Option.getD_some, len] at this
      omega
  | some x =>
    cases ej : ns[j]? with
    | none =>
      rw [ei, ej] at e
      have h1 := hl x (List.mem_of_getElem? ei)
      have := congrArg Str.length e
      simp only [Option.getD_none, Option.getD_some, len] at this
      omega
    | some y =>
      rw [ei, ej] at e
      simp only [Option.getD_some] at e
      subst e
      obtain ⟨p1, e1⟩ := List.getElem?_eq_some_iff.mp ei
      obtain ⟨p2, e2⟩ := List.getElem?_eq_some_iff.mp ej
      exact (List.getElem_inj nd).mp (e1.trans e2.symm)

/-! ### constants of the text -/
mutual
def kcB (K : PySem.W.Frag) : W → Value → Bool
  | .non, u => (match u with
    | .none => true
    | _ => false)
  | .bl b, u => (match u with
    | .bool c => b == c
    | _ => false)
  | .int i, u => (match u with
    | .int j _ => decide (i = j)
    | _ => false)
  | .str s, u => (match u with
    | .str t _ => decide (sV s = t)
    | _ => false)
  | .ktup l, u => (match u with
    | .ref a => (match K.lookup a with
      | some ⟨.type c, _, .seq its _, _⟩ => decide (c = "tuple") && (decide (its.size ≤ sizeLine) && kcAll K l its.toList)
      | _ => false)
    | _ => false)
  | .rol l, u => (match u with
    | .ref a => (match K.lookup a with
      | some ⟨.type c, none, .seq its _, _⟩ => decide (c = "list") && (decide (its.size ≤ sizeLine) && kcAll K l its.toList)
      | _ => false)
    | _ => false)
  | _, _ => false
def kcAll (K : PySem.W.Frag) : List W → List Value → Bool
  | [], us => us.isEmpty
  | w :: ws, us => (match us with
    | u :: t => kcB K w u && kcAll K ws t
    | [] => false)
end
mutual
theorem kcB_ok {K : PySem.W.Frag} : ∀ (w : W) (u : Value), kcB K w u = true → ∃ v : V, RelV v u ∧ ∀ r H, RV K r H w v
  | .non, u, h => by
    cases u <;> first | (cases h; done) | exact ⟨.non, rfl, fun _ _ => by simp only [RV]⟩
  | .bl b, u, h => by
    cases u with
    | bool c => exact ⟨.bl b, by rw [show b = c from eq_of_beq (by simpa [kcB] using h)] <;> rfl, fun _ _ => by simp only [RV]⟩
    | _ => simp [kcB] at h
  | .int i, u, h => by
    cases u with
    | int j t => exact ⟨.int i, ⟨t, by rw [show i = j from by simpa [kcB] using h]⟩, fun _ _ => by simp only [RV]⟩
    | _ => simp [kcB] at h
  | .str s, u, h => by
    cases u with
    | str x t => exact ⟨.str (sV s), ⟨t, by rw [show sV s = x from by simpa [kcB] using h]⟩, fun _ _ => by simp only [RV]⟩
    | _ => simp [kcB] at h
  | .ktup l, u, h => by
    cases u with
    | ref a =>
      simp only [kcB] at h
      split at h
      · rename_i c dd its n sl e
        obtain ⟨h1, h2⟩ := He.ba h
        obtain ⟨h3, h4⟩ := He.ba h2
        obtain ⟨vs, r1, r2⟩ := kcAll_ok l its.toList h4
        exact ⟨.ref a, rfl, fun r H => by
          simp only [RV]
          exact ⟨a, vs, rfl, ⟨_, its, n, e, by rw [of_decide_eq_true h1], rfl, of_decide_eq_true h3, r1⟩, r2 r H⟩⟩
      · cases h
    | _ => simp [kcB] at h
  | .rol l, u, h => by
    cases u with
    | ref a =>
      simp only [kcB] at h
      split at h
      · rename_i c its n sl e
        obtain ⟨h1, h2⟩ := He.ba h
        obtain ⟨h3, h4⟩ := He.ba h2
        obtain ⟨vs, r1, r2⟩ := kcAll_ok l its.toList h4
        exact ⟨.ref a, rfl, fun r H => by
          simp only [RV]
          exact ⟨a, vs, rfl, .inr ⟨_, its, n, e, by rw [of_decide_eq_true h1], rfl, rfl, of_decide_eq_true h3, r1⟩, r2 r H⟩⟩
      · cases h
    | _ => simp [kcB] at h
  | .tup _, _, h => by simp [kcB] at h
  | .lst _, _, h => by simp [kcB] at h
  | .cell _, _, h => by simp [kcB] at h
theorem kcAll_ok {K : PySem.W.Frag} : ∀ (ws : List W) (us : List Value), kcAll K ws us = true → ∃ vs : List V, Vals vs us ∧ ∀ r H, RVs K r H ws vs
  | [], us, h => by
    have e : us = [] := by simpa [kcAll] using h
    subst e
    exact ⟨[], .nil, fun _ _ => .nil⟩
  | w :: ws, us, h => by
    cases us with
    | nil => simp [kcAll] at h
    | cons u t =>
      obtain ⟨h1, h2⟩ := He.ba (show (kcB K w u && kcAll K ws t) = true by simpa [kcAll] using h)
      obtain ⟨v, r1, r2⟩ := kcB_ok w u h1
      obtain ⟨vs, r3, r4⟩ := kcAll_ok ws t h2
      exact ⟨v :: vs, .cons r1 r3, fun r H => .cons (r2 r H) (r4 r H)⟩
end
/-- the module's name x stands for the constant w -/
def constB (K : PySem.W.Frag) (x : Str) (w : W) : Bool := match PySem.W.nsIn K mainGlobals x with
  | some (some u) => kcB K w u
  | _ => false
def Con1 (g : Gm) (mg : Str → Option Value) (x : Str) (w : W) : Prop := ∃ u v, mg x = some u ∧ RelV v u ∧ ∀ r H, RV g.K r H w v
theorem constB_ok {g : Gm} {h : Heap} {mg : Str → Option Value} {x : Str} {w : W} (X : g.K.In h) (G : h.Ns mainGlobals mg) (e : constB g.K x w = true) : Con1 g mg x w := by
  unfold constB at e
  split at e
  · rename_i u eu
    obtain ⟨v, h1, h2⟩ := kcB_ok w u e
    exact ⟨u, v, PySem.W.mg_of X G eu, h1, h2⟩
  · cases e
theorem con_ok {X : Cx} {g : Gm} {Wx : WX} {pos : Pos} {x : Str} {w : W} (c : Con1 g X.mg x w) (hg : Gl X x) (hd : (x == ("__debug__" : Str)) = false := by decide) : PEM X g Wx (.Name x pos) (mC w) := by
  obtain ⟨u, v, h1, h2, h3⟩ := c
  exact glob_ok hg h1 h2 h3 hd
/-- the values of a table -/
def tabB (K : PySem.W.Frag) (d : Addr) (l : List (List Nat × W)) : Bool := l.all fun p => match PySem.W.nsIn K d (sV p.1) with
  | some (some u) => kcB K p.2 u
  | _ => false
theorem tab_ok {g : Gm} {w : World} {d : Addr} {l : List (List Nat × W)} (h1 : ∃ es n, KDict g.K w d es n) (h2 : tabB g.K d l = true) : KTab g w d l := by
  refine ⟨h1, fun z v e => ?_⟩
  have h3 := List.all_eq_true.mp h2 _ (lookup_mem e)
  simp only at h3
  split at h3
  · rename_i u eu
    obtain ⟨v0, h4, h5⟩ := kcB_ok v u h3
    exact ⟨u, v0, eu, h4, h5⟩
  · cases h3
/-! ### classes -/
def insB (K : PySem.W.Frag) (C : Addr) : Bool := He.eqO (PySem.W.findIn K (.ref C) "__class__") (some (some (.builtin "object.__class__"))) && (He.eqO (PySem.W.specialIn K (.builtin "object.__class__") "__get__") (some (some (.builtin "getset_descriptor.__get__"))) &&
  (decide (PySem.W.takesIn K (.builtin "object.__class__") = some true) && decide (PySem.W.mroIn K C (.type "object") = some true)))
theorem insB_ok {g : Gm} {c : Nat} (h : insB g.K (g.ca c) = true) : InsF g c := by
  obtain ⟨h1, h⟩ := He.ba h
  obtain ⟨h2, h⟩ := He.ba h
  obtain ⟨h3, h4⟩ := He.ba h
  exact ⟨He.eqO_ok h1, He.eqO_ok h2, of_decide_eq_true h3, of_decide_eq_true h4⟩
def kitTB (g : Gm) (kt : List ((TyN × TyN) × Bool)) : Bool := kt.all fun x => decide (PySem.W.kitOne g.K (x.1.1.val g) (x.1.2.val g) = some x.2) && match x.1.1 with
  | .own c => insB g.K (g.ca c)
  | _ => true
theorem kitTB_ok {g : Gm} {kt : List ((TyN × TyN) × Bool)} (h : kitTB g kt = true) : KitT g kt := fun x hx => by
  obtain ⟨h1, h2⟩ := He.ba (List.all_eq_true.mp h x hx)
  refine ⟨of_decide_eq_true h1, fun c e => ?_⟩
  rw [e] at h2
  exact insB_ok h2
def eqXB (g : Gm) (cs : List Nat) : Bool := cs.all fun c => He.eqO (PySem.W.findIn g.K (.ref (g.ca c)) "__ne__") (some (some (.builtin "object.__ne__"))) && (decide (PySem.W.mroIn g.K (g.ca c) (.type "object") = some true) && (decide (PySem.W.mroIn g.K (g.ca c) (.type "str") = some false) &&
  cs.all fun d => decide (g.ca d = g.ca c) || decide (PySem.W.mroIn g.K (g.ca d) (.ref (g.ca c)) = some false)))
def tbOf (l : List (Nat × Fn)) : EqTb := fun c => l.lookup c
theorem eqAll_ok {P : Program} {w : World} {g : Gm} {mg : Str → Option Value} {base : Heap} {k : Nat} {l : List (Nat × Fn)} (h : eqXB g (l.map (·.1)) = true) (hm : ∀ x ∈ l, ∃ fa, Mtd P w g mg base k "__eq__" x.1 fa 2 x.2 []) : EqAll P w g mg base k (tbOf l) := by
  have mem : ∀ c f, tbOf l c = some f → c ∈ l.map (·.1) := fun c f e => List.mem_map.mpr ⟨_, lookup_mem e, rfl⟩
  refine ⟨fun c f e => ?_, fun c d hc hd hne => ?_⟩
  · obtain ⟨h1, h2⟩ := He.ba (List.all_eq_true.mp h c (mem c f e))
    obtain ⟨h3, h4⟩ := He.ba h2
    obtain ⟨h5, _⟩ := He.ba h4
    exact ⟨hm _ (lookup_mem e), He.eqO_ok h1, of_decide_eq_true h3, of_decide_eq_true h5⟩
  · obtain ⟨f, ef⟩ := Option.isSome_iff_exists.mp hc
    obtain ⟨f', ef'⟩ := Option.isSome_iff_exists.mp hd
    obtain ⟨h1, h2⟩ := He.ba (List.all_eq_true.mp h c (mem c f ef))
    obtain ⟨h3, h4⟩ := He.ba h2
    obtain ⟨h5, h6⟩ := He.ba h4
    have h7 := List.all_eq_true.mp h6 d (mem d f' ef')
    rcases Bool.or_eq_true_iff.mp h7 with z | z
    · exact absurd (of_decide_eq_true z) hne
    · exact of_decide_eq_true z
/-! ### methods by class -/
abbrev Mtb := List (Nat × (Nat × Fn × List W))
@[simp] def mtOf (l : Mtb) : Nat → Option (Nat × Fn × List W) := fun c => l.lookup c
def MtsOk (P : Program) (w : World) (g : Gm) (mg : Str → Option Value) (base : Heap) (k : Nat) (x : Str) (l : Mtb) : Prop := ∀ y ∈ l, ∃ fa, Mtd P w g mg base k x y.1 fa y.2.1 y.2.2.1 y.2.2.2
theorem MtsOk.ct {P : Program} {w : World} {g : Gm} {mg : Str → Option Value} {base : Heap} {k : Nat} {x : Str} {l : Mtb} (h : MtsOk P w g mg base k x l) : ∀ c n f dw, mtOf l c = some (n, f, dw) → ∃ fa, Mtd P w g mg base k x c fa n f dw := fun c n f dw e => h _ (lookup_mem e)
theorem mts_nil {P : Program} {w : World} {g : Gm} {mg : Str → Option Value} {base : Heap} {k : Nat} {x : Str} : MtsOk P w g mg base k x [] := fun y hy => by cases hy
theorem mts_cons {P : Program} {w : World} {g : Gm} {mg : Str → Option Value} {base : Heap} {k : Nat} {x : Str} {c n : Nat} {f : Fn} {dw : List W} {l : Mtb} {fa : Addr} (h : Mtd P w g mg base k x c fa n f dw) (t : MtsOk P w g mg base k x l) : MtsOk P w g mg base k x ((c, (n, f, dw)) :: l) := fun y hy => by
  rcases List.mem_cons.mp hy with e | e
  · subst e; exact ⟨fa, h⟩
  · exact t y e
theorem Cal.mono {P : Program} {w : World} {g : Gm} {mg : Str → Option Value} {base : Heap} {j k : Nat} {fa : Addr} {n : Nat} {f : Fn} {dw : List W} (c : Cal P w g mg base j fa n f dw) (h : j ≤ k) : Cal P w g mg base k fa n f dw := by
  obtain ⟨fd, ps, ds, dvs, F, r⟩ := c.ex
  exact ⟨⟨fd, ps, ds, dvs, F.mono h, r⟩, c.kp⟩
theorem Mtd.mono {P : Program} {w : World} {g : Gm} {mg : Str → Option Value} {base : Heap} {j k : Nat} {x : Str} {c : Nat} {fa : Addr} {n : Nat} {f : Fn} {dw : List W} (m : Mtd P w g mg base j x c fa n f dw) (h : j ≤ k) : Mtd P w g mg base k x c fa n f dw := ⟨m.cal.mono h, m.mt⟩
theorem one_cs {g : Gm} {c f : Nat} (h : NoAttr g.K (g.ca c) (g.fd f)) : ∀ d ∈ [c], NoAttr g.K (g.ca d) (g.fd f) := fun d hd => by
  have e : d = c := by simpa using hd
  rw [e]; exact h
theorem no_cs {g : Gm} {f : Nat} : ∀ d ∈ ([] : List Nat), NoAttr g.K (g.ca d) (g.fd f) := fun d hd => by cases hd
/-- a def without defaults -/
theorem cal_of {P : Program} {w : World} {g : Gm} {mg : Str → Option Value} {base : Heap} {k : Nat} {d : He.DefD} {fd : FuncData} {N ps : List Str} {n : Nat} {s : MS} (hx : (∀ r, g.px r) ∧ g.sp = none) (F : FunD g.K d.name d.qual d.params d.body d.scope [] [] (He.fAd g.K d.at_) fd) (S : FnScope N ps d.scope) (hn : ps.length = n)
    (hb : ∀ (kV doc pm : Value) (an : Option Addr) (cdv ct : Value) (us : List Value), us.length = ps.length → bindArgs (PySem.W.fnOf d.name d.qual d.params d.body d.scope .none kV doc pm an cdv ct) ⟨us, []⟩ = pure (ps.zip us))
    (hbody : ∀ (cdv : Value) (A : Around) (outer : List Env) (sh : Shared) (H : Hp) (E : XK), Room k (cxM P w g mg base N d.qual d.scope (He.fAd g.K d.at_) cdv A outer sh H E).A → Kx (cxM P w g mg base N d.qual d.scope (He.fAd g.K d.at_) cdv A outer sh H E) g (fun cls d _ H' => E cls d H') →
      PassesOwn (model P w) (cxM P w g mg base N d.qual d.scope (He.fAd g.K d.at_) cdv A outer sh H E).A (cxM P w g mg base N d.qual d.scope (He.fAd g.K d.at_) cdv A outer sh H E).env (cxM P w g mg base N d.qual d.scope (He.fAd g.K d.at_) cdv A outer sh H E).xe →
      PSsM (cxM P w g mg base N d.qual d.scope (He.fAd g.K d.at_) cdv A outer sh H E) g (fun cls d _ H' => E cls d H') d.body s) :
    Cal P w g mg base (k + 1) (He.fAd g.K d.at_) n (mDef N.length s) [] :=
  ⟨⟨fd, ps, [], [], fn_okM hx F S hn hbody, F.bindsN hb, .nil, fun _ _ => .nil⟩, F.kp⟩
end MR
namespace MR
open L2 PySem PySem.Spec PyProof.Rows
/-- the law's promise, by its mirror -/
theorem law_sp {g : Gm} {f : Fn} {H : Hp} {a : Addr} {ns : List Int} (S : SqL g.K H a (ns.map V.int)) (p : ∃ h', f [.rol (ns.map W.int)] [] = .ok (.bl true) h') : spM g 1 f [.ref a] H (fun v _ => v = .bl true) fun _ _ _ => False := by
  obtain ⟨h', e⟩ := p
  refine ⟨[], [], [.rol (ns.map W.int)], ⟨List.nodup_nil, rfl, fun n c e => by simp at e⟩, .cons ?_ .nil, rfl, ?_⟩
  · simp only [RV]
    refine ⟨a, ns.map V.int, rfl, ?_, RVs.ints ns⟩
    rcases S with S | S
    · exact .inl ⟨List.not_mem_nil, S⟩
    · exact .inr S
  · rw [e]
    intro r' H' v G R q
    simpa only [RV] using q
/-- nothing is let out -/
theorem law_cx0 {P : Program} {w : World} {K : PySem.W.Frag} {mg : Str → Option Value} {base : Heap} {k : Nat} {fa : Addr} {fd : FuncData} {ps : List Str} {sp : Sp} (F : FnOk P w K mg base (L2.CX P w) k fa fd ps sp) : FnOk P w K mg base L2.CX0 k fa fd ps (fun vs H Q _ => sp vs H Q fun _ _ _ => False) :=
  ⟨fun vs H Q _ h => F.len vs H Q _ h, fun A outer s H args us vs Q _ hr e0 b rv h => codeAny_mono (F.run A outer s H args us vs Q _ hr e0 b rv h) fun z s' q => by
    cases z with
    | ok fl => cases fl <;> exact q
    | error e =>
      obtain ⟨_, _, _, _, _, _, _, _, _, _, _, _, ff⟩ := q
      exact ff.elim⟩
end MR
/-! MLoop: for over rows and dicts, comprehensions. -/
namespace MR
open PySem PySem.Spec PyProof.Rows L2
open Classical in
/-- a loop; ahead of each turn chk is asked -/
noncomputable def loopX (chk : Hq → Prop) (mt : TgM) (s : MS) : List W → MS
  | [] => fun L h => if chk h then .nx L h else .bad
  | w :: ws => fun L h => if chk h then turnF mt s w L h (loopX chk mt s ws) else .bad
/-- what is walked: its items, and what must stand meanwhile -/
structure Src (g : Gm) (chk : Hq → Prop) (J : It) (ws : List W) (ok : List Addr → Hq → Hp → Prop) : Prop where
  go : ∀ i r h H, i < ws.length → Rep g r h H → ok r h H → J.go i H
  stop : ∀ r h H, Rep g r h H → ok r h H → J.stop ws.length H
  yld : ∀ i r h H x H', i < ws.length → Rep g r h H → ok r h H → J.yld i H x H' → ∃ w, ws[i]? = some w ∧ Gro r H r H' ∧ Rep g r h H' ∧ RV g.K r H' w x
  stay : ∀ r h H r' h' H', ok r h H → Gro r H r' H' → chk h' → ok r' h' H'
section
variable {X : Cx} {g : Gm} {Wx : WX} {e a b c elt iter tg : Expr} {m ma mb mc me : M} {pos apos cpos p : Pos} {k : Nat} {es : List Expr} {ms : M} {sts : List Stmt} {s1 s : MS} {mt : TgM}
/-- what a for asks of its walk -/
def ForR (gg : TG) (tb : TS) (D : Ends) (σ : Sl) : It → Hp → Prop := fun J H1 => ∃ Wv : Nat → Nat → Sl → Hp → Prop, (∃ m, Wv 0 m σ H1) ∧ ∀ i m σ H, Wv i m σ H → (J.stop i H ∧ D.nx σ H) ∨ (J.go i H ∧ ∃ N : Sl → Hp → Prop, (∀ σ' H', N σ' H' → ∃ m', m' < m ∧ Wv (i + 1) m' σ' H') ∧
      ∀ x H', J.yld i H x H' → gg x σ H' fun σ2 H2 => tb { D with nx := N, ct := N, bk := D.nx } σ2 H2)
open Classical in
theorem loopX_run {chk : Hq → Prop} {J : It} {ws : List W} {ok : List Addr → Hq → Hp → Prop} (S : Src g chk J ws ok) {r : List Addr} {h : Hq} {H : Hp} {L : Loc} {σ : Sl} {D : Ends} (A : At g r h H L σ) (o : ok r h H) (x : AftS g Wx (loopX chk mt s ws L h) r H D) :
    ForR (tG g mt) (tS g Wx s) D σ J H := by
  refine ⟨fun i m σ H => m = ws.length - i ∧ i ≤ ws.length ∧ ∃ (r : List Addr) (h : Hq) (L : Loc), At g r h H L σ ∧ (chk h → ok r h H) ∧ AftS g Wx (loopX chk mt s (ws.drop i) L h) r H D, ⟨ws.length, rfl, Nat.zero_le _, r, h, L, A, fun _ => o, x⟩, ?_⟩
  rintro i m σ H ⟨rfl, hi, r, h, L, A, o, x⟩
  by_cases hlt : i < ws.length
  · rw [List.drop_eq_getElem_cons hlt] at x
    unfold loopX at x
    split at x
    · rename_i hc
      refine .inr ⟨S.go i r h H hlt A.rep (o hc), fun σ' H' => i + 1 ≤ ws.length ∧ ∃ (r : List Addr) (h : Hq) (L : Loc), At g r h H' L σ' ∧ (chk h → ok r h H') ∧ AftS g Wx (loopX chk mt s (ws.drop (i + 1)) L h) r H' D, fun σ' H' ⟨q1, q2⟩ => ⟨ws.length - (i + 1), by omega, rfl, q1, q2⟩, fun v H' y => ?_⟩
      obtain ⟨w, ew, G, R', qv⟩ := S.yld i r h H v H' hlt A.rep (o hc) y
      rw [List.getElem?_eq_getElem hlt] at ew
      cases ew
      refine turn_at (A.gro G R') qv (AftS.gro G x) fun r' h' H'' L' σ' A' G' x' => ⟨hlt, r', h', L', A', fun hc' => S.stay r h H r' h' H'' (o hc) (G.trans G') hc', x'⟩
    · exact x.elim
  · have e : i = ws.length := by omega
    subst e
    rw [List.drop_eq_nil_of_le (Nat.le_refl _)] at x
    unfold loopX at x
    split at x
    · rename_i hc
      exact .inl ⟨S.stop r h H A.rep (o hc), x.fin A⟩
    · exact x.elim
open Classical in
theorem loopX_true : ∀ (ws : List W) (L : Loc) (h : Hq), loopX (fun _ => True) mt s ws L h = loopW mt s ws L h
  | [], L, h => by simp [loopX, loopW]
  | w :: ws, L, h => by
    have e : loopX (fun _ => True) mt s ws = loopW mt s ws := by funext L h; exact loopX_true ws L h
    simp [loopX, loopW, e]

/-! ### rows -/
theorem src_lst {a : Addr} {ws : List W} {r0 : List Addr} {H0 : Hp} (F : (a ∉ r0 ∧ ∃ xs, Rd H0 a (.lst xs) ∧ RVs g.K r0 H0 ws xs) ∨ ∃ xs, KLst g.K a xs ∧ RVs g.K r0 H0 ws xs) :
    Src g (fun _ => True) (Itl g.K a) ws (fun r _ H => (a ∉ r ∧ ∃ xs, Rd H a (.lst xs) ∧ RVs g.K r H ws xs) ∨ ∃ xs, KLst g.K a xs ∧ RVs g.K r H ws xs) := by
  have sq : ∀ (r : List Addr) (h : Hq) (H : Hp), ((a ∉ r ∧ ∃ xs, Rd H a (.lst xs) ∧ RVs g.K r H ws xs) ∨ ∃ xs, KLst g.K a xs ∧ RVs g.K r H ws xs) → ∃ xs, SqL g.K H a xs ∧ RVs g.K r H ws xs := fun r h H o => by
    rcases o with ⟨_, xs, q, z⟩ | ⟨xs, q, z⟩
    · exact ⟨xs, .inl q, z⟩
    · exact ⟨xs, .inr q, z⟩
  refine ⟨fun i r h H hi R o => ?_, fun r h H R o => ?_, fun i r h H x H' hi R o y => ?_, fun r h H r' h' H' o G _ => ?_⟩
  · obtain ⟨xs, q, z⟩ := sq r h H o
    obtain ⟨v, e1, _⟩ := z.get (List.getElem?_eq_getElem hi)
    exact ⟨xs, v, q, e1⟩
  · obtain ⟨xs, q, z⟩ := sq r h H o
    exact ⟨xs, q, by rw [z.len]; exact Nat.le_refl _⟩
  · obtain ⟨xs, q, z⟩ := sq r h H o
    obtain ⟨e, y⟩ := y
    subst e
    obtain ⟨v, e1, e2⟩ := z.get (List.getElem?_eq_getElem hi)
    have e3 := y xs q
    rw [e1] at e3
    cases e3
    exact ⟨_, List.getElem?_eq_getElem hi, Gro.refl, R, e2⟩
  · rcases o with ⟨na, xs, q, z⟩ | ⟨xs, q, z⟩
    · obtain ⟨h1, h2⟩ := G.rd na q
      exact .inl ⟨h1, xs, h2, RVs.gro G _ _ z⟩
    · exact .inr ⟨xs, q, RVs.gro G _ _ z⟩
theorem src_tup {a : Addr} {ws : List W} {r0 : List Addr} {H0 : Hp} (F : (a ∉ r0 ∧ ∃ xs, H0 a = some (.tup xs) ∧ RVs g.K r0 H0 ws xs) ∨ ∃ xs, KTup g.K a xs ∧ RVs g.K r0 H0 ws xs) :
    Src g (fun _ => True) (Itt g.K a) ws (fun r _ H => (a ∉ r ∧ ∃ xs, H a = some (.tup xs) ∧ RVs g.K r H ws xs) ∨ ∃ xs, KTup g.K a xs ∧ RVs g.K r H ws xs) := by
  have sq : ∀ (r : List Addr) (h : Hq) (H : Hp), ((a ∉ r ∧ ∃ xs, H a = some (.tup xs) ∧ RVs g.K r H ws xs) ∨ ∃ xs, KTup g.K a xs ∧ RVs g.K r H ws xs) → ∃ xs, SqT g.K H a xs ∧ RVs g.K r H ws xs := fun r h H o => by
    rcases o with ⟨_, xs, q, z⟩ | ⟨xs, q, z⟩
    · exact ⟨xs, SqT.of q, z⟩
    · exact ⟨xs, .inr q, z⟩
  refine ⟨fun i r h H hi R o => ?_, fun r h H R o => ?_, fun i r h H x H' hi R o y => ?_, fun r h H r' h' H' o G _ => ?_⟩
  · obtain ⟨xs, q, z⟩ := sq r h H o
    obtain ⟨v, e1, _⟩ := z.get (List.getElem?_eq_getElem hi)
    exact ⟨xs, v, q, e1⟩
  · obtain ⟨xs, q, z⟩ := sq r h H o
    exact ⟨xs, q, by rw [z.len]; exact Nat.le_refl _⟩
  · obtain ⟨xs, q, z⟩ := sq r h H o
    obtain ⟨e, y⟩ := y
    subst e
    obtain ⟨v, e1, e2⟩ := z.get (List.getElem?_eq_getElem hi)
    have e3 := y xs q
    rw [e1] at e3
    cases e3
    exact ⟨_, List.getElem?_eq_getElem hi, Gro.refl, R, e2⟩
  · rcases o with ⟨na, xs, q, z⟩ | ⟨xs, q, z⟩
    · exact .inl ⟨G.notin na q, xs, G.old _ _ na q, RVs.gro G _ _ z⟩
    · exact .inr ⟨xs, q, RVs.gro G _ _ z⟩
/-- a list that may be written, as long as it is not -/
def isL (n : Nat) (l : List W) (h : Hq) : Prop := h[n]? = some (.lst l)
theorem src_cell {a : Addr} {ws : List W} {n : Nat} : Src g (isL n ws) (Itl g.K a) ws (fun r h _ => r[n]? = some a ∧ isL n ws h) := by
  have sq : ∀ (r : List Addr) (h : Hq) (H : Hp), Rep g r h H → (r[n]? = some a ∧ isL n ws h) → ∃ xs, SqL g.K H a xs ∧ RVs g.K r H ws xs := fun r h H R o => by
    obtain ⟨a', ob, e1, e2, vs, e3, rc⟩ := R.at_ n _ o.2
    rw [o.1] at e1
    cases e1
    subst e3
    exact ⟨vs, SqL.of e2, rc⟩
  refine ⟨fun i r h H hi R o => ?_, fun r h H R o => ?_, fun i r h H x H' hi R o y => ?_, fun r h H r' h' H' o G hc => ⟨G.at_ o.1, hc⟩⟩
  · obtain ⟨xs, q, z⟩ := sq r h H R o
    obtain ⟨v, e1, _⟩ := z.get (List.getElem?_eq_getElem hi)
    exact ⟨xs, v, q, e1⟩
  · obtain ⟨xs, q, z⟩ := sq r h H R o
    exact ⟨xs, q, by rw [z.len]; exact Nat.le_refl _⟩
  · obtain ⟨xs, q, z⟩ := sq r h H R o
    obtain ⟨e, y⟩ := y
    subst e
    obtain ⟨v, e1, e2⟩ := z.get (List.getElem?_eq_getElem hi)
    have e3 := y xs q
    rw [e1] at e3
    cases e3
    exact ⟨_, List.getElem?_eq_getElem hi, Gro.refl, R, e2⟩
/-- a way to walk something: the items and what is asked ahead of each turn -/
structure Itm where
  ws : List W
  chk : Hq → Prop
def itmOf (w : W) (h : Hq) : Option Itm := match w with
  | .tup l => some ⟨l, fun _ => True⟩
  | .ktup l => some ⟨l, fun _ => True⟩
  | .rol l => some ⟨l, fun _ => True⟩
  | .lst l => some ⟨l, fun _ => True⟩
  | .cell n => match h[n]? with
    | some (.lst l) => some ⟨l, isL n l⟩
    | _ => none
  | _ => none
/-- the reading of an iterable: list or tuple -/
def iSeq (K : PySem.W.Frag) (tl : TE) : TI := fun σ H R => tl σ H fun x H1 => (∃ a, x = .ref a ∧ (∃ xs, SqL K H1 a xs) ∧ R (Itl K a) H1) ∨ ∃ a, x = .ref a ∧ (∃ xs, SqT K H1 a xs) ∧ R (Itt K a) H1
theorem pi_seq {tl : TE} (hl : PE X e tl) : PI X tg e (iSeq X.K tl) := ⟨fun pins s σ H R I h => by
  refine thn (hl.run pins s σ H _ I h) fun v s1 ⟨x, H1, I1, r1, q⟩ => ?_
  rcases q with q | q
  · obtain ⟨a, ex, ⟨xs, hq⟩, q⟩ := q
    subst ex
    cases r1
    obtain ⟨its, rv, p, hz⟩ := I1.list hq
    refine wpAny_pyIter_list p.isList ?_
    refine ⟨s1.heap.objs.size, [s1.heap.objs.size], _, _, H1, rfl, I1.kept (t' := s1.toks) fun b o e => Heap.get?_push_of_some _ e, turn_list a _, ⟨_, Heap.get?_push_size _ rfl, rfl, rfl⟩, fun b hb => ?_, q⟩
    have eb : b = s1.heap.objs.size := by simpa using hb
    subst eb
    exact I1.fpOk (Nat.le_refl _) (I1.hok.fresh (Nat.le_refl _))
  · obtain ⟨a, ex, ⟨xs, hq⟩, q⟩ := q
    subst ex
    cases r1
    obtain ⟨its, rv, p, hz⟩ := I1.tuple hq
    refine wpAny_pyIter_tuple (show s1.heap.IsTuple a its.toArray from p) ?_
    refine ⟨s1.heap.objs.size, [s1.heap.objs.size], _, _, H1, rfl, I1.kept (t' := s1.toks) fun b o e => Heap.get?_push_of_some _ e, turn_tuple a _, ⟨_, Heap.get?_push_size _ rfl, rfl, rfl⟩, fun b hb => ?_, q⟩
    have eb : b = s1.heap.objs.size := by simpa using hb
    subst eb
    exact I1.fpOk (Nat.le_refl _) (I1.hok.fresh (Nat.le_refl _))⟩
/-- what an iterable's walk gives: R for some source with these items -/
theorem iSeq_at {r : List Addr} {h : Hq} {H : Hp} {w : W} {v : V} {im : Itm} {R : It → Hp → Prop} (Rp : Rep g r h H) (q : RV g.K r H w v) (e : itmOf w h = some im)
    (x : ∀ J ok, Src g im.chk J im.ws ok → ok r h H → R J H) : (∃ a, v = .ref a ∧ (∃ xs, SqL g.K H a xs) ∧ R (Itl g.K a) H) ∨ ∃ a, v = .ref a ∧ (∃ xs, SqT g.K H a xs) ∧ R (Itt g.K a) H := by
  cases w with
  | tup l =>
    simp only [itmOf, Option.some.injEq] at e; subst e
    simp only [RV] at q
    obtain ⟨p, vs, rfl, ⟨na, hp⟩, q⟩ := q
    have o : (p ∉ r ∧ ∃ xs, H p = some (.tup xs) ∧ RVs g.K r H l xs) ∨ ∃ xs, KTup g.K p xs ∧ RVs g.K r H l xs := .inl ⟨na, vs, hp, q⟩
    exact .inr ⟨p, rfl, ⟨vs, SqT.of hp⟩, x _ _ (src_tup o) o⟩
  | ktup l =>
    simp only [itmOf, Option.some.injEq] at e; subst e
    simp only [RV] at q
    obtain ⟨p, vs, rfl, hp, q⟩ := q
    have o : (p ∉ r ∧ ∃ xs, H p = some (.tup xs) ∧ RVs g.K r H l xs) ∨ ∃ xs, KTup g.K p xs ∧ RVs g.K r H l xs := .inr ⟨vs, hp, q⟩
    exact .inr ⟨p, rfl, ⟨vs, .inr hp⟩, x _ _ (src_tup o) o⟩
  | rol l =>
    simp only [itmOf, Option.some.injEq] at e; subst e
    simp only [RV] at q
    obtain ⟨p, vs, rfl, hp, q⟩ := q
    have o : (p ∉ r ∧ ∃ xs, Rd H p (.lst xs) ∧ RVs g.K r H l xs) ∨ ∃ xs, KLst g.K p xs ∧ RVs g.K r H l xs := by
      rcases hp with ⟨na, hp⟩ | hp
      · exact .inl ⟨na, vs, hp, q⟩
      · exact .inr ⟨vs, hp, q⟩
    refine .inl ⟨p, rfl, ⟨vs, ?_⟩, x _ _ (src_lst o) o⟩
    rcases hp with ⟨_, hp⟩ | hp
    · exact .inl hp
    · exact .inr hp
  | lst l =>
    simp only [itmOf, Option.some.injEq] at e; subst e
    simp only [RV] at q
    obtain ⟨p, vs, rfl, ⟨na, hp⟩, q⟩ := q
    have o : (p ∉ r ∧ ∃ xs, Rd H p (.lst xs) ∧ RVs g.K r H l xs) ∨ ∃ xs, KLst g.K p xs ∧ RVs g.K r H l xs := .inl ⟨na, vs, .inl hp, q⟩
    exact .inl ⟨p, rfl, ⟨vs, SqL.of hp⟩, x _ _ (src_lst o) o⟩
  | cell n =>
    simp only [itmOf] at e
    cases ec : h[n]? with
    | none => rw [ec] at e; cases e
    | some d =>
      rw [ec] at e
      obtain ⟨p, o, rfl, er, hp, rc⟩ := cell_at Rp q ec
      cases d with
      | lst l =>
        obtain ⟨vs, rfl, q'⟩ := rc
        cases e
        exact .inl ⟨p, rfl, ⟨vs, SqL.of hp⟩, x _ _ src_cell ⟨er, ec⟩⟩
      | _ => cases e
  | _ => simp only [itmOf] at e; cases e
/-- for x in row -/
noncomputable def sForQ (m : M) (mt : TgM) (s : MS) : MS := fun L h => (m L h).thn L fun w h1 => match itmOf w h1 with
  | some im => loopX im.chk mt s im.ws L h1
  | none => .bad
theorem forQ_ok (hk : Kx X g Wx) (hp : PassesOwn (model X.prog X.w) X.A X.env X.xe) (ha : PEM X g Wx e m) (hg : PGM X g tg mt) (hb : PSsM X g Wx sts s1) (hf : ∀ x, foldedSetIterable e X.env x = pure x := by intro _; rfl) (hc : X.calm = true := by rfl) :
    PSM X g Wx (.For tg e sts [] pos) (sForQ m mt s1) :=
  ps_imp (ps_for hp hc (pi_seq ha) hg hb hf) fun D σ H ⟨r, h, L, A, q⟩ => by
    obtain ⟨r0, h0, L0, A0, q0⟩ := tS_step (ma := m) A q
    refine ⟨r0, h0, L0, A0, q0.imp fun v H1 ⟨r1, h1, w, A1, G1, x1, q1⟩ => ?_⟩
    split at q1
    · rename_i im ei
      rw [hk.hK]
      exact iSeq_at (R := ForR (tG g mt) (tS g Wx s1) D σ) A1.rep x1 ei fun J ok S o => loopX_run S A1 o q1
    · exact q1.elim

/-! ### dicts -/
/-- how a dict is walked -/
inductive DKd where
  | keys | vals | items
def dItems (kd : DKd) (l : List (W × W)) : List W := match kd with
  | .keys => l.map (·.1)
  | .vals => l.map (·.2)
  | .items => l.map fun p => .tup [p.1, p.2]
/-- the lock's end -/
def unlk (n : Nat) (x : Rf) : Rf := match x with
  | .nx L h => (match h[n]? with
    | some (.dk true l) => .nx L (h.set n (.dk false l))
    | _ => .bad)
  | .rt w h => (match h[n]? with
    | some (.dk true l) => .rt w (h.set n (.dk false l))
    | _ => .bad)
  | .ex c fs L h => .ex c fs L h
  | _ => .bad
def sForD (kd : DKd) (m : M) (mt : TgM) (s : MS) : MS := fun L h => match m L h with
  | .ok (.cell n) _ => (match h[n]? with
    | some (.dk false l) => unlk n ((m L (h.set n (.dk true l))).thn L fun w h1 => match w with
      | .cell n' => if n' = n then loopW mt s (dItems kd l) L h1 else .bad
      | _ => .bad)
    | _ => .bad)
  | _ => .bad
theorem dItems_get {kd : DKd} {l : List (W × W)} {i : Nat} {w : W} (e : (dItems kd l)[i]? = some w) : ∃ p, l[i]? = some p := by
  cases kd <;> simp only [dItems, List.getElem?_map, Option.map_eq_some_iff] at e <;> (obtain ⟨p, h1, _⟩ := e; exact ⟨p, h1⟩)
theorem dItems_len {kd : DKd} {l : List (W × W)} : (dItems kd l).length = l.length := by cases kd <;> simp [dItems]
theorem RKs.getI {κ : Type} {f : W → Option κ} {K : PySem.W.Frag} {r : List Addr} {H : Hp} : ∀ {l : List (W × W)} {kvs : List (κ × V)} {i : Nat} {p : W × W}, RKs f K r H l kvs → l[i]? = some p → ∃ k v, kvs[i]? = some (k, v) ∧ f p.1 = some k ∧ RV K r H p.2 v
  | [], kvs, i, p, _, e => by simp at e
  | q :: l, kvs, 0, p, h, e => by
    simp only [RKs] at h
    obtain ⟨k, v, t, rfl, h1, h2, _⟩ := h
    simp at e; subst e
    exact ⟨k, v, rfl, h1, h2⟩
  | q :: l, kvs, i + 1, p, h, e => by
    simp only [RKs] at h
    obtain ⟨k, v, t, rfl, _, _, h3⟩ := h
    obtain ⟨k', v', e1, e2, e3⟩ := RKs.getI (i := i) h3 (by simpa using e)
    exact ⟨k', v', by simpa using e1, e2, e3⟩
theorem keyOf_RV {K : PySem.W.Frag} {r : List Addr} {H : Hp} {w : W} {k : Key} (e : keyOf w = some k) : RV K r H w (kV k) := by
  cases w with
  | int i => simp only [keyOf, Option.some.injEq] at e; subst e; simp only [RV]; rfl
  | str s => simp only [keyOf, Option.some.injEq] at e; subst e; simp only [RV]; rfl
  | _ => simp only [keyOf] at e; cases e
/-- a locked dict's walks -/
def DOk (g : Gm) (d : Addr) (ob : Obj) (l : List (W × W)) (r : List Addr) (H : Hp) : Prop := ∃ kvs : List (Key × V), H d = some (.frz ob (.dK kvs)) ∧ RKs keyOf g.K r H l kvs
theorem src_keys {d : Addr} {ob : Obj} {l : List (W × W)} {kvs : List (Key × V)} : Src g (fun _ => True) (Itk d ob kvs) (dItems .keys l) (fun r _ H => H d = some (.frz ob (.dK kvs)) ∧ RKs keyOf g.K r H l kvs) := by
  refine ⟨fun i r h H hi R o => ⟨o.1, by rw [← o.2.len, ← dItems_len (kd := .keys)]; exact hi⟩, fun r h H R o => ⟨o.1, by rw [← o.2.len, dItems_len]; exact Nat.le_refl _⟩, fun i r h H x H' hi R o y => ?_, fun r h H r' h' H' o G _ => ⟨G.frz _ _ _ o.1, RKs.gro G o.2⟩⟩
  obtain ⟨rfl, k, v, e1, rfl⟩ := y
  rw [dItems_len] at hi
  obtain ⟨k', v', e2, e3, e4⟩ := o.2.getI (List.getElem?_eq_getElem hi)
  rw [e1] at e2; cases e2
  exact ⟨l[i].1, by simp [dItems, List.getElem?_eq_getElem hi], Gro.refl, R, keyOf_RV e3⟩
theorem src_vals {d : Addr} {ob : Obj} {l : List (W × W)} {kvs : List (Key × V)} : Src g (fun _ => True) (Itd d ob kvs) (dItems .vals l) (fun r _ H => H d = some (.frz ob (.dK kvs)) ∧ RKs keyOf g.K r H l kvs) := by
  refine ⟨fun i r h H hi R o => ⟨o.1, by rw [← o.2.len, ← dItems_len (kd := .vals)]; exact hi⟩, fun r h H R o => ⟨o.1, by rw [← o.2.len, dItems_len]; exact Nat.le_refl _⟩, fun i r h H x H' hi R o y => ?_, fun r h H r' h' H' o G _ => ⟨G.frz _ _ _ o.1, RKs.gro G o.2⟩⟩
  obtain ⟨rfl, k, e1⟩ := y
  rw [dItems_len] at hi
  obtain ⟨k', v', e2, e3, e4⟩ := o.2.getI (List.getElem?_eq_getElem hi)
  rw [e1] at e2; cases e2
  exact ⟨l[i].2, by simp [dItems, List.getElem?_eq_getElem hi], Gro.refl, R, e4⟩
theorem src_items {d : Addr} {ob : Obj} {l : List (W × W)} {kvs : List (Key × V)} : Src g (fun _ => True) (Iti d ob kvs) (dItems .items l) (fun r _ H => H d = some (.frz ob (.dK kvs)) ∧ RKs keyOf g.K r H l kvs) := by
  refine ⟨fun i r h H hi R o => ⟨o.1, by rw [← o.2.len, ← dItems_len (kd := .items)]; exact hi⟩, fun r h H R o => ⟨o.1, by rw [← o.2.len, dItems_len]; exact Nat.le_refl _⟩, fun i r h H x H' hi R o y => ?_, fun r h H r' h' H' o G _ => ⟨G.frz _ _ _ o.1, RKs.gro G o.2⟩⟩
  obtain ⟨T, k, v, e1, rfl, hT, rfl⟩ := y
  rw [dItems_len] at hi
  obtain ⟨k', v', e2, e3, e4⟩ := o.2.getI (List.getElem?_eq_getElem hi)
  rw [e1] at e2; cases e2
  refine ⟨.tup [l[i].1, l[i].2], by simp [dItems, List.getElem?_eq_getElem hi], Gro.upd hT, R.upd hT, ?_⟩
  simp only [RV]
  exact ⟨T, _, rfl, ⟨R.fresh hT, upd_same⟩, .cons (keyOf_RV e3) (.cons (RV.gro (Gro.upd hT) _ _ e4) .nil)⟩
/-- the iterables' readings -/
def DIt (kd : DKd) (d : Addr) (ob : Obj) (kvs : List (Key × V)) : It := match kd with
  | .keys => Itk d ob kvs
  | .vals => Itd d ob kvs
  | .items => Iti d ob kvs
theorem src_d {kd : DKd} {d : Addr} {ob : Obj} {l : List (W × W)} {kvs : List (Key × V)} : Src g (fun _ => True) (DIt kd d ob kvs) (dItems kd l) (fun r _ H => H d = some (.frz ob (.dK kvs)) ∧ RKs keyOf g.K r H l kvs) := by
  cases kd
  · exact src_keys
  · exact src_vals
  · exact src_items
def iDk (kd : DKd) (td : TE) : TI := fun σ H R => td σ H fun x H1 => ∃ d o kvs, x = .ref d ∧ H1 d = some (.frz o (.dK kvs)) ∧ R (DIt kd d o kvs) H1
theorem tM_mono {σ : Sl} {H : Hp} {Q Q' : VK} (h : tM g Wx m σ H Q) (i : ∀ v H', Q v H' → Q' v H') : tM g Wx m σ H Q' := by
  obtain ⟨r, hq, L, A, q⟩ := h
  exact ⟨r, hq, L, A, q.imp i⟩
/-- an expression that walks a dict -/
structure PID (X : Cx) (g : Gm) (Wx : WX) (tg it e : Expr) (kd : DKd) : Prop where
  ok : ∀ m, PEM X g Wx e m → PI X tg it (iDk kd (tM g Wx m))
theorem pid_keys : PID X g Wx tg e e .keys := ⟨fun m he => ⟨fun pins s σ H R I h =>
  (pi_keys he).run pins s σ H R I (tM_mono h fun v H' ⟨d, o, kvs, e1, e2, q⟩ => ⟨d, o, e1, .inl ⟨kvs, e2, q⟩⟩)⟩⟩
theorem pid_vals (hbase : attributeBase e "values" X.env (eval e X.env) = eval e X.env := by rfl) (hline : (apos.endLine == cpos.line) = true := by rfl) : PID X g Wx tg (.Call (.Attribute e "values" apos) [] [] cpos) e .vals := ⟨fun m he => pi_values he hbase hline⟩
theorem pid_items {elts : List Expr} {kk : Nat} {tpos : Pos} (hbase : attributeBase e "items" X.env (eval e X.env) = eval e X.env := by rfl) (hline : (apos.endLine == cpos.line) = true := by rfl) : PID X g Wx (.Tuple elts kk tpos) (.Call (.Attribute e "items" apos) [] [] cpos) e .items := ⟨fun m he => pi_items he hbase hline⟩
/-- a dict locked in the heap of cells -/
theorem lock_at {r : List Addr} {h : Hq} {H : Hp} {n : Nat} {a : Addr} {l : List (W × W)} {kvs : List (Key × V)} (R : Rep g r h H) (er : r[n]? = some a) (hp : H a = some (.dK kvs)) (rc : RKs keyOf g.K r H l kvs) (od : Obj) :
    Gro r H r (upd H a (.frz od (.dK kvs))) ∧ Rep g r (h.set n (.dk true l)) (upd H a (.frz od (.dK kvs))) := by
  have gr : Gro r H r (upd H a (.frz od (.dK kvs))) := Gro.write R er hp (fun b x y => by cases y)
  exact ⟨gr, R.write er hp (fun b x y => by cases y) ⟨kvs, ⟨od, rfl⟩, RKs.gro gr rc⟩⟩
/-- .. and let go -/
theorem unlock_at {r0 r : List Addr} {h : Hq} {H0 H : Hp} {n : Nat} {a : Addr} {l : List (W × W)} {kvs : List (Key × V)} {od : Obj} (R0n : r0[n]? = some a) (e0 : H0 a = some (.dK kvs)) (G : Gro r0 (upd H0 a (.frz od (.dK kvs))) r H) (R : Rep g r h H) (ec : h[n]? = some (.dk true l)) :
    H a = some (.frz od (.dK kvs)) ∧ Gro r0 H0 r (upd H a (.dK kvs)) ∧ Rep g r (h.set n (.dk false l)) (upd H a (.dK kvs)) ∧ (∀ (K : PySem.W.Frag) (w : W) (v : V), RV K r H w v → RV K r (upd H a (.dK kvs)) w v) := by
  have ea : H a = some (.frz od (.dK kvs)) := G.frz _ _ _ upd_same
  have ern : r[n]? = some a := G.at_ R0n
  have ma : a ∈ r := List.mem_of_getElem? ern
  have ma0 : a ∈ r0 := List.mem_of_getElem? R0n
  obtain ⟨a', o, e1, e2, kvs', lo, rc⟩ := R.at_ n _ ec
  rw [ern] at e1; cases e1
  rw [ea] at e2; cases e2
  obtain ⟨ob, eo⟩ : ∃ ob, HO.frz od (.dK kvs) = .frz ob (.dK kvs') := lo
  cases eo
  -- values stand: nothing of them is told by a
  have gv : ∀ b x, b ∉ r → H b = some x → (upd H a (.dK kvs)) b = some x := fun b x hb e => by rw [upd_ne (fun z => hb (by rw [z]; exact ma))]; exact e
  have g0 : Gro0 r H r (upd H a (.dK kvs)) := ⟨⟨[], by simp⟩, gv, fun _ z => .inl z⟩
  have rv : ∀ (K : PySem.W.Frag) (w : W) (v : V), RV K r H w v → RV K r (upd H a (.dK kvs)) w v := fun K w v q => RV.gro0 g0 w v q
  have rk : RKs keyOf g.K r (upd H a (.dK kvs)) l kvs := RKs.gro0 g0 rc
  refine ⟨ea, ⟨G.pre, fun b x hb e => ?_, fun b hb => ?_, fun b x u e => ?_⟩, ⟨R.nd, by simp [R.len], fun m d e => ?_⟩, rv⟩
  · have hne : b ≠ a := fun z => hb (by rw [z]; exact ma0)
    rw [upd_ne hne]
    exact G.old b x hb (by rw [upd_ne hne]; exact e)
  · rcases G.new b hb with z | z
    · exact .inl z
    · by_cases hba : b = a
      · rw [hba]; exact .inl ma0
      · rw [upd_ne hba] at z; exact .inr z
  · have hne : b ≠ a := fun z => by rw [z, e0] at e; cases e
    rw [upd_ne hne]
    exact G.frz b x u (by rw [upd_ne hne]; exact e)
  · have hm : m < h.length := by
      have := (List.getElem?_eq_some_iff.mp e).1
      simpa using this
    by_cases hmn : m = n
    · subst hmn
      rw [List.getElem?_set_self hm] at e
      cases e
      exact ⟨a, _, ern, upd_same, kvs, rfl, rk⟩
    · rw [List.getElem?_set_ne (Ne.symm hmn)] at e
      obtain ⟨b, x, e3, e4, q'⟩ := R.at_ m d e
      have hb : b ≠ a := fun z => hmn (nodup_at R.nd e3 (z ▸ ern))
      exact ⟨b, x, e3, by rw [upd_ne hb]; exact e4, RC.gro0 g0 q'⟩
/-- the end of a locked statement -/
theorem unlk_at {r0 : List Addr} {H0 : Hp} {n : Nat} {a : Addr} {kvs : List (Key × V)} {od : Obj} {D : Ends} {x : Rf} (R0n : r0[n]? = some a) (e0 : H0 a = some (.dK kvs)) (q : AftS g Wx (unlk n x) r0 H0 D) :
    AftS g Wx x r0 (upd H0 a (.frz od (.dK kvs))) ⟨fun σ' H' => H' a = some (.frz od (.dK kvs)) ∧ D.nx σ' (upd H' a (.dK kvs)), fun v H' => H' a = some (.frz od (.dK kvs)) ∧ D.rt v (upd H' a (.dK kvs)), fun σ' H' => H' a = some (.frz od (.dK kvs)) ∧ D.bk σ' (upd H' a (.dK kvs)), fun σ' H' => H' a = some (.frz od (.dK kvs)) ∧ D.ct σ' (upd H' a (.dK kvs))⟩ := by
  cases x with
  | nx L h =>
    unfold unlk at q
    simp only at q
    split at q
    · rename_i l ec
      intro r' H' σ' G A
      obtain ⟨u1, u2, u3, u4⟩ := unlock_at R0n e0 G A.rep ec
      exact ⟨u1, q r' _ σ' u2 ⟨u3, ⟨A.loc.len, fun i w e => by
        obtain ⟨v, e1, e2⟩ := A.loc.at_ i w e
        exact ⟨v, e1, u4 _ _ _ e2⟩⟩, A.px, A.sx⟩⟩
    · exact q.elim
  | rt w h =>
    unfold unlk at q
    simp only at q
    split at q
    · rename_i l ec
      intro r' H' v G R qv
      obtain ⟨u1, u2, u3, u4⟩ := unlock_at R0n e0 G R ec
      exact ⟨u1, q r' _ v u2 u3 (u4 _ _ _ qv)⟩
    · exact q.elim
  | ex c fs L h =>
    intro r' H' σ' cls d G A qx
    have ma0 : a ∈ r0 := List.mem_of_getElem? R0n
    refine q r' H' σ' cls d ⟨G.pre, fun b x hb e => ?_, fun b hb => ?_, fun b x u e => ?_⟩ A qx
    · have hne : b ≠ a := fun z => hb (by rw [z]; exact ma0)
      exact G.old b x hb (by rw [upd_ne hne]; exact e)
    · rcases G.new b hb with z | z
      · exact .inl z
      · by_cases hba : b = a
        · rw [hba]; exact .inl ma0
        · rw [upd_ne hba] at z; exact .inr z
    · have hne : b ≠ a := fun z => by rw [z, e0] at e; cases e
      exact G.frz b x u (by rw [upd_ne hne]; exact e)
  | bk L h => exact q.elim
  | ct L h => exact q.elim
  | bad => exact q.elim
theorem forD_ok {it : Expr} {kd : DKd} (hk : Kx X g Wx) (hp : PassesOwn (model X.prog X.w) X.A X.env X.xe) (pd : PID X g Wx tg it e kd) (ha : PEM X g Wx e m) (hg : PGM X g tg mt) (hb : PSsM X g Wx sts s1) (hf : ∀ x, foldedSetIterable it X.env x = pure x := by intro _; rfl) (hc : X.calm = true := by rfl) :
    PSM X g Wx (.For tg it sts [] pos) (sForD kd m mt s1) :=
  ps_imp (ps_lock (ps_for hp hc (pd.ok m ha) hg hb hf)) fun D σ H ⟨r, h, L, A, q⟩ => by
    unfold sForD at q
    split at q
    · rename_i n h' em
      split at q
      · rename_i l ec
        obtain ⟨a, o, er, hp', kvs, lo, rc⟩ := A.rep.at_ n _ ec
        have lo : o = .dK kvs := lo
        subst lo
        refine ⟨a, .dK kvs, hp', trivial, fun od => ?_⟩
        obtain ⟨G1, R1⟩ := lock_at A.rep er hp' rc od
        have A1 : At g r (h.set n (.dk true l)) (upd H a (.frz od (.dK kvs))) L σ := A.gro G1 R1
        have q1 := unlk_at (od := od) er hp' q
        obtain ⟨r0, h0, L0, A0, q0⟩ := tS_step (ma := m) A1 q1
        refine ⟨r0, h0, L0, A0, q0.imp fun v H1 ⟨r1, h1, w, A2, G2, x2, q2⟩ => ?_⟩
        split at q2
        · rename_i n'
          split at q2
          · rename_i hn
            subst hn
            simp only [RV] at x2
            obtain ⟨p, rfl, ep⟩ := x2
            have ep2 := G2.at_ er
            rw [ep] at ep2
            cases ep2
            have e3 := G2.frz _ _ _ (show (upd H a (.frz od (.dK kvs))) a = some (.frz od (.dK kvs)) from upd_same)
            refine ⟨a, od, kvs, rfl, e3, ?_⟩
            rw [← loopX_true] at q2
            exact loopX_run src_d A2 ⟨e3, RKs.gro G2 (RKs.gro G1 rc)⟩ q2
          · exact q2.elim
        · exact q2.elim
      · exact q.elim
    · exact q.elim

/-! ### [e for x in it if c] -/
/-- a target within a comprehension: it sets the block's own names alone -/
def tGv (g : Gm) (vs : List Nat) (mt : TgM) : TG := fun v σ H Q => ∃ (r : List Addr) (h : Hq) (L : Loc) (w : W), At g r h H L σ ∧ RV g.K r H w v ∧ match mt w L h with
  | .nx L' h' => ∀ (r' : List Addr) (H' : Hp) (σ' : Sl), Gro r H r' H' → At g r' h' H' L' σ' → wipe σ' vs = wipe σ vs → Q σ' H'
  | _ => False
abbrev PGV (X : Cx) (g : Gm) (vs : List Nat) (tg : Expr) (mt : TgM) : Prop := PG X tg (tGv g vs mt)
theorem wipe_set {σ : Sl} {v : Option V} {i : Nat} : ∀ {vs : List Nat}, i ∈ vs → wipe (σ.set i v) vs = wipe σ vs
  | [], h => by cases h
  | j :: vs, h => by
    unfold wipe
    by_cases hij : i = j
    · subst hij
      by_cases hm : i ∈ vs
      · rw [wipe_set hm]
      · have : ∀ vs : List Nat, i ∉ vs → wipe (σ.set i v) vs = (wipe σ vs).set i v := fun vs => by
          induction vs with
          | nil => intro _; rfl
          | cons z t ih =>
            intro hz
            unfold wipe
            rw [ih (fun q => hz (by simp [q])), List.set_comm _ _ (fun q => hz (by simp [q]))]
        rw [this vs hm, List.set_set]
    · have hm : i ∈ vs := by
        rcases List.mem_cons.mp h with z | z
        · exact absurd z hij
        · exact z
      rw [wipe_set hm]
theorem wipe_idem {σ : Sl} : ∀ {vs : List Nat}, wipe (wipe σ vs) vs = wipe σ vs
  | [] => rfl
  | v :: vs => by
    show (wipe ((wipe σ vs).set v none) vs).set v none = (wipe σ vs).set v none
    by_cases hm : v ∈ vs
    · rw [wipe_set hm, wipe_idem]
    · have comm : ∀ us : List Nat, v ∉ us → ∀ τ : Sl, wipe (τ.set v none) us = (wipe τ us).set v none := fun us => by
        induction us with
        | nil => intro _ _; rfl
        | cons z t ih =>
          intro hz τ
          unfold wipe
          rw [ih (fun q => hz (by simp [q])), List.set_comm _ _ (fun q => hz (by simp [q]))]
      rw [comm vs hm, wipe_idem, List.set_set]
theorem vN_ok {vs : List Nat} {i : Nat} {x : Str} (hN : X.N.Nodup) (hi : X.N[i]? = some x) (hx : L2.Loc X.env.scope x) (hv : i ∈ vs) (hf : X.fn x = true ∨ X.env.scope.names.lookup x = some .local) : PGV X g vs (.Name x pos) (tgN i) :=
  pg_imp (pg_name hN hi hx hf) fun v σ H Q ⟨r, h, L, w, A, q, x⟩ => x r H _ Gro.refl (A.set i q) (wipe_set hv)
def tGvs (g : Gm) (vs : List Nat) (mt : List W → Loc → Hq → Rf) : TGs := fun us σ H Q => ∃ (r : List Addr) (h : Hq) (L : Loc) (ws : List W), At g r h H L σ ∧ RVs g.K r H ws us ∧ match mt ws L h with
  | .nx L' h' => ∀ (r' : List Addr) (H' : Hp) (σ' : Sl), Gro r H r' H' → At g r' h' H' L' σ' → wipe σ' vs = wipe σ vs → Q σ' H'
  | _ => False
theorem vsNil_ok {vs : List Nat} : PGs X [] (tGvs g vs tgsNil) := pgs_imp pgs_nil fun us σ H Q ⟨r, h, L, ws, A, q, x⟩ => by
  cases ws with
  | nil => exact ⟨q.inv0, x r H σ Gro.refl A rfl⟩
  | cons w t => exact x.elim
theorem vsCons_ok {vs : List Nat} {t : TgM} {ts : List W → Loc → Hq → Rf} (h1 : PGV X g vs a t) (h2 : PGs X es (tGvs g vs ts)) (hs : (assignEach (a :: es) X.env).map (·.2) = assign a X.env :: (assignEach es X.env).map (·.2) := by rfl) : PGs X (a :: es) (tGvs g vs (tgsCons t ts)) :=
  pgs_imp (pgs_cons h1 h2 hs) fun us σ H Q ⟨r, h, L, ws, A, q, x⟩ => by
    cases ws with
    | nil => exact x.elim
    | cons w tl =>
      obtain ⟨v, vt, rfl, q1, q2⟩ := q.inv
      refine ⟨v, vt, rfl, r, h, L, w, A, q1, ?_⟩
      have e0 : tgsCons t ts (w :: tl) L h = (t w L h).seq fun L1 h1 => ts tl L1 h1 := rfl
      rw [e0] at x
      cases et : t w L h with
      | nx L1 h1 =>
        rw [et] at x
        simp only [Rf.seq_nx] at x
        intro r1 H1 σ1 G A1 ew
        refine ⟨r1, h1, L1, tl, A1, RVs.gro G _ _ q2, ?_⟩
        cases e2 : ts tl L1 h1 with
        | nx L2 h2 => rw [e2] at x; exact fun r2 H2 σ2 G2 A2 ew2 => x r2 H2 σ2 (G.trans G2) A2 (ew2.trans ew)
        | _ => rw [e2] at x; exact x.elim
      | _ => rw [et] at x; exact x.elim
theorem vT_ok {vs : List Nat} {n kk : Nat} {ts : List W → Loc → Hq → Rf} (hk : Kx X g Wx) (h : PGs X es (tGvs g vs ts)) (hn : (assignEach es X.env).length = n := by rfl) (hst : (assignEach es X.env).findIdx? (·.1) = none := by rfl) (hc : X.calm = true := by rfl) : PGV X g vs (.Tuple es kk pos) (tgT n ts) :=
  pg_imp (pg_or (pg_tup hc h hn hst) (pg_lst hc h hn hst)) fun v σ H Q ⟨r, hq, L, w, A, q, x⟩ => by
    have e0 : tgT n ts w L hq = match seqOf w hq with
      | some l => if l.length = n then ts l L hq else .bad
      | none => .bad := rfl
    rw [e0] at x
    cases el : seqOf w hq with
    | none => rw [el] at x; exact x.elim
    | some l =>
      rw [el] at x
      simp only at x
      obtain ⟨p, vs', rfl, sq, rc⟩ := seqOf_tup A.rep q el
      by_cases hl : l.length = n
      · rw [if_pos hl] at x
        rw [hk.hK]
        rcases sq with sq | sq
        · exact .inl ⟨p, vs', rfl, sq, by rw [← rc.len]; exact hl, r, hq, L, l, A, rc, x⟩
        · exact .inr ⟨p, vs', rfl, sq, by rw [← rc.len]; exact hl, r, hq, L, l, A, rc, x⟩
      · rw [if_neg hl] at x; exact x.elim
open Classical in
/-- a comprehension's turns: m the new list's cell -/
noncomputable def cmpH (chk : Hq → Prop) (vs : List Nat) (mt : TgM) (mc me : M) (m : Nat) (L : Loc) : List W → Hq → Option Hq
  | [], h => if chk h then some h else none
  | w :: ws, h => if chk h then (match mt w (wipeL L vs) h with
    | .nx L1 h1 => (match mc L1 h1 with
      | .ok (.bl true) h2 => (match me L1 h2 with
        | .ok y h3 => (match h3[m]? with
          | some (.lst acc) => if acc.length < lineN then cmpH chk vs mt mc me m L ws (h3.set m (.lst (acc ++ [y]))) else none
          | _ => none)
        | _ => none)
      | .ok (.bl false) h2 => cmpH chk vs mt mc me m L ws h2
      | _ => none)
    | _ => none) else none
/-- a test list's reading -/
def mYes : M := fun _ h => .ok (.bl true) h
def ptsNil : PTs X [] (tMT g noWx mYes) := ⟨fun pn s σ H Q I ⟨r, h, L, A, q⟩ => pts_nil.run pn s σ H Q I (by
  obtain ⟨b, e, q⟩ := q.done A.rep (v := .bl true) (by simp only [RV])
  cases e
  exact q)⟩
/-- the clause's parts in any block -/
structure Blk (X : Cx) (g : Gm) (scope : Scope) (vs : List Nat) (tg : Expr) (ifs : List Expr) (elt : Expr) (mt : TgM) (mc me : M) : Prop where
  tg_ : ∀ (s : Shared) (H : Hp) (C : Addr) (cl : List (Str × Addr)) (fp : List Addr), Kx (X.blk s H scope (compEnvC scope cl C X.env) fp) g noWx → PGV (X.blk s H scope (compEnvC scope cl C X.env) fp) g vs tg mt
  if_ : ∀ (s : Shared) (H : Hp) (C : Addr) (cl : List (Str × Addr)) (fp : List Addr), Kx (X.blk s H scope (compEnvC scope cl C X.env) fp) g noWx → PTs (X.blk s H scope (compEnvC scope cl C X.env) fp) ifs (tMT g noWx mc)
  el_ : ∀ (s : Shared) (H : Hp) (C : Addr) (cl : List (Str × Addr)) (fp : List Addr), Kx (X.blk s H scope (compEnvC scope cl C X.env) fp) g noWx → PEM (X.blk s H scope (compEnvC scope cl C X.env) fp) g noWx elt me
theorem Kx.blk (hk : Kx X g Wx) (s : Shared) (H : Hp) (scope : Scope) (ce : Env) (fp : List Addr) : Kx (X.blk s H scope ce fp) g noWx :=
  ⟨hk.hK, hk.nd, hk.un, fun u s' ⟨_, _, _, _, _, _, _, _, _, _, _, _, _, _, _, _, ff⟩ => ff.elim⟩
theorem cmp_run (hsp : g.sp = none) {chk : Hq → Prop} {J : It} {ws : List W} {ok : List Addr → Hq → Hp → Prop} {vs : List Nat} {Q : VK} (S : Src g chk J ws ok) {r : List Addr} {h : Hq} {H : Hp} {L : Loc} {σ : Sl} (A : At g r h H L σ) (o : ok r h H) {D : Addr} (hD : H D = none)
    (x : Aft g Wx σ (match cmpH chk vs mt mc me h.length L ws (h ++ [.lst []]) with | some h' => .ok (.cell h.length) h' | none => .bad) r H Q) :
    ∃ Wv : Nat → Nat → Hp → Prop, (∃ m, Wv 0 m (upd H D (.lst []))) ∧ ∀ i m H, Wv i m H → (J.stop i H ∧ Q (.ref D) H) ∨ (J.go i H ∧ ∃ Nx : Hp → Prop, (∀ H', Nx H' → ∃ m', m' < m ∧ Wv (i + 1) m' H') ∧
      ∀ x H', J.yld i H x H' → tGv g vs mt x (wipe σ vs) H' fun σ2 H2 => wipe σ2 vs = wipe σ vs ∧ tMT g noWx mc σ2 H2 fun b H3 =>
        if b = true then tM g noWx me σ2 H3 fun y H4 => ∃ acc, H4 D = some (.lst acc) ∧ acc.length < sizeLine ∧ Nx (upd H4 D (.lst (acc ++ [y]))) else Nx H3) := by
  have G0 : Gro r H (r ++ [D]) (upd H D (.lst [])) := Gro.cell hD
  have R0 : Rep g (r ++ [D]) (h ++ [.lst []]) (upd H D (.lst [])) := A.rep.cell hD ⟨[], rfl, .nil⟩
  have rD : (r ++ [D])[h.length]? = some D := by rw [← A.rep.len]; simp
  let Fin : List Addr → Hp → Option Hq → Prop := fun r1 H1 z => match z with
    | some h' => ∀ (r' : List Addr) (H' : Hp), Gro r1 H1 r' H' → Rep g r' h' H' → r'[h.length]? = some D → Q (.ref D) H'
    | none => False
  have x0 : Fin (r ++ [D]) (upd H D (.lst [])) (cmpH chk vs mt mc me h.length L ws (h ++ [.lst []])) := by
    cases e : cmpH chk vs mt mc me h.length L ws (h ++ [.lst []]) with
    | none => rw [e] at x; exact x.elim
    | some h' =>
      rw [e] at x
      exact fun r' H' G R' rd => x r' H' _ (G0.trans G) R' (by simp only [RV]; exact ⟨D, rfl, rd⟩)
  have mono : ∀ {r1 r2 : List Addr} {H1 H2 : Hp} {z : Option Hq}, Gro r1 H1 r2 H2 → Fin r1 H1 z → Fin r2 H2 z := fun {r1 r2 H1 H2 z} G f => by
    cases z with
    | none => exact f
    | some h' => exact fun r' H' G' R' rd => f r' H' (G.trans G') R' rd
  refine ⟨fun i m H1 => m = ws.length - i ∧ i ≤ ws.length ∧ ∃ (r1 : List Addr) (h1 : Hq), At g r1 h1 H1 L σ ∧ (chk h1 → ok r1 h1 H1) ∧ r1[h.length]? = some D ∧ Fin r1 H1 (cmpH chk vs mt mc me h.length L (ws.drop i) h1),
    ⟨ws.length, rfl, Nat.zero_le _, r ++ [D], h ++ [.lst []], A.gro G0 R0, fun hc => S.stay r h H _ _ _ o G0 hc, rD, x0⟩, ?_⟩
  rintro i m H1 ⟨rfl, hi, r1, h1, A1, o1, d1, x1⟩
  by_cases hlt : i < ws.length
  · rw [List.drop_eq_getElem_cons hlt] at x1
    unfold cmpH at x1
    by_cases hc : chk h1
    · rw [if_pos hc] at x1
      refine .inr ⟨S.go i r1 h1 H1 hlt A1.rep (o1 hc), fun H' => i + 1 ≤ ws.length ∧ ∃ (r1 : List Addr) (h1 : Hq), At g r1 h1 H' L σ ∧ (chk h1 → ok r1 h1 H') ∧ r1[h.length]? = some D ∧ Fin r1 H' (cmpH chk vs mt mc me h.length L (ws.drop (i + 1)) h1),
        fun H' ⟨q1, q2⟩ => ⟨ws.length - (i + 1), by omega, rfl, q1, q2⟩, fun v H2 y => ?_⟩
      obtain ⟨w, ew, G, R', qv⟩ := S.yld i r1 h1 H1 v H2 hlt A1.rep (o1 hc) y
      rw [List.getElem?_eq_getElem hlt] at ew
      cases ew
      refine ⟨r1, h1, wipeL L vs, ws[i], ⟨R', (A1.loc.gro G).wipe vs, (A1.gro G R').px, fun i a e => by rw [hsp] at e; cases e⟩, qv, ?_⟩
      cases et : mt ws[i] (wipeL L vs) h1 with
      | nx L1 h2 =>
        rw [et] at x1
        simp only at x1
        intro r2 H3 σ2 G2 A2 ew2
        refine ⟨ew2.trans wipe_idem, r2, h2, L1, A2, ?_⟩
        cases em : mc L1 h2 with
        | ok w' h3 =>
          rw [em] at x1
          intro r3 H4 v3 G3 R3 q3
          cases w' with
          | bl b =>
            simp only [RV] at q3
            subst q3
            refine ⟨b, rfl, ?_⟩
            cases b with
            | false =>
              refine iteF ⟨hlt, r3, h3, A1.gro (G.trans (G2.trans G3)) R3, fun hc' => S.stay r1 h1 H1 _ _ _ (o1 hc) (G.trans (G2.trans G3)) hc', G3.at_ (G2.at_ (G.at_ d1)), mono (G.trans (G2.trans G3)) x1⟩
            | true =>
              refine iteT ⟨r3, h3, L1, A2.gro G3 R3, ?_⟩
              simp only at x1
              cases ee : me L1 h3 with
              | ok yw h4 =>
                rw [ee] at x1
                simp only at x1
                intro r4 H5 v4 G4 R4 q4
                split at x1
                · rename_i acc ec
                  have rd : r4[h.length]? = some D := G4.at_ (G3.at_ (G2.at_ (G.at_ d1)))
                  obtain ⟨a', ob, e1, e2, vs', e3, rc⟩ := R4.at_ _ _ ec
                  rw [rd] at e1
                  cases e1
                  subst e3
                  split at x1
                  · rename_i hl
                    obtain ⟨G5, R5⟩ := put_lst R4 rd e2 (rc.app (.cons q4 .nil))
                    have GG := G.trans (G2.trans (G3.trans (G4.trans G5)))
                    exact ⟨vs', e2, by rw [← rc.len, lineN_eq]; exact hl, hlt, r4, _, A1.gro GG R5, fun hc' => S.stay r1 h1 H1 _ _ _ (o1 hc) GG hc', rd, mono GG x1⟩
                  · exact x1.elim
                · exact x1.elim
              | ex c fs h4 => rw [ee] at x1; exact x1.elim
              | bad => rw [ee] at x1; exact x1.elim
          | _ => exact x1.elim
        | ex c fs h3 => rw [em] at x1; exact x1.elim
        | bad => rw [em] at x1; exact x1.elim
      | _ => rw [et] at x1; exact x1.elim
    · rw [if_neg hc] at x1; exact x1.elim
  · have e : i = ws.length := by omega
    subst e
    rw [List.drop_eq_nil_of_le (Nat.le_refl _)] at x1
    unfold cmpH at x1
    by_cases hc : chk h1
    · rw [if_pos hc] at x1
      exact .inl ⟨S.stop r1 h1 H1 A1.rep (o1 hc), x1 r1 H1 Gro.refl A1.rep d1⟩
    · rw [if_neg hc] at x1; exact x1.elim
/-- [elt for tg in row if ..] -/
noncomputable def mLc (vs : List Nat) (mt : TgM) (mc me mi : M) : M := fun L h => (mi L h).bind fun w h1 => match itmOf w h1 with
  | some im => (match cmpH im.chk vs mt mc me h1.length L im.ws (h1 ++ [.lst []]) with
    | some h' => .ok (.cell h1.length) h'
    | none => .bad)
  | none => .bad
/-- what a list comprehension asks of its walk -/
def LcR (gg : TG) (tt : TT) (te : TE) (vs : List Nat) (σ : Sl) (Q : VK) : It → Hp → Prop := fun J H1 => ∀ D, H1 D = none → ∃ W : Nat → Nat → Hp → Prop, (∃ m, W 0 m (upd H1 D (.lst []))) ∧ ∀ i m H, W i m H → (J.stop i H ∧ Q (.ref D) H) ∨ (J.go i H ∧ ∃ Nx : Hp → Prop, (∀ H', Nx H' → ∃ m', m' < m ∧ W (i + 1) m' H') ∧
  ∀ x H', J.yld i H x H' → gg x (wipe σ vs) H' fun σ2 H2 => wipe σ2 vs = wipe σ vs ∧ tt σ2 H2 fun b H3 => if b = true then te σ2 H3 fun y H4 => ∃ acc, H4 D = some (.lst acc) ∧ acc.length < sizeLine ∧ Nx (upd H4 D (.lst (acc ++ [y]))) else Nx H3)
theorem lc_imp {mi : M} {vs : List Nat} (hk : Kx X g Wx) (hsp : g.sp = none) : ∀ σ H Q, tM g Wx (mLc vs mt mc me mi) σ H Q → tLc (iSeq X.K (tM g Wx mi)) (tGv g vs mt) (tMT g noWx mc) (tM g noWx me) vs σ H Q := fun σ H Q ⟨r, h, L, A, q⟩ => by
  obtain ⟨r0, h0, L0, A0, q0⟩ := tM_step (ma := mi) A q
  refine ⟨r0, h0, L0, A0, q0.imp fun v H1 ⟨r1, h1, w, A1, G1, x1, q1⟩ => ?_⟩
  cases ei : itmOf w h1 with
  | none => rw [ei] at q1; exact q1.elim
  | some im =>
    rw [ei] at q1
    rw [hk.hK]
    exact iSeq_at (R := LcR (tGv g vs mt) (tMT g noWx mc) (tM g noWx me) vs σ Q) A1.rep x1 ei fun J ok' S o D hD => cmp_run hsp S A1 o hD q1
theorem lc_ok {mi : M} {ifs : List Expr} {scope : Scope} {own : List (Str × Nat)} (hk : Kx X g Wx) (ok : BlkOk X.N X.env.scope scope own) (B : Blk X g scope (own.map (·.2)) tg ifs elt mt mc me) (hi : PEM X g Wx iter mi) (hs : ∀ x, foldedSetIterable iter X.env x = pure x := by intro _; rfl) (hc : X.calm = true := by rfl) (hsp : g.sp = none := by rfl) :
    PEM X g Wx (.ListComp elt [⟨tg, iter, ifs, 0⟩] scope pos) (mLc (own.map (·.2)) mt mc me mi) :=
  pe_imp (pe_lc hc hk.nd (pi_seq hi) ok (fun s H C cl fp => B.tg_ s H C cl fp (hk.blk _ _ _ _ _)) (fun s H C cl fp => B.if_ s H C cl fp (hk.blk _ _ _ _ _)) (fun s H C cl fp => B.el_ s H C cl fp (hk.blk _ _ _ _ _)) hs) (lc_imp hk hsp)
/-- x = [..], on one line -/
theorem setLcQ_ok {i : Nat} {y : Str} {py : Pos} {mi : M} {ifs : List Expr} {scope : Scope} {own : List (Str × Nat)} (hk : Kx X g Wx) (hy : X.N[i]? = some y) (hyl : X.env.scope.names.lookup y = some .local) (ok : BlkOk X.N X.env.scope scope own) (B : Blk X g scope (own.map (·.2)) tg ifs elt mt mc me) (hi : PEM X g Wx iter mi)
    (hsw : swapsWith (.ListComp elt [⟨tg, iter, ifs, 0⟩] scope apos) (some (.Name y py)) pos.line X.env = pure true := by rfl) (hs : ∀ x, foldedSetIterable iter X.env x = pure x := by intro _; rfl) (hc : X.calm = true := by rfl) (hsp : g.sp = none := by rfl) :
    PSM X g Wx (.Assign [.Name y py] (.ListComp elt [⟨tg, iter, ifs, 0⟩] scope apos) pos) (sSet i (mLc (own.map (·.2)) mt mc me mi)) :=
  setLc_ok (ps_setLc hc hk.nd hy hyl hsw (pi_seq hi) ok (fun s H C cl fp => B.tg_ s H C cl fp (hk.blk _ _ _ _ _)) (fun s H C cl fp => B.if_ s H C cl fp (hk.blk _ _ _ _ _)) (fun s H C cl fp => B.el_ s H C cl fp (hk.blk _ _ _ _ _)) hs) (lc_imp hk hsp)
end
end MR
/-! MDict: displays of dicts with tuples for keys, get and pop, dict of pairs, comprehensions over ranges and dicts. -/
namespace MR
open PySem PySem.Spec PyProof.Rows L2
section
variable {X : Cx} {g : Gm} {Wx : WX} {e a b c elt iter tg : Expr} {m ma mb mc me mo : M} {pos apos cpos p : Pos} {k : Nat} {es : List Expr} {ms : M} {sts : List Stmt} {s1 s : MS} {mt : TgM}

/-! ### {(..): v, ..} -/
abbrev KRow := List (List Key × Addr × V)
def mergeT (kvs : List (List Key × V)) (more : KRow) : List (List Key × V) := more.foldl (fun acc q => putK acc q.1 q.2.2) kvs
theorem length_mergeT : ∀ (more : KRow) (kvs : List (List Key × V)), (mergeT kvs more).length ≤ kvs.length + more.length
  | [], kvs => Nat.le_refl _
  | q :: r, kvs => by
    have h1 := length_mergeT r (putK kvs q.1 q.2.2)
    have h2 := length_putK kvs q.1 q.2.2
    show (mergeT (putK kvs q.1 q.2.2) r).length ≤ _
    rw [List.length_cons]; omega
theorem rows_of {P : Program} {w : World} {H : Hp} {h : Heap} (ok : HOk P w H h) : ∀ {ks : KRow} {ws : List (Value × Value)}, VV (ks.map fun q => (V.ref q.2.1, q.2.2)) ws → (∀ q ∈ ks, H q.2.1 = some (.tup (q.1.map kV))) →
    ∃ rs : List (List Key × Addr × Value), CarriesH (tupleKind (mixKind P w)) h ws rs ∧ ∀ {kvs : List (List Key × V)} {xs : List (List Key × Addr × Value)}, KT H kvs xs → KT H (mergeT kvs ks) (storedAllH xs rs)
  | [], ws, r, _ => by cases r; exact ⟨[], True.intro, fun q => q⟩
  | q :: ks, ws, r, hk => by
    rw [List.map_cons] at r
    cases r with
    | @cons x y xs ys hd tl =>
      obtain ⟨rs, c, kt⟩ := rows_of ok tl fun z hz => hk z (List.mem_cons_of_mem _ hz)
      have hq := hk q List.mem_cons_self
      obtain ⟨h1, h2⟩ := hd
      obtain ⟨y1, y2⟩ := y
      cases (show y1 = Value.ref q.2.1 from h1)
      exact ⟨(q.1, q.2.1, y2) :: rs, ⟨rfl, rfl, key_of ok hq, c⟩, fun r0 => kt (KT.put r0 q.1 hq h2)⟩
def tDispT (trs : List (TE × TE)) : TE := fun σ H Q => ∀ p, H p = none → tPairs trs σ (upd H p (.dT [])) fun ps H2 => H2 p = some (.dT []) ∧ ∃ ks : KRow, ps = ks.map (fun q => (V.ref q.2.1, q.2.2)) ∧ (∀ q ∈ ks, H2 q.2.1 = some (.tup (q.1.map kV))) ∧ ks.length ≤ 15 ∧ Q (.ref p) (upd H2 p (.dT (mergeT [] ks)))
theorem pe_dispT {keys : List (Option Expr)} {vals : List Expr} {trs : List (TE × TE)} (hu : X.A.units + 1 < cLine) (h : PPs X pos keys vals trs) (hall : keys.all (·.isSome) = true) (hl : keys.length = vals.length) (h0 : keys ≠ []) (h15 : keys.length ≤ 15) : PE X (.Dict keys vals pos) (tDispT trs) := by
  refine ⟨fun pins s σ H Q I q => ?_⟩
  have hn := I.hok.fresh (Nat.le_refl s.heap.objs.size)
  have I1 := I.laid (a := s.heap.objs.size) (o := .dT []) (h' := s.heap.push { cls := .type "dict", data := .dict #[] }) (t' := s.toks) (fun _ _ q => Heap.get?_push_of_some _ q) (Nat.le_refl _) (dt_empty s.heap I.big)
  have hpl := pairTrees_length keys vals X.env pos hall hl
  have hne : pairTrees keys vals X.env pos ≠ [] := fun z => by
    rw [z] at hpl
    exact h0 (List.length_eq_zero_iff.mp hpl.symm)
  rw [arm_eval_Dict, zip_pairTrees keys vals X.env pos hall hl, dictDisplay_pairs _ hne (by omega)]
  refine wpAny_bind (wpAny_standAt (wpAny_bind (wpAny_subDictH (knd := tupleKind (mixKind X.prog X.w)) (show X.A.units < cLine by omega) (by omega) (thn (h.run pins _ σ _ _ I1 (q _ hn)) fun ws s2 ⟨ps, H2, I2, rel, e, ks, ep, hk, lk, q2⟩ => ?_))))
  subst ep
  obtain ⟨rs, cr, kt⟩ := rows_of I2.hok rel hk
  obtain ⟨z, hd, xs, r0, dd⟩ := dt_of I2.hok e
  cases r0
  refine ⟨rs, cr, dd, fun h' tk dd' hs => wpAny_pure ⟨.ref s.heap.objs.size, _, ?_, rfl, q2⟩⟩
  have hz : (mergeT [] ks).length ≤ sizeLine := by
    have h1 := length_mergeT ks []
    rw [List.length_nil] at h1
    rw [sizeLine_eq]; omega
  obtain ⟨o, es, ep, hq, h2, h3, h4, _, h5⟩ := dd'
  refine d_write I2 (by rw [e]; exact True.intro) hs ⟨o, hq⟩ ⟨hz, hd, _, (kt (kvs := []) .nil).keeps fun c ys ec => ?_, o, es, ep, hq, h2, h3, h4, h5⟩
  rw [upd_ne (ne_of ec e (fun z => nomatch z))]
  exact ec
def putAllT (l : List (W × W)) : List (W × W) → Option (List (W × W))
  | [] => some l
  | p :: r => match keyT p.1 with
    | some k => putAllT (dPut keyT l k p.1 p.2) r
    | none => none
theorem putAllT_at {K : PySem.W.Frag} {r : List Addr} {H : Hp} : ∀ {ws : List (W × W)} {vs : List (V × V)} {l l' : List (W × W)} {kvs : List (List Key × V)}, RVp K r H ws vs → RKs keyT K r H l kvs → putAllT l ws = some l' →
    ∃ more : KRow, vs = more.map (fun q => (V.ref q.2.1, q.2.2)) ∧ (∀ q ∈ more, H q.2.1 = some (.tup (q.1.map kV))) ∧ RKs keyT K r H l' (mergeT kvs more)
  | [], vs, l, l', kvs, q, ql, e => by
    have z : vs = [] := q
    subst z
    simp only [putAllT, Option.some.injEq] at e; subst e
    exact ⟨[], rfl, fun q hq => (by cases hq), ql⟩
  | p :: ws, vs, l, l', kvs, q, ql, e => by
    obtain ⟨kv, v, t, rfl, q1, q2, q3⟩ := q
    simp only [putAllT] at e
    split at e
    · rename_i k ek
      obtain ⟨b, rfl, hb⟩ := keyT_at q1 ek
      obtain ⟨more, e1, e2, e3⟩ := putAllT_at (kvs := putK kvs k v) q3 (ql.put ek q2) e
      refine ⟨(k, b, v) :: more, by rw [e1] <;> rfl, fun z hz => ?_, e3⟩
      rcases List.mem_cons.mp hz with y | y
      · subst y; exact hb
      · exact e2 z y
    · cases e
@[simp] def kDispT (n : Nat) (kvs : List (W × W)) (h1 : Hq) : Rs := match h1[n]? with
  | some (.dt false []) => match putAllT [] kvs with
    | some l => .ok (.cell n) (h1.set n (.dt false l))
    | none => .bad
  | _ => .bad
def mDictT (ps : List (M × M)) : M := fun L h => mPairs ps L (h ++ [.dt false []]) (kDispT h.length)
theorem dispT_ok {keys : List (Option Expr)} {vals : List Expr} {ps : List (M × M)} (hk : Kx X g Wx) (hp : PPM X g Wx pos keys vals ps) (hall : keys.all (·.isSome) = true) (hl : keys.length = vals.length) (h0 : keys ≠ []) (h15 : keys.length ≤ 15) (hps : ps.length ≤ 15) :
    PEM X g Wx (.Dict keys vals pos) (mDictT ps) :=
  pe_imp (pe_dispT (by have := hk.un; omega) hp.ok hall hl h0 h15) fun σ H Q ⟨r, h, L, A, q⟩ => fun z hz => by
    have R := A.rep
    have G0 : Gro r H (r ++ [z]) (upd H z (.dT [])) := Gro.cell hz
    have A0 : At g (r ++ [z]) (h ++ [.dt false []]) (upd H z (.dT [])) L σ := A.gro G0 (R.cell hz ⟨[], rfl, rfl⟩)
    unfold mDictT at q
    rw [← mPairs_len] at q
    refine pairs_run ps A0 (Aft.gro G0 q) fun r1 h1 H1 ws vs A1 G1 x1 q1 => ?_
    split at q1
    · rename_i hlen
      unfold kDispT at q1
      split at q1
      · rename_i ec
        split at q1
        · rename_i l el
          obtain ⟨a, o, e1, e2, kvs, lo, rc⟩ := A1.rep.at_ _ _ ec
          have ea : r1[h.length]? = some z := G1.at_ (by rw [← R.len]; simp)
          rw [ea] at e1; cases e1
          have lo : o = .dT kvs := lo
          subst lo
          have rc : kvs = [] := rc
          subst rc
          obtain ⟨more, em, ek, rk⟩ := putAllT_at (kvs := []) x1 (show RKs keyT g.K r1 H1 [] [] from rfl) el
          refine ⟨e2, more, em, ek, ?_, ?_⟩
          · have hv : ws.length = vs.length := disp_ok.RVp_len x1
            rw [em, List.length_map] at hv
            omega
          · have gr : Gro r1 H1 r1 (upd H1 z (.dT (mergeT [] more))) := Gro.write A1.rep ea e2 (fun b x y => by cases y)
            exact q1 r1 _ _ gr (A1.rep.write ea e2 (fun b x y => by cases y) ⟨_, rfl, RKs.gro gr rk⟩) (by simp only [RV]; exact ⟨z, rfl, ea⟩)
        · exact q1.elim
      · exact q1.elim
    · exact q1.elim

/-! ### get, pop -/
theorem mt_get1 (hu : X.A.units + 1 < cLine) : MtR X "dict.get" (fun x xs H Q => ∃ a y o, x = .ref a ∧ xs = [y] ∧ DGet H a y o ∧ Q (o.getD .non) H) := by
  intro pn s σ H x xs v us Q I rx rs q
  obtain ⟨a, y, o, rfl, rfl, hg, q⟩ := q
  cases rx
  obtain ⟨u, rfl, ru⟩ := Vals.one rs
  exact d_get1 hu I hg ru fun w' s' I' r' => ⟨o.getD .non, H, I', r', q⟩
theorem mt_get2 (hu : X.A.units + 1 < cLine) : MtR X "dict.get" (fun x xs H Q => ∃ a y d o, x = .ref a ∧ xs = [y, d] ∧ DGet H a y o ∧ Q (o.getD d) H) := by
  intro pn s σ H x xs v us Q I rx rs q
  obtain ⟨a, y, d, o, rfl, rfl, hg, q⟩ := q
  cases rx
  obtain ⟨u1, u2, rfl, r1, r2⟩ := vals2 rs
  exact d_get2 hu I hg r1 r2 fun w' s' I' r' => ⟨o.getD d, H, I', r', q⟩
@[simp] def fGet1 : Mf := fun o ws h => match ws with
  | [y] => match dAsk o y h with
    | some r => .ok (r.getD .non) h
    | none => .bad
  | _ => .bad
@[simp] def fGet2 : Mf := fun o ws h => match ws with
  | [y, d] => match dAsk o y h with
    | some r => .ok (r.getD d) h
    | none => .bad
  | _ => .bad
theorem get1_S : MtS' g Wx (fun x xs H Q => ∃ a y o, x = .ref a ∧ xs = [y] ∧ DGet H a y o ∧ Q (o.getD .non) H) fGet1 := by
  intro r h H σ o v ws vs Q R qo qw x
  unfold fGet1 at x
  split at x
  · rename_i y
    obtain ⟨u, rfl, q1⟩ := RVs.one_inv qw
    split at x
    · rename_i ro er
      obtain ⟨p, o', rfl, hg, es, i1⟩ := dAsk_at R qo q1 er
      refine ⟨p, u, o', rfl, rfl, hg, ?_⟩
      cases ro with
      | none =>
        cases o' with
        | none => exact x.done R (by simp only [Option.getD_none, RV])
        | some _ => cases es
      | some w =>
        obtain ⟨v', e1, e2⟩ := i1 w rfl
        subst e1
        exact x.done R e2
    · exact x.elim
  · exact x.elim
theorem get2_S : MtS' g Wx (fun x xs H Q => ∃ a y d o, x = .ref a ∧ xs = [y, d] ∧ DGet H a y o ∧ Q (o.getD d) H) fGet2 := by
  intro r h H σ o v ws vs Q R qo qw x
  unfold fGet2 at x
  split at x
  · rename_i y d
    obtain ⟨u, u', rfl, q1, q2⟩ := RVs.two_inv qw
    split at x
    · rename_i ro er
      obtain ⟨p, o', rfl, hg, es, i1⟩ := dAsk_at R qo q1 er
      refine ⟨p, u, u', o', rfl, rfl, hg, ?_⟩
      cases ro with
      | none =>
        cases o' with
        | none => exact x.done R q2
        | some _ => cases es
      | some w =>
        obtain ⟨v', e1, e2⟩ := i1 w rfl
        subst e1
        exact x.done R e2
    · exact x.elim
  · exact x.elim

/-! ### dict(pairs) -/
theorem kV_inj' {k k' : Key} (e : kV k = kV k') : k = k' := by
  cases k with
  | inl i => cases k' with
    | inl j => cases e; rfl
    | inr j => cases e
  | inr i => cases k' with
    | inl j => cases e
    | inr j => cases e; rfl
def pairsOf : List W → Option (List (W × W))
  | [] => some []
  | .tup [k, v] :: r => match keyOf k, pairsOf r with
    | some _, some ps => some ((k, v) :: ps)
    | _, _ => none
  | _ => none
theorem pairsOf_at {r : List Addr} {H : Hp} : ∀ {ws : List W} {vs : List V} {ps : List (W × W)}, RVs g.K r H ws vs → pairsOf ws = some ps →
    ∃ (as : List Addr) (kvs : List (Key × V)), vs = as.map V.ref ∧ Paired (fun p kv => SqT g.K H p [kV kv.1, kv.2]) as kvs ∧ RVp g.K r H ps (kvs.map fun kv => (kV kv.1, kv.2))
  | [], vs, ps, q, e => by
    simp only [pairsOf, Option.some.injEq] at e; subst e
    exact ⟨[], [], by rw [q.inv0] <;> rfl, .nil, rfl⟩
  | w :: ws, vs, ps, q, e => by
    obtain ⟨v, t, rfl, q1, q2⟩ := q.inv
    unfold pairsOf at e
    split at e
    · rename_i he; cases he
    · rename_i k x r' he
      cases he
      split at e
      · rename_i kk ps' ek ep
        cases e
        obtain ⟨as, kvs, rfl, h2, h3⟩ := pairsOf_at q2 ep
        simp only [RV] at q1
        obtain ⟨p, us, rfl, ⟨_, hp⟩, q3⟩ := q1
        obtain ⟨u1, u2, rfl, r1, r2⟩ := RVs.two_inv q3
        have ek2 := keyOf_at r1 ek
        subst ek2
        exact ⟨p :: as, (kk, u2) :: kvs, rfl, .cons (SqT.of hp) h2, ⟨kV kk, u2, _, rfl, r1, r2, h3⟩⟩
      · cases e
    · cases e
@[simp] def bDictP : Fn := fun ws h => match ws with
  | [w] => match seqOf w h with
    | some l => match pairsOf l with
      | some ps => match putAll [] ps with
        | some l' => .ok (.cell h.length) (h ++ [.dk false l'])
        | none => .bad
      | none => .bad
    | none => .bad
  | _ => .bad
@[simp] def bDictQ : Fn := fun ws h => match ws with
  | [w] => match lstOf w h with
    | some _ => bDictP [w] h
    | none => .bad
  | _ => .bad
theorem dictP_S : CallS g Wx (fun xs H Q => ∃ (a : Addr) (ps : List Addr) (kvs : List (Key × V)), xs = [.ref a] ∧ SqL g.K H a (ps.map V.ref) ∧ Paired (fun p kv => SqT g.K H p [kV kv.1, kv.2]) ps kvs ∧
    ∀ p, H p = none → Q (.ref p) (upd H p (.dK (mergeK [] kvs)))) bDictQ := by
  intro r h H σ ws vs Q R q x
  unfold bDictQ at x
  split at x
  · rename_i w
    obtain ⟨v, rfl, q1⟩ := RVs.one_inv q
    split at x
    · rename_i l el
      unfold bDictP at x
      have es : seqOf w h = some l := by
        unfold seqOf
        split
        · simp [lstOf] at el
        · simp [lstOf] at el
        · simp [lstOf] at el
        · exact el
      simp only [es] at x
      obtain ⟨p, us, rfl, hp, rc⟩ := lstOf_at R q1 el
      split at x
      · rename_i ps eps
        split at x
        · rename_i l' el'
          obtain ⟨as, kvs, rfl, hpr, rvp⟩ := pairsOf_at rc eps
          obtain ⟨more, em, rk⟩ := putAll_at (kvs := []) rvp (show RKs keyOf g.K r H [] [] from rfl) el'
          have em2 : more = kvs := by
            have inj : ∀ (a b : List (Key × V)), a.map (fun kv => (kV kv.1, kv.2)) = b.map (fun kv => (kV kv.1, kv.2)) → a = b := fun a => by
              induction a with
              | nil => intro b e; cases b with
                | nil => rfl
                | cons _ _ => cases e
              | cons x t ih => intro b e; cases b with
                | nil => cases e
                | cons y t' =>
                  simp only [List.map_cons, List.cons.injEq, Prod.mk.injEq] at e
                  obtain ⟨⟨e1, e2⟩, e3⟩ := e
                  rw [ih t' e3]
                  have : x.1 = y.1 := kV_inj' e1
                  obtain ⟨x1, x2⟩ := x
                  obtain ⟨y1, y2⟩ := y
                  simp only at this e2
                  rw [this, e2]
            exact (inj _ _ em).symm
          subst em2
          refine ⟨p, as, more, rfl, SqL.of hp, hpr, fun z hz => ?_⟩
          exact x _ _ _ (Gro.cell hz) (R.cell hz ⟨_, rfl, RKs.gro (Gro.cell hz) rk⟩) (RV.new R)
        · exact x.elim
      · exact x.elim
    · exact x.elim
  · exact x.elim

/-! ### comprehensions over ranges and dicts -/
theorem src_range {lo : Int} {n : Nat} : Src g (fun _ => True) (Itr lo n) (rangeW lo n) (fun _ _ _ => True) := by
  have hl : (rangeW lo n).length = n := by simp [rangeW]
  refine ⟨fun i r h H hi R _ => by rw [hl] at hi; exact hi, fun r h H R _ => by rw [hl]; exact Nat.le_refl n, fun i r h H x H' hi R _ y => ?_, fun _ _ _ _ _ _ _ _ _ => trivial⟩
  obtain ⟨rfl, rfl⟩ := y
  rw [hl] at hi
  exact ⟨.int (lo + i), by simp [rangeW, hi], Gro.refl, R, by simp only [RV]⟩
/-- the turns over items that stand -/
noncomputable def runLc (vs : List Nat) (mt : TgM) (mc me : M) (L : Loc) (ws : List W) (h : Hq) : Rs := match cmpH (fun _ => True) vs mt mc me h.length L ws (h ++ [.lst []]) with
  | some h' => .ok (.cell h.length) h'
  | none => .bad
noncomputable def mLcR1 (vs : List Nat) (mt : TgM) (mc me ms : M) : M := fun L h => (ms L h).bindL fun ws h1 => match ws with
  | [.int j] => if -4611686018427387904 ≤ j ∧ j < 4611686018427387904 then runLc vs mt mc me L (rangeW 0 j.toNat) h1 else .bad
  | _ => .bad
noncomputable def mLcR2 (vs : List Nat) (mt : TgM) (mc me ms : M) : M := fun L h => (ms L h).bindL fun ws h1 => match ws with
  | [.int i, .int j] => if (-4611686018427387904 ≤ i ∧ i < 4611686018427387904) ∧ -4611686018427387904 ≤ j ∧ j < 4611686018427387904 then runLc vs mt mc me L (rangeW i (j - i).toNat) h1 else .bad
  | _ => .bad
theorem lcR1_imp {vs : List Nat} (hsp : g.sp = none) : ∀ σ H Q, tM g Wx (mLcR1 vs mt mc me ms) σ H Q → tLc (iRng1 (tML g Wx ms)) (tGv g vs mt) (tMT g noWx mc) (tM g noWx me) vs σ H Q := fun σ H Q ⟨r, h, L, A, q⟩ => by
  obtain ⟨r0, h0, L0, A0, q0⟩ := tML_step (ma := ms) A q
  refine ⟨r0, h0, L0, A0, q0.imp fun vs H1 ⟨r1, h1, ws, A1, G1, x1, q1⟩ => ?_⟩
  split at q1
  · rename_i j
    obtain ⟨v, rfl, e1⟩ := RVs.one_inv x1
    simp only [RV] at e1; subst e1
    split at q1
    · rename_i hj
      exact ⟨j, rfl, hj.1, hj.2, fun D hD => cmp_run hsp src_range A1 trivial hD q1⟩
    · exact q1.elim
  · exact q1.elim
theorem lcR2_imp {vs : List Nat} (hsp : g.sp = none) : ∀ σ H Q, tM g Wx (mLcR2 vs mt mc me ms) σ H Q → tLc (iRng2 (tML g Wx ms)) (tGv g vs mt) (tMT g noWx mc) (tM g noWx me) vs σ H Q := fun σ H Q ⟨r, h, L, A, q⟩ => by
  obtain ⟨r0, h0, L0, A0, q0⟩ := tML_step (ma := ms) A q
  refine ⟨r0, h0, L0, A0, q0.imp fun vs H1 ⟨r1, h1, ws, A1, G1, x1, q1⟩ => ?_⟩
  split at q1
  · rename_i i j
    obtain ⟨v, v', rfl, e1, e2⟩ := RVs.two_inv x1
    simp only [RV] at e1 e2; subst e1 e2
    split at q1
    · rename_i hj
      exact ⟨i, j, rfl, ⟨hj.1.1, hj.1.2, hj.2.1, hj.2.2⟩, fun D hD => cmp_run hsp src_range A1 trivial hD q1⟩
    · exact q1.elim
  · exact q1.elim
theorem lcR1_ok {ifs : List Expr} {scope : Scope} {own : List (Str × Nat)} (hk : Kx X g Wx) (ok : BlkOk X.N X.env.scope scope own) (B : Blk X g scope (own.map (·.2)) tg ifs elt mt mc me) (hgl : Gl X "range") (hm : X.mg "range" = none) (ha : PAM X g Wx [a] ms)
    (hs1 : starEach [a] X.env = [(false, eval a X.env)] := by rfl) (hs : ∀ x, foldedSetIterable (.Call (.Name "range" p) [a] [] apos) X.env x = pure x := by intro _; rfl) (hc : X.calm = true := by rfl) (hsp : g.sp = none := by rfl) :
    PEM X g Wx (.ListComp elt [⟨tg, .Call (.Name "range" p) [a] [] apos, ifs, 0⟩] scope pos) (mLcR1 (own.map (·.2)) mt mc me ms) :=
  pe_imp (pe_lc hc hk.nd (pi_range1 hgl hm ha hs1) ok (fun s H C cl fp => B.tg_ s H C cl fp (hk.blk _ _ _ _ _)) (fun s H C cl fp => B.if_ s H C cl fp (hk.blk _ _ _ _ _)) (fun s H C cl fp => B.el_ s H C cl fp (hk.blk _ _ _ _ _)) hs) (lcR1_imp hsp)
theorem lcR2_ok {ifs : List Expr} {scope : Scope} {own : List (Str × Nat)} (hk : Kx X g Wx) (ok : BlkOk X.N X.env.scope scope own) (B : Blk X g scope (own.map (·.2)) tg ifs elt mt mc me) (hgl : Gl X "range") (hm : X.mg "range" = none) (ha : PAM X g Wx [a, b] ms)
    (hs1 : starEach [a, b] X.env = [(false, eval a X.env), (false, eval b X.env)] := by rfl) (hs2 : starEach [b] X.env = [(false, eval b X.env)] := by rfl) (hs : ∀ x, foldedSetIterable (.Call (.Name "range" p) [a, b] [] apos) X.env x = pure x := by intro _; rfl) (hc : X.calm = true := by rfl) (hsp : g.sp = none := by rfl) :
    PEM X g Wx (.ListComp elt [⟨tg, .Call (.Name "range" p) [a, b] [] apos, ifs, 0⟩] scope pos) (mLcR2 (own.map (·.2)) mt mc me ms) :=
  pe_imp (pe_lc hc hk.nd (pi_range2 hgl hm ha hs1 hs2) ok (fun s H C cl fp => B.tg_ s H C cl fp (hk.blk _ _ _ _ _)) (fun s H C cl fp => B.if_ s H C cl fp (hk.blk _ _ _ _ _)) (fun s H C cl fp => B.el_ s H C cl fp (hk.blk _ _ _ _ _)) hs) (lcR2_imp hsp)
theorem setLcR1_ok {i : Nat} {y : Str} {py : Pos} {ifs : List Expr} {scope : Scope} {own : List (Str × Nat)} (hk : Kx X g Wx) (hy : X.N[i]? = some y) (hyl : X.env.scope.names.lookup y = some .local) (ok : BlkOk X.N X.env.scope scope own) (B : Blk X g scope (own.map (·.2)) tg ifs elt mt mc me) (hgl : Gl X "range") (hm : X.mg "range" = none) (ha : PAM X g Wx [a] ms)
    (hsw : swapsWith (.ListComp elt [⟨tg, .Call (.Name "range" p) [a] [] apos, ifs, 0⟩] scope cpos) (some (.Name y py)) pos.line X.env = pure true := by rfl)
    (hs1 : starEach [a] X.env = [(false, eval a X.env)] := by rfl) (hs : ∀ x, foldedSetIterable (.Call (.Name "range" p) [a] [] apos) X.env x = pure x := by intro _; rfl) (hc : X.calm = true := by rfl) (hsp : g.sp = none := by rfl) :
    PSM X g Wx (.Assign [.Name y py] (.ListComp elt [⟨tg, .Call (.Name "range" p) [a] [] apos, ifs, 0⟩] scope cpos) pos) (sSet i (mLcR1 (own.map (·.2)) mt mc me ms)) :=
  setLc_ok (ps_setLc hc hk.nd hy hyl hsw (pi_range1 hgl hm ha hs1) ok (fun s H C cl fp => B.tg_ s H C cl fp (hk.blk _ _ _ _ _)) (fun s H C cl fp => B.if_ s H C cl fp (hk.blk _ _ _ _ _)) (fun s H C cl fp => B.el_ s H C cl fp (hk.blk _ _ _ _ _)) hs) (lcR1_imp hsp)
theorem setLcR2_ok {i : Nat} {y : Str} {py : Pos} {ifs : List Expr} {scope : Scope} {own : List (Str × Nat)} (hk : Kx X g Wx) (hy : X.N[i]? = some y) (hyl : X.env.scope.names.lookup y = some .local) (ok : BlkOk X.N X.env.scope scope own) (B : Blk X g scope (own.map (·.2)) tg ifs elt mt mc me) (hgl : Gl X "range") (hm : X.mg "range" = none) (ha : PAM X g Wx [a, b] ms)
    (hsw : swapsWith (.ListComp elt [⟨tg, .Call (.Name "range" p) [a, b] [] apos, ifs, 0⟩] scope cpos) (some (.Name y py)) pos.line X.env = pure true := by rfl)
    (hs1 : starEach [a, b] X.env = [(false, eval a X.env), (false, eval b X.env)] := by rfl) (hs2 : starEach [b] X.env = [(false, eval b X.env)] := by rfl) (hs : ∀ x, foldedSetIterable (.Call (.Name "range" p) [a, b] [] apos) X.env x = pure x := by intro _; rfl) (hc : X.calm = true := by rfl) (hsp : g.sp = none := by rfl) :
    PSM X g Wx (.Assign [.Name y py] (.ListComp elt [⟨tg, .Call (.Name "range" p) [a, b] [] apos, ifs, 0⟩] scope cpos) pos) (sSet i (mLcR2 (own.map (·.2)) mt mc me ms)) :=
  setLc_ok (ps_setLc hc hk.nd hy hyl hsw (pi_range2 hgl hm ha hs1 hs2) ok (fun s H C cl fp => B.tg_ s H C cl fp (hk.blk _ _ _ _ _)) (fun s H C cl fp => B.if_ s H C cl fp (hk.blk _ _ _ _ _)) (fun s H C cl fp => B.el_ s H C cl fp (hk.blk _ _ _ _ _)) hs) (lcR2_imp hsp)
/-- the lock's end of a value -/
def unlkE (n : Nat) : Rs → Rs
  | .ok w h => (match h[n]? with
    | some (.dk true l) => .ok w (h.set n (.dk false l))
    | _ => .bad)
  | .ex c fs h => .ex c fs h
  | .bad => .bad
noncomputable def mLcD (kd : DKd) (vs : List Nat) (mt : TgM) (mc me m : M) : M := fun L h => match m L h with
  | .ok (.cell n) _ => (match h[n]? with
    | some (.dk false l) => unlkE n ((m L (h.set n (.dk true l))).bind fun w h1 => match w with
      | .cell n' => if n' = n then runLc vs mt mc me L (dItems kd l) h1 else .bad
      | _ => .bad)
    | _ => .bad)
  | _ => .bad
theorem unlkE_at {σ : Sl} {r0 : List Addr} {H0 : Hp} {n : Nat} {a : Addr} {kvs : List (Key × V)} {od : Obj} {Q : VK} {x : Rs} (R0n : r0[n]? = some a) (e0 : H0 a = some (.dK kvs)) (q : Aft g Wx σ (unlkE n x) r0 H0 Q) :
    Aft g Wx σ x r0 (upd H0 a (.frz od (.dK kvs))) fun v H' => H' a = some (.frz od (.dK kvs)) ∧ Q v (upd H' a (.dK kvs)) := by
  cases x with
  | ok w h =>
    unfold unlkE at q
    simp only at q
    split at q
    · rename_i l ec
      intro r' H' v G R qv
      obtain ⟨u1, u2, u3, u4⟩ := unlock_at R0n e0 G R ec
      exact ⟨u1, q r' _ v u2 u3 (u4 _ _ _ qv)⟩
    · exact q.elim
  | ex c fs h =>
    intro r' H' cls d G A qx
    have ma0 : a ∈ r0 := List.mem_of_getElem? R0n
    refine q r' H' cls d ⟨G.pre, fun b x hb e => ?_, fun b hb => ?_, fun b x u e => ?_⟩ A qx
    · have hne : b ≠ a := fun z => hb (by rw [z]; exact ma0)
      exact G.old b x hb (by rw [upd_ne hne]; exact e)
    · rcases G.new b hb with z | z
      · exact .inl z
      · by_cases hba : b = a
        · rw [hba]; exact .inl ma0
        · rw [upd_ne hba] at z; exact .inr z
    · have hne : b ≠ a := fun z => by rw [z, e0] at e; cases e
      exact G.frz b x u (by rw [upd_ne hne]; exact e)
  | bad => exact q
theorem lcD_ok {it : Expr} {kd : DKd} {ifs : List Expr} {scope : Scope} {own : List (Str × Nat)} (hk : Kx X g Wx) (ok : BlkOk X.N X.env.scope scope own) (B : Blk X g scope (own.map (·.2)) tg ifs elt mt mc me) (pd : PID X g Wx tg it e kd) (ha : PEM X g Wx e m)
    (hs : ∀ x, foldedSetIterable it X.env x = pure x := by intro _; rfl) (hc : X.calm = true := by rfl) (hsp : g.sp = none := by rfl) : PEM X g Wx (.ListComp elt [⟨tg, it, ifs, 0⟩] scope pos) (mLcD kd (own.map (·.2)) mt mc me m) :=
  pe_imp (pe_lock (pe_lc hc hk.nd (pd.ok m ha) ok (fun s H C cl fp => B.tg_ s H C cl fp (hk.blk _ _ _ _ _)) (fun s H C cl fp => B.if_ s H C cl fp (hk.blk _ _ _ _ _)) (fun s H C cl fp => B.el_ s H C cl fp (hk.blk _ _ _ _ _)) hs)) fun σ H Q ⟨r, h, L, A, q⟩ => by
    unfold mLcD at q
    split at q
    · rename_i n h' em
      split at q
      · rename_i l ec
        obtain ⟨a, o, er, hp', kvs, lo, rc⟩ := A.rep.at_ n _ ec
        have lo : o = .dK kvs := lo
        subst lo
        refine ⟨a, .dK kvs, hp', trivial, fun od => ?_⟩
        obtain ⟨G1, R1⟩ := lock_at A.rep er hp' rc od
        have A1 : At g r (h.set n (.dk true l)) (upd H a (.frz od (.dK kvs))) L σ := A.gro G1 R1
        have q1 := unlkE_at (od := od) er hp' q
        obtain ⟨r0, h0, L0, A0, q0⟩ := tM_step (ma := m) A1 q1
        refine ⟨r0, h0, L0, A0, q0.imp fun v H1 ⟨r1, h1, w, A2, G2, x2, q2⟩ => ?_⟩
        split at q2
        · rename_i n'
          split at q2
          · rename_i hn
            subst hn
            simp only [RV] at x2
            obtain ⟨p, rfl, ep⟩ := x2
            have ep2 := G2.at_ er
            rw [ep] at ep2
            cases ep2
            have e3 := G2.frz _ _ _ (show (upd H a (.frz od (.dK kvs))) a = some (.frz od (.dK kvs)) from upd_same)
            exact ⟨a, od, kvs, rfl, e3, fun D hD => cmp_run hsp src_d A2 ⟨e3, RKs.gro G2 (RKs.gro G1 rc)⟩ hD q2⟩
          · exact q2.elim
        · exact q2.elim
      · exact q.elim
    · exact q.elim
/-! ### a joined row that is to be changed: a cell -/
@[simp] def fAddL (x y : W) (h : Hq) : Rs := match lstOf x h, lstOf y h with
  | some k, some l => if k.length + l.length ≤ lineN then .ok (.cell h.length) (h ++ [.lst (k ++ l)]) else .bad
  | _, _ => .bad
theorem addL_S : OpS g Wx (rAddA g.K) fAddL := by
  intro r h H σ x y v u Q R qx qy q
  unfold fAddL at q
  split at q
  · rename_i k l e1 e2
    obtain ⟨p, vs, rfl, hp, q1⟩ := lstOf_at R qx e1
    obtain ⟨p2, us, rfl, hp2, q2⟩ := lstOf_at R qy e2
    split at q
    · rename_i hl
      refine .inr (.inr (.inr ⟨p, p2, vs, us, rfl, rfl, hp, hp2, by rw [← q1.len, ← q2.len, lineN_eq]; exact hl, fun p3 hp3 => ?_⟩))
      exact q (r ++ [p3]) _ _ (Gro.cell hp3) (R.cell hp3 ⟨vs ++ us, rfl, RVs.gro (Gro.cell hp3) _ _ (q1.app q2)⟩) (RV.new R)
    · exact q.elim
  · exact q.elim
end
end MR
/-! MZip: zip of three rows. -/
namespace MR
open PySem PySem.Spec PyProof.Rows L2
abbrev IsTrip (h : Heap) (T : Addr) (a b c : Value) : Prop := h.get? T = some { cls := .type "tuple", data := .seq #[a, b, c] }
/-- unlike places: the zip's own, and the rows' -/
structure Zap (z TI TO i1 i2 i3 l1 l2 l3 : Addr) : Prop where
  TIz : TI ≠ z
  TOz : TO ≠ z
  z1 : i1 ≠ z
  z2 : i2 ≠ z
  z3 : i3 ≠ z
  TITO : TI ≠ TO
  TI1 : TI ≠ i1
  TI2 : TI ≠ i2
  TI3 : TI ≠ i3
  TO1 : TO ≠ i1
  TO2 : TO ≠ i2
  TO3 : TO ≠ i3
  i12 : i1 ≠ i2
  i13 : i1 ≠ i3
  i23 : i2 ≠ i3
  l1 : ∀ y ∈ [z, TO, i1, i2, i3], l1 ≠ y
  l2 : ∀ y ∈ [z, TO, i1, i2, i3], l2 ≠ y
  l3 : ∀ y ∈ [z, TO, i1, i2, i3], l3 ≠ y
theorem zap_of (I l1 l2 l3 : Nat) (h1 : l1 < I) (h2 : l2 < I) (h3 : l3 < I) : Zap (I + 5) (I + 3) (I + 4) I (I + 1) (I + 2) l1 l2 l3 := by
  constructor <;> first
    | (intro y hy; simp at hy; rcases hy with rfl | rfl | rfl | rfl | rfl <;> exact Nat.ne_of_lt (by omega))
    | (exact Nat.ne_of_lt (by omega))
    | (exact Nat.ne_of_gt (by omega))
section
variable {prog : Program} {w : World} {A : Around} {E : Value → Shared → Prop} {s : Shared}
theorem upd_trip {T : Addr} {a b c x : Value} {k : Nat} {Q : Unit → Shared → Prop} (hT : IsTrip s.heap T a b c)
    (h : ∀ h', h'.get? T = some { cls := .type "tuple", data := .seq ((#[a, b, c] : Array Value).setIfInBounds k x) } → Heap.SameBut T s.heap h' → Q () { s with heap := h' }) :
    wpAny (model prog w) A (updateSeq T (·.setIfInBounds k x)) Q E s := by
  refine wpAny_updateSeq hT rfl (h _ ?_ (Heap.SameBut.update ..))
  rw [Heap.get?_update_self _ hT rfl]
  simp [Obj.mapSeq]
theorem zip3_item {z TI TO i1 i2 i3 l1 l2 l3 : Addr} {k : Nat} {xs ys zs : Array Value} {x y u a b c : Value} {Q : Value → Shared → Prop} (D : Zap z TI TO i1 i2 i3 l1 l2 l3)
    (hz : IsZip s.heap z TI TO .none) (hTI : IsTrip s.heap TI (.ref i1) (.ref i2) (.ref i3)) (hTO : IsTrip s.heap TO a b c)
    (h1 : s.heap.IsListIter i1 l1 k) (h2 : s.heap.IsListIter i2 l2 k) (h3 : s.heap.IsListIter i3 l3 k) (hl1 : s.heap.IsList l1 xs) (hl2 : s.heap.IsList l2 ys) (hl3 : s.heap.IsList l3 zs)
    (hx : xs[k]? = some x) (hy : ys[k]? = some y) (hu : zs[k]? = some u)
    (hQ : ∀ h', IsZip h' z TI TO (rawInt s.heap.objs.size) → IsTrip h' TO x y u → h'.IsListIter i1 l1 (k + 1) → h'.IsListIter i2 l2 (k + 1) → h'.IsListIter i3 l3 (k + 1) → IsTrip h' s.heap.objs.size x y u →
      (∀ d o, d ∉ [z, TO, i1, i2, i3] → s.heap.get? d = some o → h'.get? d = some o) → Q (.ref s.heap.objs.size) { s with heap := h' }) :
    wpAny (model prog w) A (Builtin.«zip.__next__» ⟨[.ref z], []⟩) (fun fin s' => ∃ v, fin = .done (.ret v) ∧ Q v s') E s := by
  show wpAny _ _ (field (.ref z) 2 >>= _) _ _ _
  refine wpAny_bind (wpAny_field hz rfl (x := .bool false) rfl ?_)
  show wpAny _ _ (field (.ref z) 3 >>= _) _ _ _
  refine wpAny_bind (wpAny_field hz rfl (x := .ref TI) rfl ?_)
  refine wpAny_bind (wpAny_seqItems hTI rfl ?_)
  show wpAny _ _ (Builtin.SmallTypes.ownedTupleIsFree (.ref z) >>= _) _ _ _
  refine wpAny_bind ?_
  unfold Builtin.SmallTypes.ownedTupleIsFree
  refine wpAny_bind (wpAny_field hz rfl (x := .none) rfl (wpAny_pure ?_))
  simp only [if_true]
  refine wpAny_bind (wpAny_rule ?_)
  refine wpAny_bind (wpAny_field hz rfl (x := .ref TO) rfl ?_)
  refine wpAny_bind (wpAny_setField_rec hz (by simp) fun g1 z1 s1 => ?_)
  replace z1 : IsZip g1 z TI TO .ellipsis := z1
  refine wpAny_bind ?_
  simp only [List.zipIdx_cons, List.zipIdx_nil, List.forIn_cons, List.forIn_nil]
  refine wpAny_bind (wpAny_bind (wpAny_onRaise ?_))
  show wpAny _ _ (Builtin.SmallTypes.nextOf (.ref i1) >>= _) _ _ _
  refine wpAny_bind (wpAny_nextOf_list_item (h1.extBut s1.extBut D.z1) (hl1.extBut s1.extBut (D.l1 z (by simp))) hx fun g2 n1 s2 => wpAny_pure ?_)
  have t2 : IsTrip g2 TO a b c := s2.extBut _ _ D.TO1 (s1.extBut _ _ D.TOz hTO)
  refine wpAny_bind (wpAny_seqItems t2 rfl ?_)
  refine wpAny_bind (upd_trip t2 fun g3 t3 s3 => ?_)
  replace t3 : IsTrip g3 TO x b c := t3
  refine wpAny_bind (wpAny_letGo (wpAny_pure ?_))
  refine wpAny_bind (wpAny_bind (wpAny_onRaise ?_))
  show wpAny _ _ (Builtin.SmallTypes.nextOf (.ref i2) >>= _) _ _ _
  refine wpAny_bind (wpAny_nextOf_list_item (((h2.extBut s1.extBut D.z2).extBut s2.extBut D.i12.symm).extBut s3.extBut D.TO2.symm)
    (((hl2.extBut s1.extBut (D.l2 z (by simp))).extBut s2.extBut (D.l2 i1 (by simp))).extBut s3.extBut (D.l2 TO (by simp))) hy fun g4 n2 s4 => wpAny_pure ?_)
  have t4 : IsTrip g4 TO x b c := s4.extBut _ _ D.TO2 t3
  refine wpAny_bind (wpAny_seqItems t4 rfl ?_)
  refine wpAny_bind (upd_trip t4 fun g5 t5 s5 => ?_)
  replace t5 : IsTrip g5 TO x y c := t5
  refine wpAny_bind (wpAny_letGo (wpAny_pure ?_))
  refine wpAny_bind (wpAny_bind (wpAny_onRaise ?_))
  show wpAny _ _ (Builtin.SmallTypes.nextOf (.ref i3) >>= _) _ _ _
  refine wpAny_bind (wpAny_nextOf_list_item (((((h3.extBut s1.extBut D.z3).extBut s2.extBut D.i13.symm).extBut s3.extBut D.TO3.symm).extBut s4.extBut D.i23.symm).extBut s5.extBut D.TO3.symm)
    (((((hl3.extBut s1.extBut (D.l3 z (by simp))).extBut s2.extBut (D.l3 i1 (by simp))).extBut s3.extBut (D.l3 TO (by simp))).extBut s4.extBut (D.l3 i2 (by simp))).extBut s5.extBut (D.l3 TO (by simp))) hu fun g6 n3 s6 => wpAny_pure ?_)
  have t6 : IsTrip g6 TO x y c := s6.extBut _ _ D.TO3 t5
  refine wpAny_bind (wpAny_seqItems t6 rfl ?_)
  refine wpAny_bind (upd_trip t6 fun g7 t7 s7 => ?_)
  replace t7 : IsTrip g7 TO x y u := t7
  refine wpAny_bind (wpAny_letGo (wpAny_pure (wpAny_pure ?_)))
  refine wpAny_bind (wpAny_seqItems t7 rfl ?_)
  refine wpAny_bind (wpAny_newTuple ?_)
  have hsz : g7.objs.size = s.heap.objs.size := by rw [s7.1, s6.1, s5.1, s4.1, s3.1, s2.1, s1.1]
  have z7 : IsZip g7 z TI TO .ellipsis := s7.extBut _ _ D.TOz.symm (s6.extBut _ _ D.z3.symm (s5.extBut _ _ D.TOz.symm (s4.extBut _ _ D.z2.symm (s3.extBut _ _ D.TOz.symm (s2.extBut _ _ D.z1.symm z1)))))
  have k7 : ∀ d o, d ∉ [z, TO, i1, i2, i3] → s.heap.get? d = some o → g7.get? d = some o := fun d o nd e => by
    have ne : ∀ y ∈ [z, TO, i1, i2, i3], d ≠ y := fun y hy q => nd (by rw [q]; exact hy)
    exact s7.extBut _ _ (ne TO (by simp)) (s6.extBut _ _ (ne i3 (by simp)) (s5.extBut _ _ (ne TO (by simp)) (s4.extBut _ _ (ne i2 (by simp)) (s3.extBut _ _ (ne TO (by simp)) (s2.extBut _ _ (ne i1 (by simp)) (s1.extBut _ _ (ne z (by simp)) e))))))
  have m1 : g7.IsListIter i1 l1 (k + 1) := ((((n1.extBut s3.extBut D.TO1.symm).extBut s4.extBut D.i12).extBut s5.extBut D.TO1.symm).extBut s6.extBut D.i13).extBut s7.extBut D.TO1.symm
  have m2 : g7.IsListIter i2 l2 (k + 1) := ((n2.extBut s5.extBut D.TO2.symm).extBut s6.extBut D.i23).extBut s7.extBut D.TO2.symm
  have m3 : g7.IsListIter i3 l3 (k + 1) := n3.extBut s7.extBut D.TO3.symm
  have hzlt : z < g7.objs.size := Heap.lt_size z7
  show wpAny _ _ (Builtin.SmallTypes.ownedTupleHandOut (.ref z) (.ref g7.objs.size) >>= _) _ _ _
  refine wpAny_bind ?_
  unfold Builtin.SmallTypes.ownedTupleHandOut
  have z8 : IsZip (g7.push { cls := .type "tuple", data := .seq #[x, y, u] }) z TI TO .ellipsis := Heap.get?_push_of_some _ z7
  refine wpAny_bind (wpAny_setField_rec z8 (by simp) fun g8 z9 s8 => ?_)
  replace z9 : IsZip g8 z TI TO (rawInt g7.objs.size) := z9
  refine wpAny_setField_rec z9 (by simp) fun g9 z10 s9 => ?_
  replace z10 : IsZip g9 z TI TO (rawInt g7.objs.size) := z10
  have up : ∀ d o, d ≠ z → g7.get? d = some o → g9.get? d = some o := fun d o nz e => s9.extBut _ _ nz (s8.extBut _ _ nz (Heap.get?_push_of_some _ e))
  have T9 : IsTrip g9 g7.objs.size x y u := s9.extBut _ _ (Nat.ne_of_gt hzlt) (s8.extBut _ _ (Nat.ne_of_gt hzlt) (Heap.get?_push_size _ rfl))
  rw [hsz] at z10 T9
  refine wpAny_pure ⟨_, rfl, ?_⟩
  show Q (.ref g7.objs.size) _
  rw [hsz]
  exact hQ g9 z10 (up _ _ D.TOz t7) (m1.at fun o e => up _ o D.z1 e) (m2.at fun o e => up _ o D.z2 e) (m3.at fun o e => up _ o D.z3 e) T9 fun d o nd e => up d o (fun q => nd (by simp [q])) (k7 d o nd e)
theorem zip3_end {z TI TO i1 i2 i3 l1 l2 l3 : Addr} {k : Nat} {xs : Array Value} {a b c : Value} {Q : Fin → Shared → Prop} (hh : A.handled = none) (D : Zap z TI TO i1 i2 i3 l1 l2 l3)
    (hz : IsZip s.heap z TI TO .none) (hTI : IsTrip s.heap TI (.ref i1) (.ref i2) (.ref i3)) (hTO : IsTrip s.heap TO a b c)
    (h1 : s.heap.IsListIter i1 l1 k) (hl1 : s.heap.IsList l1 xs) (hx : xs[k]? = none)
    (hE : ∀ h' e, (∀ d o, d ∉ [z, i1] → s.heap.get? d = some o → h'.get? d = some o) → (∃ o, h'.get? e = some o ∧ o.cls = .type "StopIteration") → E (.ref e) { s with heap := h' }) :
    wpAny (model prog w) A (Builtin.«zip.__next__» ⟨[.ref z], []⟩) Q E s := by
  show wpAny _ _ (field (.ref z) 2 >>= _) _ _ _
  refine wpAny_bind (wpAny_field hz rfl (x := .bool false) rfl ?_)
  show wpAny _ _ (field (.ref z) 3 >>= _) _ _ _
  refine wpAny_bind (wpAny_field hz rfl (x := .ref TI) rfl ?_)
  refine wpAny_bind (wpAny_seqItems hTI rfl ?_)
  show wpAny _ _ (Builtin.SmallTypes.ownedTupleIsFree (.ref z) >>= _) _ _ _
  refine wpAny_bind ?_
  unfold Builtin.SmallTypes.ownedTupleIsFree
  refine wpAny_bind (wpAny_field hz rfl (x := .none) rfl (wpAny_pure ?_))
  simp only [if_true]
  refine wpAny_bind (wpAny_rule ?_)
  refine wpAny_bind (wpAny_field hz rfl (x := .ref TO) rfl ?_)
  refine wpAny_bind (wpAny_setField_rec hz (by simp) fun g1 z1 s1 => ?_)
  replace z1 : IsZip g1 z TI TO .ellipsis := z1
  refine wpAny_bind ?_
  simp only [List.zipIdx_cons, List.zipIdx_nil, List.forIn_cons, List.forIn_nil]
  refine wpAny_bind (wpAny_bind (wpAny_onRaise ?_))
  show wpAny _ _ (Builtin.SmallTypes.nextOf (.ref i1) >>= _) _ _ _
  refine wpAny_bind (wpAny_nextOf_list_end hh (h1.extBut s1.extBut D.z1) (hl1.extBut s1.extBut (D.l1 z (by simp))) hx fun g2 e s2 he => ?_)
  obtain ⟨oe, hoe, hce⟩ := he
  have z2 : IsZip g2 z TI TO .ellipsis := s2 _ _ D.z1.symm z1
  have hez : e ≠ z := fun x => by subst x; rw [z2] at hoe; cases hoe; simp at hce
  refine wpAny_setField_rec z2 (by simp) fun g3 _ s3 => hE g3 e (fun d o nd x => s3.extBut _ _ (fun q => nd (by simp [q])) (s2 _ _ (fun q => nd (by simp [q])) (s1.extBut _ _ (fun q => nd (by simp [q])) x))) ⟨oe, s3.extBut _ _ hez hoe, hce⟩
theorem next3_item {z TI TO i1 i2 i3 l1 l2 l3 : Addr} {k : Nat} {xs ys zs : Array Value} {x y u a b c : Value} {Q : Option Value → Shared → Prop} (D : Zap z TI TO i1 i2 i3 l1 l2 l3)
    (hz : IsZip s.heap z TI TO .none) (hTI : IsTrip s.heap TI (.ref i1) (.ref i2) (.ref i3)) (hTO : IsTrip s.heap TO a b c)
    (h1 : s.heap.IsListIter i1 l1 k) (h2 : s.heap.IsListIter i2 l2 k) (h3 : s.heap.IsListIter i3 l3 k) (hl1 : s.heap.IsList l1 xs) (hl2 : s.heap.IsList l2 ys) (hl3 : s.heap.IsList l3 zs)
    (hx : xs[k]? = some x) (hy : ys[k]? = some y) (hu : zs[k]? = some u)
    (hQ : ∀ h', IsZip h' z TI TO (rawInt s.heap.objs.size) → IsTrip h' TO x y u → h'.IsListIter i1 l1 (k + 1) → h'.IsListIter i2 l2 (k + 1) → h'.IsListIter i3 l3 (k + 1) → IsTrip h' s.heap.objs.size x y u →
      (∀ d o, d ∉ [z, TO, i1, i2, i3] → s.heap.get? d = some o → h'.get? d = some o) → Q (some (.ref s.heap.objs.size)) { s with heap := h' }) :
    wpAny (model prog w) A (pyNext (.ref z)) Q E s := by
  have hT : s.TypeIs (.ref z) "zip" := ⟨_, hz, rfl⟩
  unfold pyNext
  exact wpAny_bind (wpAny_attempt (wpAny_callSpecial?_slot (name := Str.ofString "__next__") hT F.slot_zip_next
    (wpAny_call_entry F.slot_zip_next hT F.entry_zip_next
      (zip3_item D hz hTI hTO h1 h2 h3 hl1 hl2 hl3 hx hy hu fun h' a1 a2 a3 a4 a5 a6 a7 => wpAny_pure (hQ h' a1 a2 a3 a4 a5 a6 a7)) (F.args_zip_next_1 _))))
theorem next3_end {z TI TO i1 i2 i3 l1 l2 l3 : Addr} {k : Nat} {xs : Array Value} {a b c : Value} {Q : Option Value → Shared → Prop} (hh : A.handled = none) (D : Zap z TI TO i1 i2 i3 l1 l2 l3)
    (hz : IsZip s.heap z TI TO .none) (hTI : IsTrip s.heap TI (.ref i1) (.ref i2) (.ref i3)) (hTO : IsTrip s.heap TO a b c)
    (h1 : s.heap.IsListIter i1 l1 k) (hl1 : s.heap.IsList l1 xs) (hx : xs[k]? = none)
    (hQ : ∀ h', (∀ d o, d ∉ [z, i1] → s.heap.get? d = some o → h'.get? d = some o) → Q none { s with heap := h' }) : wpAny (model prog w) A (pyNext (.ref z)) Q E s := by
  have hT : s.TypeIs (.ref z) "zip" := ⟨_, hz, rfl⟩
  unfold pyNext
  refine wpAny_bind (wpAny_attempt (wpAny_callSpecial?_slot (name := Str.ofString "__next__") hT F.slot_zip_next
    (wpAny_call_entry F.slot_zip_next hT F.entry_zip_next (zip3_end hh D hz hTI hTO h1 hl1 hx fun h' e hk he => ?_) (F.args_zip_next_1 _))))
  obtain ⟨o, ho, hc⟩ := he
  refine wpAny_bind (wpAny_isInstance (T := "StopIteration") (b := true) ⟨o, ho, hc⟩ isSubtype_stop ?_)
  exact wpAny_pure (hQ _ hk)
end
theorem tycall3 (a b c : Value) : checkTypeCall "zip" ⟨[a, b, c], []⟩ = pure () := by kernel_rfl
theorem nwcall3 (a b c : Value) : checkBuiltinCall "zip.__new__" ⟨[.type "zip", a, b, c], []⟩ = pure () := by kernel_rfl
theorem oinit4 (a b c d : Value) : argsOk "object.__init__" ⟨[a, b, c, d], []⟩ := by
  unfold argsOk; rw [signature?_of (id := "object.__init__") (n := ['_', '_', 't', 'i', 'n', 'i', '_', '_']) (o := ['t', 'c', 'e', 'j', 'b', 'o']) (by kernel_rfl) F.owner_object]; kernel_rfl
abbrev zh1 (h : Heap) (l1 : Addr) : Heap := h.push { cls := .type "list_iterator", data := .fields #[.ref l1, .int 0 0] }
abbrev zh2 (h : Heap) (l1 l2 : Addr) : Heap := zh1 (zh1 h l1) l2
abbrev zh3 (h : Heap) (l1 l2 l3 : Addr) : Heap := zh1 (zh2 h l1 l2) l3
abbrev zh4 (h : Heap) (l1 l2 l3 : Addr) : Heap := (zh3 h l1 l2 l3).push { cls := .type "tuple", data := .seq #[.ref h.objs.size, .ref (zh1 h l1).objs.size, .ref (zh2 h l1 l2).objs.size] }
abbrev zh5 (h : Heap) (l1 l2 l3 : Addr) : Heap := (zh4 h l1 l2 l3).push { cls := .type "tuple", data := .seq #[.none, .none, .none] }
abbrev zh6 (h : Heap) (l1 l2 l3 : Addr) : Heap := (zh5 h l1 l2 l3).push { cls := .type "zip", data := .fields #[.none, .bool false, .bool false, .ref (zh3 h l1 l2 l3).objs.size, .ref (zh4 h l1 l2 l3).objs.size] }
theorem meets3 (l1 l2 l3 : Addr) (xs ys zs : Array Value) :
    Meets (Builtin.«zip.__new__» ⟨[.type "zip", .ref l1, .ref l2, .ref l3], []⟩) (fun _ R s => s.heap.IsList l1 xs ∧ s.heap.IsList l2 ys ∧ s.heap.IsList l3 zs ∧
      R (.ok (.ret (.ref (zh5 s.heap l1 l2 l3).objs.size))) { s with heap := zh6 s.heap l1 l2 l3 }) :=
  .of_wp fun prog w A R s h => by
    obtain ⟨hp, g, d, tk, os⟩ := s; obtain ⟨hl1, hl2, hl3, h⟩ := h
    have hsub := sub_zip
    have hL1 : Heap.IsList (Shared.heap ⟨hp, g, d, tk, os⟩) l1 xs := hl1
    have hL2 : Heap.IsList (Shared.heap ⟨zh1 hp l1, g, d, tk, os⟩) l2 ys := Heap.IsList.push hl2 _
    have hL3 : Heap.IsList (Shared.heap ⟨zh2 hp l1 l2, g, d, tk, os⟩) l3 zs := Heap.IsList.push (Heap.IsList.push hl3 _) _
    wp_walk using wpAny_pyIter_list hL1, wpAny_pyIter_list hL2, wpAny_pyIter_list hL3
    exact ⟨_, rfl, h⟩
section
variable {prog : Program} {w : World} {A : Around} {E : Value → Shared → Prop} {s : Shared}
theorem call3 {l1 l2 l3 : Addr} {xs ys zs : Array Value} {Q : Value → Shared → Prop} (hl1 : s.heap.IsList l1 xs) (hl2 : s.heap.IsList l2 ys) (hl3 : s.heap.IsList l3 zs)
    (h : ∀ h', IsZip h' (s.heap.objs.size + 5) (s.heap.objs.size + 3) (s.heap.objs.size + 4) .none → IsTrip h' (s.heap.objs.size + 3) (.ref s.heap.objs.size) (.ref (s.heap.objs.size + 1)) (.ref (s.heap.objs.size + 2)) →
      IsTrip h' (s.heap.objs.size + 4) .none .none .none → h'.IsListIter s.heap.objs.size l1 0 → h'.IsListIter (s.heap.objs.size + 1) l2 0 → h'.IsListIter (s.heap.objs.size + 2) l3 0 →
      (∀ c o, s.heap.get? c = some o → h'.get? c = some o) → Q (.ref (s.heap.objs.size + 5)) { s with heap := h' }) :
    wpAny (model prog w) A (call (.type "zip") [.ref l1, .ref l2, .ref l3]) Q E s := by
  refine callType_new F.called_zip (by decide) (tycall3 _ _ _) (nwcall3 _ _ _) (fun obj => oinit4 obj _ _ _) F.entry_zip_new
    (meets3 l1 l2 l3 xs ys zs) ⟨hl1, hl2, hl3, ?_⟩
  have z1 : (zh1 s.heap l1).objs.size = s.heap.objs.size + 1 := Heap.size_push ..
  have z2 : (zh2 s.heap l1 l2).objs.size = s.heap.objs.size + 2 := by rw [Heap.size_push, z1]
  have z3 : (zh3 s.heap l1 l2 l3).objs.size = s.heap.objs.size + 3 := by rw [Heap.size_push, z2]
  have z4 : (zh4 s.heap l1 l2 l3).objs.size = s.heap.objs.size + 4 := by rw [Heap.size_push, z3]
  have z5 : (zh5 s.heap l1 l2 l3).objs.size = s.heap.objs.size + 5 := by rw [Heap.size_push, z4]
  have p1 : ∀ (c : Addr) (o : Obj), (zh1 s.heap l1).get? c = some o → (zh6 s.heap l1 l2 l3).get? c = some o := fun c o e => Heap.get?_push_of_some _ (Heap.get?_push_of_some _ (Heap.get?_push_of_some _ (Heap.get?_push_of_some _ (Heap.get?_push_of_some _ e))))
  have p2 : ∀ (c : Addr) (o : Obj), (zh2 s.heap l1 l2).get? c = some o → (zh6 s.heap l1 l2 l3).get? c = some o := fun c o e => Heap.get?_push_of_some _ (Heap.get?_push_of_some _ (Heap.get?_push_of_some _ (Heap.get?_push_of_some _ e)))
  have p3 : ∀ (c : Addr) (o : Obj), (zh3 s.heap l1 l2 l3).get? c = some o → (zh6 s.heap l1 l2 l3).get? c = some o := fun c o e => Heap.get?_push_of_some _ (Heap.get?_push_of_some _ (Heap.get?_push_of_some _ e))
  have g6 : (zh6 s.heap l1 l2 l3).get? (zh5 s.heap l1 l2 l3).objs.size = some _ := Heap.get?_push_size _ rfl
  have g5 : (zh6 s.heap l1 l2 l3).get? (zh4 s.heap l1 l2 l3).objs.size = some _ := Heap.get?_push_of_some _ (Heap.get?_push_size _ rfl)
  have g4 : (zh6 s.heap l1 l2 l3).get? (zh3 s.heap l1 l2 l3).objs.size = some _ := Heap.get?_push_of_some _ (Heap.get?_push_of_some _ (Heap.get?_push_size _ rfl))
  have g3 : (zh6 s.heap l1 l2 l3).get? (zh2 s.heap l1 l2).objs.size = some _ := p3 _ _ (Heap.get?_push_size _ rfl)
  have g2 : (zh6 s.heap l1 l2 l3).get? (zh1 s.heap l1).objs.size = some _ := p2 _ _ (Heap.get?_push_size _ rfl)
  have g1 : (zh6 s.heap l1 l2 l3).get? s.heap.objs.size = some _ := p1 _ _ (Heap.get?_push_size _ rfl)
  show _ ∧ _
  rw [z3, z4, z5] at g6
  rw [z1, z2, z3] at g4
  rw [z4] at g5
  rw [z2] at g3
  rw [z1] at g2
  rw [z5]
  exact ⟨⟨_, g6, rfl⟩, h _ g6 g4 g5 ⟨_, g1, rfl, rfl⟩ ⟨_, g2, rfl, rfl⟩ ⟨_, g3, rfl, rfl⟩ fun c o x => p1 c o (Heap.get?_push_of_some _ x)⟩
end
/-- three rows of one length, the items in new triples -/
def Itz3 (K : PySem.W.Frag) (a b c : Addr) : It :=
  ⟨fun i H => ∃ (xs ys zs : List V) (x y u : V), SqL K H a xs ∧ SqL K H b ys ∧ SqL K H c zs ∧ xs[i]? = some x ∧ ys[i]? = some y ∧ zs[i]? = some u,
    fun i H v H' => ∃ T x y u, v = .ref T ∧ H T = none ∧ H' = upd H T (.tup [x, y, u]) ∧ (∀ xs, SqL K H a xs → xs[i]? = some x) ∧ (∀ ys, SqL K H b ys → ys[i]? = some y) ∧ ∀ zs, SqL K H c zs → zs[i]? = some u,
    fun i H => ∃ xs : List V, SqL K H a xs ∧ xs.length ≤ i⟩
theorem turn3 {P : Program} {w : World} {K : PySem.W.Frag} {elts : List Expr} {kk : Nat} {tpos : Pos} {a b c z TI TO i1 i2 i3 : Addr} (D : Zap z TI TO i1 i2 i3 a b c) :
    Turn P w K (.Tuple elts kk tpos) (Itz3 K a b c) [z, TI, TO, i1, i2, i3] z (fun i h => IsZip h z TI TO .none ∧ IsTrip h TI (.ref i1) (.ref i2) (.ref i3) ∧ (∃ x y u, IsTrip h TO x y u) ∧ h.IsListIter i1 a i ∧ h.IsListIter i2 b i ∧ h.IsListIter i3 c i) where
  mem := by simp
  obj := fun i h st d hd => by
    obtain ⟨hz, hTI, ⟨x, y, u, hTO⟩, ⟨o1, e1, _, d1⟩, ⟨o2, e2, _, d2⟩, ⟨o3, e3, _, d3⟩⟩ := st
    have e' : d = z ∨ d = TI ∨ d = TO ∨ d = i1 ∨ d = i2 ∨ d = i3 := by simpa using hd
    rcases e' with q | q | q | q | q | q
    · rw [q]; exact ⟨_, hz, fun v q => nomatch q⟩
    · rw [q]; exact ⟨_, hTI, fun v q => nomatch q⟩
    · rw [q]; exact ⟨_, hTO, fun v q => nomatch q⟩
    · rw [q]; exact ⟨o1, e1, fun v q => by rw [d1] at q; cases q⟩
    · rw [q]; exact ⟨o2, e2, fun v q => by rw [d2] at q; cases q⟩
    · rw [q]; exact ⟨o3, e3, fun v q => by rw [d3] at q; cases q⟩
  keep := fun i h h' st k => by
    obtain ⟨hz, hTI, ⟨x, y, u, hTO⟩, h1, h2, h3⟩ := st
    exact ⟨k z (by simp) _ hz, k TI (by simp) _ hTI, ⟨x, y, u, k TO (by simp) _ hTO⟩, h1.at fun o q => k i1 (by simp) o q, h2.at fun o q => k i2 (by simp) o q, h3.at fun o q => k i3 (by simp) o q⟩
  item := by
    intro X hP hw hK hc i pins s σ H E I hf st hg
    subst hP hw hK
    obtain ⟨hz, hTI, ⟨x0, y0, u0, hTO⟩, h1, h2, h3⟩ := st
    obtain ⟨xs, ys, zs, x, y, u, hqx, hqy, hqz, hx, hy, hu⟩ := hg
    obtain ⟨its, rv, p, _⟩ := I.list hqx
    obtain ⟨its2, rv2, p2, _⟩ := I.list hqy
    obtain ⟨its3, rv3, p3, _⟩ := I.list hqz
    obtain ⟨v1, hv1, r1⟩ := rv.get hx
    obtain ⟨v2, hv2, r2⟩ := rv2.get hy
    obtain ⟨v3, hv3, r3⟩ := rv3.get hu
    have hzl : z < s.heap.objs.size := Heap.lt_size hz
    refine next3_item D hz hTI hTO h1 h2 h3 p.isList p2.isList p3.isList (x := v1) (y := v2) (u := v3) (by simpa using hv1) (by simpa using hv2) (by simpa using hv3) fun h' z' TO' h1' h2' h3' hT hk => ?_
    refine ⟨_, rfl, wpAny_letOwnedTupleGo_zip (s := { s with heap := h' }) z' fun h'' z'' sb => ?_⟩
    have hT2 : h''.get? s.heap.objs.size = some { cls := .type "tuple", data := .seq #[v1, v2, v3] } := (sb.2 _ (Nat.ne_of_gt hzl)).trans hT
    have new : ObjOk X.prog X.w (upd H s.heap.objs.size (.tup [x, y, u])) h'' s.heap.objs.size (.tup [x, y, u]) :=
      ⟨by show 3 ≤ sizeLine; decide, [v1, v2, v3], .cons r1 (.cons r2 (.cons r3 .nil)), ⟨_, hT2, rfl, _, rfl⟩⟩
    have I1 : Inv X pins σ (upd H s.heap.objs.size (.tup [x, y, u])) { s with heap := h'' } :=
      I.turnedNew (t' := s.toks) (ch := [z, TI, TO, i1, i2, i3]) (fun d o hb q => (sb.2 d (fun q' => hb (by simp [q']))).trans (hk d o (fun q' => hb (by simp at q' ⊢; rcases q' with e | e | e | e | e <;> simp [e])) q)) hf (Nat.le_refl _) new
    refine ⟨.ref s.heap.objs.size, _, I1, rfl, ⟨_, x, y, u, rfl, I.hok.fresh (Nat.le_refl _), rfl, fun l hl => by rw [I.list_inj hl hqx]; exact hx, fun l hl => by rw [I.list_inj hl hqy]; exact hy, fun l hl => by rw [I.list_inj hl hqz]; exact hu⟩, ⟨z'', ?_, ⟨v1, v2, v3, ?_⟩, ?_, ?_, ?_⟩, fun d hcm => ?_⟩
    · exact (sb.2 _ D.TIz).trans (hk _ _ (by simp [D.TIz, D.TITO, D.TI1, D.TI2, D.TI3]) hTI)
    · exact (sb.2 _ D.TOz).trans TO'
    · exact h1'.at fun o q => (sb.2 _ D.z1).trans q
    · exact h2'.at fun o q => (sb.2 _ D.z2).trans q
    · exact h3'.at fun o q => (sb.2 _ D.z3).trans q
    · have hlt : d < s.heap.objs.size := by
        have e' : d = z ∨ d = TI ∨ d = TO ∨ d = i1 ∨ d = i2 ∨ d = i3 := by simpa using hcm
        rcases e' with q | q | q | q | q | q
        · rw [q]; exact hzl
        · rw [q]; exact Heap.lt_size hTI
        · rw [q]; exact Heap.lt_size hTO
        · rw [q]; obtain ⟨_, e1, _⟩ := h1; exact Heap.lt_size e1
        · rw [q]; obtain ⟨_, e2, _⟩ := h2; exact Heap.lt_size e2
        · rw [q]; obtain ⟨_, e3, _⟩ := h3; exact Heap.lt_size e3
      rw [upd_ne (Nat.ne_of_lt hlt)]
      exact (hf d hcm).1
  done := by
    intro X hP hw hK hc i pins s σ H E I hf st hg
    subst hP hw hK
    obtain ⟨hz, hTI, ⟨x0, y0, u0, hTO⟩, h1, h2, h3⟩ := st
    obtain ⟨xs, hqx, hend⟩ := hg
    obtain ⟨its, rv, p, _⟩ := I.list hqx
    have l1 := rv.length
    have he : its.toArray[i]? = none := by simp; omega
    exact next3_end (I.ok.hd hc) D hz hTI hTO h1 p.isList he fun h' hk => ⟨rfl, I.turnedL (t' := s.toks) (ch := [z, TI, TO, i1, i2, i3]) (fun d o hb q =>
      hk d o (fun q' => hb (by simp at q' ⊢; rcases q' with e | e <;> simp [e])) q) hf⟩
  self := fun A i s Q E st h => wpAny_pyIter_zip st.1 h
end MR
/-! MZip2: for over zip of three rows. -/
namespace MR
open PySem PySem.Spec PyProof.Rows L2
def iZip3 (K : PySem.W.Frag) (ta : TA) : TI := fun σ H R => ta σ H fun vs H1 => ∃ a b c xs ys zs, vs = [.ref a, .ref b, .ref c] ∧ SqL K H1 a xs ∧ SqL K H1 b ys ∧ SqL K H1 c zs ∧ R (Itz3 K a b c) H1
theorem pi_zip3 {X : Cx} {e e2 e3 : Expr} {ta : TA} {p pos tpos : Pos} {elts : List Expr} {kk : Nat} (hg : Gl X "zip") (hm : X.mg "zip" = none) (ha : PA X [e, e2, e3] ta)
    (hs : starEach [e, e2, e3] X.env = (false, eval e X.env) :: starEach [e2, e3] X.env := by rfl) (hpl : (backTo pos (starEach [e2, e3] X.env)).any (·.1) = false := by rfl) :
    PI X (.Tuple elts kk tpos) (.Call (.Name "zip" p) [e, e2, e3] [] pos) (iZip3 X.K ta) := by
  refine ⟨fun pins s σ H R I h => ?_⟩
  refine Call_ (ld_blt I hg hm PyProof.Rows.boot_zip (PyProof.Rows.callWith_type1 (thn (ha.run pos pins s σ H _ I h) fun us s1 ⟨vs, H1, I1, r1, q1⟩ => ?_) hs hpl))
  obtain ⟨a, b, c, xs, ys, zs, ex, hqx, hqy, hqz, q⟩ := q1
  subst ex
  cases r1 with
  | cons ra rr =>
    cases rr with
    | cons rb rr =>
      cases rr with
      | cons rc rr =>
        cases rr
        cases ra
        cases rb
        cases rc
        obtain ⟨its, rv, p1, _⟩ := I1.list hqx
        obtain ⟨its2, rv2, p2, _⟩ := I1.list hqy
        obtain ⟨its3, rv3, p3, _⟩ := I1.list hqz
        refine call3 p1.isList p2.isList p3.isList fun h' hz hTI hTO h1 h2 h3 hk => wpAny_pyIter_zip hz ?_
        have I2 : Inv X pins σ H1 { s1 with heap := h' } := I1.kept (t' := s1.toks) hk
        refine ⟨s1.heap.objs.size + 5, [s1.heap.objs.size + 5, s1.heap.objs.size + 3, s1.heap.objs.size + 4, s1.heap.objs.size, s1.heap.objs.size + 1, s1.heap.objs.size + 2], _, _, H1, rfl, I2, turn3 (zap_of s1.heap.objs.size a b c p1.lt p2.lt p3.lt), ⟨hz, hTI, ⟨_, _, _, hTO⟩, h1, h2, h3⟩, fun d hcm => ?_, q⟩
        have hle : s1.heap.objs.size ≤ d := by
          have e' : d = s1.heap.objs.size + 5 ∨ d = s1.heap.objs.size + 3 ∨ d = s1.heap.objs.size + 4 ∨ d = s1.heap.objs.size ∨ d = s1.heap.objs.size + 1 ∨ d = s1.heap.objs.size + 2 := by simpa using hcm
          rcases e' with z | z | z | z | z | z
          · rw [z]; exact Nat.le_add_right _ _
          · rw [z]; exact Nat.le_add_right _ _
          · rw [z]; exact Nat.le_add_right _ _
          · rw [z]; exact Nat.le_refl _
          · rw [z]; exact Nat.le_add_right _ _
          · rw [z]; exact Nat.le_add_right _ _
        exact I1.fpOk hle (I1.hok.fresh hle)
section
variable {X : Cx} {g : Gm} {Wx : WX} {e a b c e2 e3 elt iter tg : Expr} {m ma mb mc me : M} {pos apos cpos p : Pos} {k : Nat} {es : List Expr} {ms : M} {sts : List Stmt} {s1 s : MS} {mt : TgM}
/-- a row that stays -/
def LOk (g : Gm) (a : Addr) (ws : List W) (r : List Addr) (H : Hp) : Prop := a ∉ r ∧ ∃ xs, Rd H a (.lst xs) ∧ RVs g.K r H ws xs
theorem LOk.sq {a : Addr} {ws : List W} {r : List Addr} {H : Hp} (o : LOk g a ws r H) : ∃ xs, SqL g.K H a xs ∧ RVs g.K r H ws xs := by
  obtain ⟨_, xs, q, z⟩ := o
  exact ⟨xs, .inl q, z⟩
theorem LOk.gro {a : Addr} {ws : List W} {r r' : List Addr} {H H' : Hp} (o : LOk g a ws r H) (G : Gro r H r' H') : LOk g a ws r' H' := by
  obtain ⟨na, xs, q, z⟩ := o
  obtain ⟨h1, h2⟩ := G.rd na q
  exact ⟨h1, xs, h2, RVs.gro G _ _ z⟩
theorem LOk.of {l : List W} {r : List Addr} {H : Hp} {v : V} (q : RV g.K r H (.lst l) v) : ∃ a, v = .ref a ∧ LOk g a l r H := by
  simp only [RV] at q
  obtain ⟨p, vs, rfl, ⟨na, hp⟩, q⟩ := q
  exact ⟨p, rfl, na, vs, .inl hp, q⟩
def zip3W : List W → List W → List W → List W
  | x :: xs, y :: ys, u :: us => .tup [x, y, u] :: zip3W xs ys us
  | _, _, _ => []
theorem zip3W_len : ∀ {xs ys us : List W}, xs.length = ys.length → ys.length = us.length → (zip3W xs ys us).length = xs.length
  | [], ys, us, h1, h2 => by cases ys <;> simp [zip3W]
  | x :: xs, [], us, h1, h2 => by simp at h1
  | x :: xs, y :: ys, [], h1, h2 => by simp at h2
  | x :: xs, y :: ys, u :: us, h1, h2 => by
    simp only [zip3W, List.length_cons] at *
    rw [zip3W_len (by omega) (by omega)]
theorem zip3W_get : ∀ {xs ys us : List W} {i : Nat} {x y u : W}, xs[i]? = some x → ys[i]? = some y → us[i]? = some u → (zip3W xs ys us)[i]? = some (.tup [x, y, u])
  | [], ys, us, i, x, y, u, h1, h2, h3 => by simp at h1
  | x0 :: xs, [], us, i, x, y, u, h1, h2, h3 => by simp at h2
  | x0 :: xs, y0 :: ys, [], i, x, y, u, h1, h2, h3 => by simp at h3
  | x0 :: xs, y0 :: ys, u0 :: us, 0, x, y, u, h1, h2, h3 => by
    simp at h1 h2 h3
    subst h1 h2 h3
    rfl
  | x0 :: xs, y0 :: ys, u0 :: us, i + 1, x, y, u, h1, h2, h3 => by
    show (zip3W xs ys us)[i]? = _
    exact zip3W_get (by simpa using h1) (by simpa using h2) (by simpa using h3)
theorem src_zip3 {a b c : Addr} {xs ys us : List W} (h1 : xs.length = ys.length) (h2 : ys.length = us.length) :
    Src g (fun _ => True) (Itz3 g.K a b c) (zip3W xs ys us) (fun r _ H => LOk g a xs r H ∧ LOk g b ys r H ∧ LOk g c us r H) := by
  have hl := zip3W_len h1 h2
  refine ⟨fun i r h H hi R o => ?_, fun r h H R o => ?_, fun i r h H x H' hi R o y => ?_, fun r h H r' h' H' o G _ => ⟨o.1.gro G, o.2.1.gro G, o.2.2.gro G⟩⟩
  · rw [hl] at hi
    obtain ⟨vx, q1, z1⟩ := o.1.sq
    obtain ⟨vy, q2, z2⟩ := o.2.1.sq
    obtain ⟨vu, q3, z3⟩ := o.2.2.sq
    obtain ⟨x, e1, _⟩ := z1.get (List.getElem?_eq_getElem hi)
    obtain ⟨y, e2, _⟩ := z2.get (List.getElem?_eq_getElem (h1 ▸ hi))
    obtain ⟨u, e3, _⟩ := z3.get (List.getElem?_eq_getElem (h2 ▸ h1 ▸ hi))
    exact ⟨vx, vy, vu, x, y, u, q1, q2, q3, e1, e2, e3⟩
  · obtain ⟨vx, q1, z1⟩ := o.1.sq
    exact ⟨vx, q1, by rw [hl, z1.len]; exact Nat.le_refl _⟩
  · rw [hl] at hi
    obtain ⟨vx, q1, z1⟩ := o.1.sq
    obtain ⟨vy, q2, z2⟩ := o.2.1.sq
    obtain ⟨vu, q3, z3⟩ := o.2.2.sq
    obtain ⟨x', e1, r1⟩ := z1.get (List.getElem?_eq_getElem hi)
    obtain ⟨y', e2, r2⟩ := z2.get (List.getElem?_eq_getElem (h1 ▸ hi))
    obtain ⟨u', e3, r3⟩ := z3.get (List.getElem?_eq_getElem (h2 ▸ h1 ▸ hi))
    obtain ⟨T, x0, y0, u0, rfl, hT, rfl, k1, k2, k3⟩ := y
    have f1 := k1 _ q1
    rw [e1] at f1; cases f1
    have f2 := k2 _ q2
    rw [e2] at f2; cases f2
    have f3 := k3 _ q3
    rw [e3] at f3; cases f3
    refine ⟨_, zip3W_get (List.getElem?_eq_getElem hi) (List.getElem?_eq_getElem (h1 ▸ hi)) (List.getElem?_eq_getElem (h2 ▸ h1 ▸ hi)), Gro.upd hT, R.upd hT, ?_⟩
    simp only [RV]
    exact ⟨T, _, rfl, ⟨R.fresh hT, upd_same⟩, .cons (RV.gro (Gro.upd hT) _ _ r1) (.cons (RV.gro (Gro.upd hT) _ _ r2) (.cons (RV.gro (Gro.upd hT) _ _ r3) .nil))⟩
/-- for x, y, z in zip(..) -/
noncomputable def sForZ3 (ms : M) (mt : TgM) (s : MS) : MS := fun L h => (ms L h).thnL L fun ws h1 => match ws with
  | [.lst xs, .lst ys, .lst us] => if xs.length = ys.length ∧ ys.length = us.length then loopX (fun _ => True) mt s (zip3W xs ys us) L h1 else .bad
  | _ => .bad
theorem forZ3_ok {elts : List Expr} {kk : Nat} {tpos p2 : Pos} (hk : Kx X g Wx) (hp : PassesOwn (model X.prog X.w) X.A X.env X.xe) (hgl : Gl X "zip") (hm : X.mg "zip" = none) (ha : PAM X g Wx [a, b, c] ms) (hg : PGM X g (.Tuple elts kk tpos) mt) (hb : PSsM X g Wx sts s1)
    (hs : starEach [a, b, c] X.env = (false, eval a X.env) :: starEach [b, c] X.env := by rfl) (hpl : (backTo p2 (starEach [b, c] X.env)).any (·.1) = false := by rfl) (hf : ∀ x, foldedSetIterable (.Call (.Name "zip" p) [a, b, c] [] p2) X.env x = pure x := by intro _; rfl) (hc : X.calm = true := by rfl) :
    PSM X g Wx (.For (.Tuple elts kk tpos) (.Call (.Name "zip" p) [a, b, c] [] p2) sts [] pos) (sForZ3 ms mt s1) :=
  ps_imp (ps_for hp hc (pi_zip3 hgl hm ha hs hpl) hg hb hf) fun D σ H ⟨r, h, L, A, q⟩ => by
    obtain ⟨r0, h0, L0, A0, q0⟩ := tSL_step (ms := ms) A q
    refine ⟨r0, h0, L0, A0, q0.imp fun vs H1 ⟨r1, h1, ws, A1, G1, x1, q1⟩ => ?_⟩
    split at q1
    · rename_i xs ys us
      obtain ⟨v1, t1, rfl, f1, x2⟩ := x1.inv
      obtain ⟨v2, v3, rfl, f2, f3⟩ := RVs.two_inv x2
      obtain ⟨a1, rfl, o1⟩ := LOk.of f1
      obtain ⟨a2, rfl, o2⟩ := LOk.of f2
      obtain ⟨a3, rfl, o3⟩ := LOk.of f3
      split at q1
      · rename_i hl
        obtain ⟨w1, s1', _⟩ := o1.sq
        obtain ⟨w2, s2', _⟩ := o2.sq
        obtain ⟨w3, s3', _⟩ := o3.sq
        refine ⟨a1, a2, a3, w1, w2, w3, rfl, ?_, ?_, ?_, ?_⟩
        · rw [hk.hK]; exact s1'
        · rw [hk.hK]; exact s2'
        · rw [hk.hK]; exact s3'
        · rw [hk.hK]; exact loopX_run (src_zip3 hl.1 hl.2) A1 ⟨o1, o2, o3⟩ q1
      · exact q1.elim
    · exact q1.elim
end
end MR
/-! MPlain: the mirrors run by simp: each combinator applied, frames in stead of functions. -/
namespace MR
open PySem (PyData Str)

/-! ### the heap -/
/-- what stands outside the touched places still stands -/
def Fr (ts : List Nat) (h h' : Hq) : Prop := ∀ b c, b ∉ ts → h[b]? = some c → h'[b]? = some c
theorem Fr.refl {ts : List Nat} {h : Hq} : Fr ts h h := fun _ _ _ e => e
theorem Fr.trans {ts : List Nat} {h h1 h2 : Hq} (a : Fr ts h h1) (b : Fr ts h1 h2) : Fr ts h h2 := fun x c n e => b x c n (a x c n e)
theorem Fr.mono {ts us : List Nat} {h h' : Hq} (a : Fr ts h h') (s : ∀ x, x ∈ ts → x ∈ us) : Fr us h h' := fun x c n e => a x c (fun z => n (s x z)) e
theorem hlt {h : Hq} {a : Nat} {c : Cell} (e : h[a]? = some c) : a < h.length := (List.getElem?_eq_some_iff.mp e).1
@[simp] theorem hset_self {h : Hq} {a : Nat} {c d : Cell} (e : h[a]? = some d) : (h.set a c)[a]? = some c := List.getElem?_set_self (hlt e)
theorem hset_ne {h : Hq} {a b : Nat} {c : Cell} (n : a ≠ b) : (h.set a c)[b]? = h[b]? := List.getElem?_set_ne n
theorem happ {h l : Hq} {a : Nat} {c : Cell} (e : h[a]? = some c) : (h ++ l)[a]? = some c := by rw [List.getElem?_append_left (hlt e)]; exact e
theorem hnew {h : Hq} {c : Cell} : (h ++ [c])[h.length]? = some c := by simp
@[simp] theorem hset_app {h : Hq} {c d : Cell} : (h ++ [c]).set h.length d = h ++ [d] := by simp
theorem hset_appl {h l : Hq} {a : Nat} {c d : Cell} (e : h[a]? = some d) : (h ++ l).set a c = h.set a c ++ l := by rw [List.set_append_left _ _ (hlt e)]
theorem hset_same {h : Hq} {a : Nat} {c : Cell} (e : h[a]? = some c) : h.set a c = h := by
  apply List.ext_getElem?
  intro i
  by_cases hi : a = i
  · subst hi; rw [hset_self e, e]
  · rw [hset_ne hi]
theorem Fr.set {h : Hq} {a : Nat} {c : Cell} : Fr [a] h (h.set a c) := fun b d n e => by
  rw [hset_ne (fun z => n (by simp [z]))]; exact e
theorem Fr.app {ts : List Nat} {h l : Hq} : Fr ts h (h ++ l) := fun b d n e => happ e

/-! ### frames -/
@[simp] theorem mVar_ap (i : Nat) (L : Loc) (h : Hq) : mVar i L h = match L[i]? with
  | some (some w) => .ok w h
  | _ => .bad := Eq.trans rfl rfl
@[simp] theorem mC_ap (w : W) (L : Loc) (h : Hq) : mC w L h = .ok w h := Eq.trans rfl rfl
def kBin2 (f : W → W → Hq → Rs) (x : W) : Rs → Rs
  | .ok y h => f x y h
  | .ex c fs h => .ex c fs h
  | .bad => .bad
@[simp] theorem kBin2_e1  (f : W → W → Hq → Rs) (x : W) (y : W) (h : Hq) : kBin2 f x (.ok y h) = f x y h := Eq.trans rfl rfl
@[simp] theorem kBin2_e2  (f : W → W → Hq → Rs) (x : W) (c : Nat) (fs : List (Nat × W)) (h : Hq) : kBin2 f x (.ex c fs h) = .ex c fs h := Eq.trans rfl rfl
@[simp] theorem kBin2_e3  (f : W → W → Hq → Rs) (x : W)  : kBin2 f x (.bad) = .bad := Eq.trans rfl rfl
def kBin1 (f : W → W → Hq → Rs) (mb : M) (L : Loc) : Rs → Rs
  | .ok x h => kBin2 f x (mb L h)
  | .ex c fs h => .ex c fs h
  | .bad => .bad
@[simp] theorem kBin1_e1  (f : W → W → Hq → Rs) (mb : M) (L : Loc) (x : W) (h : Hq) : kBin1 f mb L (.ok x h) = kBin2 f x (mb L h) := Eq.trans rfl rfl
@[simp] theorem kBin1_e2  (f : W → W → Hq → Rs) (mb : M) (L : Loc) (c : Nat) (fs : List (Nat × W)) (h : Hq) : kBin1 f mb L (.ex c fs h) = .ex c fs h := Eq.trans rfl rfl
@[simp] theorem kBin1_e3  (f : W → W → Hq → Rs) (mb : M) (L : Loc)  : kBin1 f mb L (.bad) = .bad := Eq.trans rfl rfl
@[simp] theorem mBin_ap (f : W → W → Hq → Rs) (ma mb : M) (L : Loc) (h : Hq) : mBin f ma mb L h = kBin1 f mb L (ma L h) := by
  unfold mBin
  cases ma L h with
  | ok x h1 =>
    show (mb L h1).bind _ = kBin2 f x (mb L h1)
    cases mb L h1 <;> rfl
  | _ => rfl
/-- a test's value, a value's truth -/
def kTru : Rs → Rs
  | .ok x h => (match tru x h with
    | some k => .ok (.bl k) h
    | none => .bad)
  | .ex c fs h => .ex c fs h
  | .bad => .bad
@[simp] theorem kTru_e1  (x : W) (h : Hq) : kTru  (.ok x h) = ((match tru x h with
    | some k => .ok (.bl k) h
    | none => .bad)) := rfl
@[simp] theorem kTru_e2  (c : Nat) (fs : List (Nat × W)) (h : Hq) : kTru  (.ex c fs h) = .ex c fs h := Eq.trans rfl rfl
@[simp] theorem kTru_e3   : kTru  (.bad) = .bad := Eq.trans rfl rfl
@[simp] theorem mTru_ap (m : M) (L : Loc) (h : Hq) : mTru m L h = kTru (m L h) := by unfold mTru; cases m L h <;> rfl
def kNot : Rs → Rs
  | .ok x h => (match tru x h with
    | some k => .ok (.bl !k) h
    | none => .bad)
  | .ex c fs h => .ex c fs h
  | .bad => .bad
@[simp] theorem kNot_e1  (x : W) (h : Hq) : kNot  (.ok x h) = ((match tru x h with
    | some k => .ok (.bl !k) h
    | none => .bad)) := rfl
@[simp] theorem kNot_e2  (c : Nat) (fs : List (Nat × W)) (h : Hq) : kNot  (.ex c fs h) = .ex c fs h := Eq.trans rfl rfl
@[simp] theorem kNot_e3   : kNot  (.bad) = .bad := Eq.trans rfl rfl
@[simp] theorem mNot_ap (m : M) (L : Loc) (h : Hq) : mNot m L h = kNot (m L h) := by unfold mNot; cases m L h <;> rfl
def kNotT : Rs → Rs
  | .ok (.bl k) h => .ok (.bl !k) h
  | .ok _ _ => .bad
  | .ex c fs h => .ex c fs h
  | .bad => .bad
@[simp] theorem kNotT_e1  (k : Bool) (h : Hq) : kNotT  (.ok (.bl k) h) = .ok (.bl !k) h := Eq.trans rfl rfl
@[simp] theorem kNotT_e2  (c : Nat) (fs : List (Nat × W)) (h : Hq) : kNotT  (.ex c fs h) = .ex c fs h := Eq.trans rfl rfl
@[simp] theorem kNotT_e3   : kNotT  (.bad) = .bad := Eq.trans rfl rfl
@[simp] theorem mNotT_ap (m : M) (L : Loc) (h : Hq) : mNotT m L h = kNotT (m L h) := by
  unfold mNotT
  cases m L h with
  | ok w h => cases w <;> rfl
  | _ => rfl
def kAndT (mb : M) (L : Loc) : Rs → Rs
  | .ok (.bl true) h => mb L h
  | .ok (.bl false) h => .ok (.bl false) h
  | .ok _ _ => .bad
  | .ex c fs h => .ex c fs h
  | .bad => .bad
@[simp] theorem kAndT_e1  (mb : M) (L : Loc) (h : Hq) : kAndT mb L (.ok (.bl true) h) = mb L h := Eq.trans rfl rfl
@[simp] theorem kAndT_e2  (mb : M) (L : Loc) (h : Hq) : kAndT mb L (.ok (.bl false) h) = .ok (.bl false) h := Eq.trans rfl rfl
@[simp] theorem kAndT_e3  (mb : M) (L : Loc) (c : Nat) (fs : List (Nat × W)) (h : Hq) : kAndT mb L (.ex c fs h) = .ex c fs h := Eq.trans rfl rfl
@[simp] theorem kAndT_e4  (mb : M) (L : Loc)  : kAndT mb L (.bad) = .bad := Eq.trans rfl rfl
@[simp] theorem mAndT_ap (ma mb : M) (L : Loc) (h : Hq) : mAndT ma mb L h = kAndT mb L (ma L h) := by
  unfold mAndT
  cases ma L h with
  | ok w h =>
    cases w with
    | bl k => cases k <;> rfl
    | _ => rfl
  | _ => rfl
def kOrT (mb : M) (L : Loc) : Rs → Rs
  | .ok (.bl true) h => .ok (.bl true) h
  | .ok (.bl false) h => mb L h
  | .ok _ _ => .bad
  | .ex c fs h => .ex c fs h
  | .bad => .bad
@[simp] theorem kOrT_e1  (mb : M) (L : Loc) (h : Hq) : kOrT mb L (.ok (.bl true) h) = .ok (.bl true) h := Eq.trans rfl rfl
@[simp] theorem kOrT_e2  (mb : M) (L : Loc) (h : Hq) : kOrT mb L (.ok (.bl false) h) = mb L h := Eq.trans rfl rfl
@[simp] theorem kOrT_e3  (mb : M) (L : Loc) (c : Nat) (fs : List (Nat × W)) (h : Hq) : kOrT mb L (.ex c fs h) = .ex c fs h := Eq.trans rfl rfl
@[simp] theorem kOrT_e4  (mb : M) (L : Loc)  : kOrT mb L (.bad) = .bad := Eq.trans rfl rfl
@[simp] theorem mOrT_ap (ma mb : M) (L : Loc) (h : Hq) : mOrT ma mb L h = kOrT mb L (ma L h) := by
  unfold mOrT
  cases ma L h with
  | ok w h =>
    cases w with
    | bl k => cases k <;> rfl
    | _ => rfl
  | _ => rfl
def kAnd (mb : M) (L : Loc) : Rs → Rs
  | .ok x h => (match tru x h with
    | some true => mb L h
    | some false => .ok x h
    | none => .bad)
  | .ex c fs h => .ex c fs h
  | .bad => .bad
@[simp] theorem kAnd_e1  (mb : M) (L : Loc) (x : W) (h : Hq) : kAnd mb L (.ok x h) = ((match tru x h with
    | some true => mb L h
    | some false => .ok x h
    | none => .bad)) := rfl
@[simp] theorem kAnd_e2  (mb : M) (L : Loc) (c : Nat) (fs : List (Nat × W)) (h : Hq) : kAnd mb L (.ex c fs h) = .ex c fs h := Eq.trans rfl rfl
@[simp] theorem kAnd_e3  (mb : M) (L : Loc)  : kAnd mb L (.bad) = .bad := Eq.trans rfl rfl
@[simp] theorem mAnd_ap (ma mb : M) (L : Loc) (h : Hq) : mAnd ma mb L h = kAnd mb L (ma L h) := by unfold mAnd; cases ma L h <;> rfl
def kOr (mb : M) (L : Loc) : Rs → Rs
  | .ok x h => (match tru x h with
    | some false => mb L h
    | some true => .ok x h
    | none => .bad)
  | .ex c fs h => .ex c fs h
  | .bad => .bad
@[simp] theorem kOr_e1  (mb : M) (L : Loc) (x : W) (h : Hq) : kOr mb L (.ok x h) = ((match tru x h with
    | some false => mb L h
    | some true => .ok x h
    | none => .bad)) := rfl
@[simp] theorem kOr_e2  (mb : M) (L : Loc) (c : Nat) (fs : List (Nat × W)) (h : Hq) : kOr mb L (.ex c fs h) = .ex c fs h := Eq.trans rfl rfl
@[simp] theorem kOr_e3  (mb : M) (L : Loc)  : kOr mb L (.bad) = .bad := Eq.trans rfl rfl
@[simp] theorem mOr_ap (ma mb : M) (L : Loc) (h : Hq) : mOr ma mb L h = kOr mb L (ma L h) := by unfold mOr; cases ma L h <;> rfl
def kIf (ma mb : M) (L : Loc) : Rs → Rs
  | .ok (.bl true) h => ma L h
  | .ok (.bl false) h => mb L h
  | .ok _ _ => .bad
  | .ex c fs h => .ex c fs h
  | .bad => .bad
@[simp] theorem kIf_e1  (ma mb : M) (L : Loc) (h : Hq) : kIf ma mb L (.ok (.bl true) h) = ma L h := Eq.trans rfl rfl
@[simp] theorem kIf_e2  (ma mb : M) (L : Loc) (h : Hq) : kIf ma mb L (.ok (.bl false) h) = mb L h := Eq.trans rfl rfl
@[simp] theorem kIf_e3  (ma mb : M) (L : Loc) (c : Nat) (fs : List (Nat × W)) (h : Hq) : kIf ma mb L (.ex c fs h) = .ex c fs h := Eq.trans rfl rfl
@[simp] theorem kIf_e4  (ma mb : M) (L : Loc)  : kIf ma mb L (.bad) = .bad := Eq.trans rfl rfl
@[simp] theorem mIf_ap (mc ma mb : M) (L : Loc) (h : Hq) : mIf mc ma mb L h = kIf ma mb L (mc L h) := by
  unfold mIf
  cases mc L h with
  | ok w h =>
    cases w with
    | bl k => cases k <;> rfl
    | _ => rfl
  | _ => rfl
/-! a test that is not known yet: by cases -/
theorem kIf_dec {ma mb : M} {L : Loc} {b : Bool} {h : Hq} : kIf ma mb L (.ok (.bl b) h) = if b = true then ma L h else mb L h := by cases b <;> rfl
theorem kAndT_dec {mb : M} {L : Loc} {b : Bool} {h : Hq} : kAndT mb L (.ok (.bl b) h) = if b = true then mb L h else .ok (.bl false) h := by cases b <;> rfl
theorem kOrT_dec {mb : M} {L : Loc} {b : Bool} {h : Hq} : kOrT mb L (.ok (.bl b) h) = if b = true then .ok (.bl true) h else mb L h := by cases b <;> rfl
@[simp] theorem mNil_ap (L : Loc) (h : Hq) : mNil L h = .ok (.tup []) h := Eq.trans rfl rfl
def kCons2 (x : W) : Rs → Rs
  | .ok (.tup xs) h => .ok (.tup (x :: xs)) h
  | .ok _ _ => .bad
  | .ex c fs h => .ex c fs h
  | .bad => .bad
@[simp] theorem kCons2_e1  (x : W) (xs : List W) (h : Hq) : kCons2 x (.ok (.tup xs) h) = .ok (.tup (x :: xs)) h := Eq.trans rfl rfl
@[simp] theorem kCons2_e2  (x : W) (c : Nat) (fs : List (Nat × W)) (h : Hq) : kCons2 x (.ex c fs h) = .ex c fs h := Eq.trans rfl rfl
@[simp] theorem kCons2_e3  (x : W)  : kCons2 x (.bad) = .bad := Eq.trans rfl rfl
def kCons1 (mr : M) (L : Loc) : Rs → Rs
  | .ok x h => kCons2 x (mr L h)
  | .ex c fs h => .ex c fs h
  | .bad => .bad
@[simp] theorem kCons1_e1  (mr : M) (L : Loc) (x : W) (h : Hq) : kCons1 mr L (.ok x h) = kCons2 x (mr L h) := Eq.trans rfl rfl
@[simp] theorem kCons1_e2  (mr : M) (L : Loc) (c : Nat) (fs : List (Nat × W)) (h : Hq) : kCons1 mr L (.ex c fs h) = .ex c fs h := Eq.trans rfl rfl
@[simp] theorem kCons1_e3  (mr : M) (L : Loc)  : kCons1 mr L (.bad) = .bad := Eq.trans rfl rfl
@[simp] theorem mCons_ap (ma mr : M) (L : Loc) (h : Hq) : mCons ma mr L h = kCons1 mr L (ma L h) := by
  unfold mCons
  cases ma L h with
  | ok x h1 =>
    show (mr L h1).bindL _ = kCons2 x (mr L h1)
    cases mr L h1 with
    | ok w h2 => cases w <;> rfl
    | _ => rfl
  | _ => rfl
/-- a list's values handed to k -/
def kL (k : List W → Hq → Rs) : Rs → Rs
  | .ok (.tup ws) h => k ws h
  | .ok _ _ => .bad
  | .ex c fs h => .ex c fs h
  | .bad => .bad
@[simp] theorem kL_e1  (k : List W → Hq → Rs) (ws : List W) (h : Hq) : kL k (.ok (.tup ws) h) = k ws h := Eq.trans rfl rfl
@[simp] theorem kL_e2  (k : List W → Hq → Rs) (c : Nat) (fs : List (Nat × W)) (h : Hq) : kL k (.ex c fs h) = .ex c fs h := Eq.trans rfl rfl
@[simp] theorem kL_e3  (k : List W → Hq → Rs)  : kL k (.bad) = .bad := Eq.trans rfl rfl
theorem bindL_kL (x : Rs) (k : List W → Hq → Rs) : x.bindL k = kL k x := by
  cases x with
  | ok w h => cases w <;> rfl
  | _ => rfl
@[simp] def kTup (ws : List W) (h : Hq) : Rs := if ws.length ≤ lineN then .ok (.tup ws) h else .bad
@[simp] def kLst (ws : List W) (h : Hq) : Rs := if ws.length ≤ lineN then .ok (.lst ws) h else .bad
@[simp] def kLstC (ws : List W) (h : Hq) : Rs := if ws.length ≤ lineN then .ok (.cell h.length) (h ++ [.lst ws]) else .bad
@[simp] theorem mTup_ap (ms : M) (L : Loc) (h : Hq) : mTup ms L h = kL kTup (ms L h) := bindL_kL _ _
@[simp] theorem mLst_ap (ms : M) (L : Loc) (h : Hq) : mLst ms L h = kL kLst (ms L h) := bindL_kL _ _
@[simp] theorem mLstC_ap (ms : M) (L : Loc) (h : Hq) : mLstC ms L h = kL kLstC (ms L h) := bindL_kL _ _
def kNeg : Rs → Rs
  | .ok (.int i) h => .ok (.int (-i)) h
  | .ok _ _ => .bad
  | .ex c fs h => .ex c fs h
  | .bad => .bad
@[simp] theorem kNeg_e1  (i : Int) (h : Hq) : kNeg  (.ok (.int i) h) = .ok (.int (-i)) h := Eq.trans rfl rfl
@[simp] theorem kNeg_e2  (c : Nat) (fs : List (Nat × W)) (h : Hq) : kNeg  (.ex c fs h) = .ex c fs h := Eq.trans rfl rfl
@[simp] theorem kNeg_e3   : kNeg  (.bad) = .bad := Eq.trans rfl rfl
@[simp] theorem mNeg_ap (m : M) (L : Loc) (h : Hq) : mNeg m L h = kNeg (m L h) := by
  unfold mNeg
  cases m L h with
  | ok w h => cases w <;> rfl
  | _ => rfl
def kFld (f : Nat) : Rs → Rs
  | .ok x h => (match insOf x h with
    | some (_, _, fs) => (match fLook f fs with
      | some w => .ok w h
      | none => .bad)
    | none => .bad)
  | .ex c fs h => .ex c fs h
  | .bad => .bad
@[simp] theorem kFld_e1  (f : Nat) (x : W) (h : Hq) : kFld f (.ok x h) = ((match insOf x h with
    | some (_, _, fs) => (match fLook f fs with
      | some w => .ok w h
      | none => .bad)
    | none => .bad)) := rfl
@[simp] theorem kFld_e2  (f : Nat) (c : Nat) (fs : List (Nat × W)) (h : Hq) : kFld f (.ex c fs h) = .ex c fs h := Eq.trans rfl rfl
@[simp] theorem kFld_e3  (f : Nat)  : kFld f (.bad) = .bad := Eq.trans rfl rfl
@[simp] theorem mFld_ap (f : Nat) (m : M) (L : Loc) (h : Hq) : mFld f m L h = kFld f (m L h) := by unfold mFld; cases m L h <;> rfl
@[simp] def kCall (n : Nat) (f : Fn) (dw : List W) (ws : List W) (h : Hq) : Rs := if (ws ++ dw).length = n then f (ws ++ dw) h else .bad
@[simp] theorem mCall_ap (n : Nat) (f : Fn) (dw : List W) (ms : M) (L : Loc) (h : Hq) : mCall n f dw ms L h = kL (kCall n f dw) (ms L h) := bindL_kL _ _
@[simp] def kMeth2 (o : W) (n : Nat) (f : Fn) (dw : List W) (ws : List W) (h : Hq) : Rs := if (o :: ws ++ dw).length = n then f (o :: ws ++ dw) h else .bad
def kMeth1 (tb : Nat → Option (Nat × Fn × List W)) (ms : M) (L : Loc) : Rs → Rs
  | .ok o h => (match insOf o h with
    | some (_, c, _) => (match tb c with
      | some (n, f, dw) => kL (kMeth2 o n f dw) (ms L h)
      | none => .bad)
    | none => .bad)
  | .ex c fs h => .ex c fs h
  | .bad => .bad
@[simp] theorem kMeth1_e1  (tb : Nat → Option (Nat × Fn × List W)) (ms : M) (L : Loc) (o : W) (h : Hq) : kMeth1 tb ms L (.ok o h) = ((match insOf o h with
    | some (_, c, _) => (match tb c with
      | some (n, f, dw) => kL (kMeth2 o n f dw) (ms L h)
      | none => .bad)
    | none => .bad)) := rfl
@[simp] theorem kMeth1_e2  (tb : Nat → Option (Nat × Fn × List W)) (ms : M) (L : Loc) (c : Nat) (fs : List (Nat × W)) (h : Hq) : kMeth1 tb ms L (.ex c fs h) = .ex c fs h := Eq.trans rfl rfl
@[simp] theorem kMeth1_e3  (tb : Nat → Option (Nat × Fn × List W)) (ms : M) (L : Loc)  : kMeth1 tb ms L (.bad) = .bad := Eq.trans rfl rfl
@[simp] theorem mMeth_ap (tb : Nat → Option (Nat × Fn × List W)) (ma ms : M) (L : Loc) (h : Hq) : mMeth tb ma ms L h = kMeth1 tb ms L (ma L h) := by
  unfold mMeth
  cases ma L h with
  | ok o h1 =>
    show (match insOf o h1 with | some (_, c, _) => _ | none => Rs.bad) = (match insOf o h1 with | some (_, c, _) => _ | none => Rs.bad)
    cases insOf o h1 with
    | none => rfl
    | some z =>
      obtain ⟨a, c, fs⟩ := z
      simp only
      cases tb c with
      | none => rfl
      | some z => obtain ⟨n, f, dw⟩ := z; exact bindL_kL _ _
  | _ => rfl
def kMade (n : Nat) : Rs → Rs
  | .ok x h => if isNon x then .ok (.cell n) h else .bad
  | .ex c fs h => .ex c fs h
  | .bad => .bad
@[simp] theorem kMade_e1  (n : Nat) (x : W) (h : Hq) : kMade n (.ok x h) = if isNon x then .ok (.cell n) h else .bad := Eq.trans rfl rfl
@[simp] theorem kMade_e2  (n : Nat) (c : Nat) (fs : List (Nat × W)) (h : Hq) : kMade n (.ex c fs h) = .ex c fs h := Eq.trans rfl rfl
@[simp] theorem kMade_e3  (n : Nat)  : kMade n (.bad) = .bad := Eq.trans rfl rfl
@[simp] def kMake (c n : Nat) (f : Fn) (dw : List W) (ws : List W) (h : Hq) : Rs := if (W.cell h.length :: (ws ++ dw)).length = n then kMade h.length (f (.cell h.length :: (ws ++ dw)) (h ++ [.ins c []])) else .bad
@[simp] theorem mMake_ap (c n : Nat) (f : Fn) (dw : List W) (ms : M) (L : Loc) (h : Hq) : mMake c n f dw ms L h = kL (kMake c n f dw) (ms L h) := by
  unfold mMake
  rw [bindL_kL]
  rfl
@[simp] theorem mBlt_ap (f : Fn) (ms : M) (L : Loc) (h : Hq) : mBlt f ms L h = kL f (ms L h) := bindL_kL _ _
def kKd (l : List (List Nat × W)) : Rs → Rs
  | .ok (.str z) h => (match l.lookup z with
    | some v => .ok v h
    | none => .bad)
  | .ok _ _ => .bad
  | .ex c fs h => .ex c fs h
  | .bad => .bad
@[simp] theorem kKd_e1  (l : List (List Nat × W)) (z : List Nat) (h : Hq) : kKd l (.ok (.str z) h) = ((match l.lookup z with
    | some v => .ok v h
    | none => .bad)) := rfl
@[simp] theorem kKd_e2  (l : List (List Nat × W)) (c : Nat) (fs : List (Nat × W)) (h : Hq) : kKd l (.ex c fs h) = .ex c fs h := Eq.trans rfl rfl
@[simp] theorem kKd_e3  (l : List (List Nat × W))  : kKd l (.bad) = .bad := Eq.trans rfl rfl
@[simp] theorem mKd_ap (l : List (List Nat × W)) (m : M) (L : Loc) (h : Hq) : mKd l m L h = kKd l (m L h) := by
  unfold mKd
  cases m L h with
  | ok w h => cases w <;> rfl
  | _ => rfl
def kIsi (kt : List ((TyN × TyN) × Bool)) (c : TyN) : Rs → Rs
  | .ok x h => (match tyN x h with
    | some t => (match kt.lookup (t, c) with
      | some b => .ok (.bl b) h
      | none => .bad)
    | none => .bad)
  | .ex c fs h => .ex c fs h
  | .bad => .bad
@[simp] theorem kIsi_e1  (kt : List ((TyN × TyN) × Bool)) (c : TyN) (x : W) (h : Hq) : kIsi kt c (.ok x h) = ((match tyN x h with
    | some t => (match kt.lookup (t, c) with
      | some b => .ok (.bl b) h
      | none => .bad)
    | none => .bad)) := rfl
@[simp] theorem kIsi_e2  (kt : List ((TyN × TyN) × Bool)) (c0 : TyN) (c : Nat) (fs : List (Nat × W)) (h : Hq) : kIsi kt c0 (.ex c fs h) = .ex c fs h := Eq.trans rfl rfl
@[simp] theorem kIsi_e3  (kt : List ((TyN × TyN) × Bool)) (c : TyN)  : kIsi kt c (.bad) = .bad := Eq.trans rfl rfl
@[simp] theorem mIsi_ap (kt : List ((TyN × TyN) × Bool)) (c : TyN) (m : M) (L : Loc) (h : Hq) : mIsi kt c m L h = kIsi kt c (m L h) := by unfold mIsi; cases m L h <;> rfl
def kBM2 (f : Mf) (o : W) : Rs → Rs
  | .ok (.tup ws) h => f o ws h
  | .ok _ _ => .bad
  | .ex c fs h => .ex c fs h
  | .bad => .bad
@[simp] theorem kBM2_e1  (f : Mf) (o : W) (ws : List W) (h : Hq) : kBM2 f o (.ok (.tup ws) h) = f o ws h := Eq.trans rfl rfl
@[simp] theorem kBM2_e2  (f : Mf) (o : W) (c : Nat) (fs : List (Nat × W)) (h : Hq) : kBM2 f o (.ex c fs h) = .ex c fs h := Eq.trans rfl rfl
@[simp] theorem kBM2_e3  (f : Mf) (o : W)  : kBM2 f o (.bad) = .bad := Eq.trans rfl rfl
def kBM1 (T : String) (f : Mf) (ms : M) (L : Loc) : Rs → Rs
  | .ok o h => if isTy T o h = true then kBM2 f o (ms L h) else .bad
  | .ex c fs h => .ex c fs h
  | .bad => .bad
@[simp] theorem kBM1_e1  (T : String) (f : Mf) (ms : M) (L : Loc) (o : W) (h : Hq) : kBM1 T f ms L (.ok o h) = if isTy T o h = true then kBM2 f o (ms L h) else .bad := Eq.trans rfl rfl
@[simp] theorem kBM1_e2  (T : String) (f : Mf) (ms : M) (L : Loc) (c : Nat) (fs : List (Nat × W)) (h : Hq) : kBM1 T f ms L (.ex c fs h) = .ex c fs h := Eq.trans rfl rfl
@[simp] theorem kBM1_e3  (T : String) (f : Mf) (ms : M) (L : Loc)  : kBM1 T f ms L (.bad) = .bad := Eq.trans rfl rfl
@[simp] theorem mBM_ap (T : String) (f : Mf) (mo ms : M) (L : Loc) (h : Hq) : mBM T f mo ms L h = kBM1 T f ms L (mo L h) := by
  unfold mBM
  cases mo L h with
  | ok o h1 =>
    show (if isTy T o h1 = true then (ms L h1).bindL fun ws h2 => f o ws h2 else Rs.bad) = (if isTy T o h1 = true then kBM2 f o (ms L h1) else Rs.bad)
    have e : (ms L h1).bindL (fun ws h2 => f o ws h2) = kBM2 f o (ms L h1) := by
      cases ms L h1 with
      | ok w h2 => cases w <;> rfl
      | _ => rfl
    rw [e]
  | _ => rfl
@[simp] def flatM : List (M × M) → M
  | [] => mNil
  | (a, b) :: r => mCons a (mCons b (flatM r))
@[simp] def unflat : List W → List (W × W)
  | a :: b :: r => (a, b) :: unflat r
  | _ => []
@[simp] def kDisp (n : Nat) (ws : List W) (h1 : Hq) : Rs := match h1[n]? with
  | some (.dk false []) => match putAll [] (unflat ws) with
    | some l => .ok (.cell n) (h1.set n (.dk false l))
    | none => .bad
  | _ => .bad
theorem mPairs_flat : ∀ (ps : List (M × M)) (L : Loc) (h : Hq) (k : List (W × W) → Hq → Rs), mPairs ps L h k = kL (fun ws h1 => k (unflat ws) h1) (flatM ps L h)
  | [], L, h, k => rfl
  | (a, b) :: r, L, h, k => by
    show (a L h).bind _ = kL _ (mCons a (mCons b (flatM r)) L h)
    rw [mCons_ap]
    cases a L h with
    | ok x h1 =>
      show (b L h1).bind _ = kL _ (kCons2 x (mCons b (flatM r) L h1))
      rw [mCons_ap]
      cases b L h1 with
      | ok y h2 =>
        show mPairs r L h2 _ = kL _ (kCons2 x (kCons2 y (flatM r L h2)))
        rw [mPairs_flat r L h2]
        cases flatM r L h2 with
        | ok w h3 => cases w <;> rfl
        | _ => rfl
      | _ => rfl
    | _ => rfl
@[simp] theorem mDict_ap (ps : List (M × M)) (L : Loc) (h : Hq) : mDict ps L h = kL (kDisp h.length) (flatM ps L (h ++ [.dk false []])) := mPairs_flat _ _ _ _
@[simp] theorem mDict0_ap (L : Loc) (h : Hq) : mDict0 L h = .ok (.cell h.length) (h ++ [.dk false []]) := Eq.trans rfl rfl

/-! ### statements -/
@[simp] theorem sPass_ap (L : Loc) (h : Hq) : sPass L h = .nx L h := Eq.trans rfl rfl
@[simp] theorem sBad_ap (L : Loc) (h : Hq) : sBad L h = .bad := Eq.trans rfl rfl
@[simp] theorem sBrk_ap (L : Loc) (h : Hq) : sBrk L h = .bk L h := Eq.trans rfl rfl
@[simp] theorem sCont_ap (L : Loc) (h : Hq) : sCont L h = .ct L h := Eq.trans rfl rfl
@[simp] theorem sRetN_ap (L : Loc) (h : Hq) : sRetN L h = .rt .non h := Eq.trans rfl rfl
@[simp] theorem sSeq_ap (s1 s2 : MS) (L : Loc) (h : Hq) : sSeq s1 s2 L h = (s1 L h).seq s2 := Eq.trans rfl rfl
def kRet (L : Loc) : Rs → Rf
  | .ok w h => .rt w h
  | .ex c fs h => .ex c fs L h
  | .bad => .bad
@[simp] theorem kRet_e1  (L : Loc) (w : W) (h : Hq) : kRet L (.ok w h) = .rt w h := Eq.trans rfl rfl
@[simp] theorem kRet_e2  (L : Loc) (c : Nat) (fs : List (Nat × W)) (h : Hq) : kRet L (.ex c fs h) = .ex c fs L h := Eq.trans rfl rfl
@[simp] theorem kRet_e3  (L : Loc)  : kRet L (.bad) = .bad := Eq.trans rfl rfl
@[simp] theorem sRet_ap (m : M) (L : Loc) (h : Hq) : sRet m L h = kRet L (m L h) := by unfold sRet; cases m L h <;> rfl
def kExpr (L : Loc) : Rs → Rf
  | .ok _ h => .nx L h
  | .ex c fs h => .ex c fs L h
  | .bad => .bad
@[simp] theorem kExpr_e1  (L : Loc) (h : Hq) (u0 : W) : kExpr L (.ok u0 h) = .nx L h := Eq.trans rfl rfl
@[simp] theorem kExpr_e2  (L : Loc) (c : Nat) (fs : List (Nat × W)) (h : Hq) : kExpr L (.ex c fs h) = .ex c fs L h := Eq.trans rfl rfl
@[simp] theorem kExpr_e3  (L : Loc)  : kExpr L (.bad) = .bad := Eq.trans rfl rfl
@[simp] theorem sExpr_ap (m : M) (L : Loc) (h : Hq) : sExpr m L h = kExpr L (m L h) := by unfold sExpr; cases m L h <;> rfl
def kSIf (s1 s2 : MS) (L : Loc) : Rs → Rf
  | .ok (.bl true) h => s1 L h
  | .ok (.bl false) h => s2 L h
  | .ok _ _ => .bad
  | .ex c fs h => .ex c fs L h
  | .bad => .bad
@[simp] theorem kSIf_e1  (s1 s2 : MS) (L : Loc) (h : Hq) : kSIf s1 s2 L (.ok (.bl true) h) = s1 L h := Eq.trans rfl rfl
@[simp] theorem kSIf_e2  (s1 s2 : MS) (L : Loc) (h : Hq) : kSIf s1 s2 L (.ok (.bl false) h) = s2 L h := Eq.trans rfl rfl
@[simp] theorem kSIf_e3  (s1 s2 : MS) (L : Loc) (c : Nat) (fs : List (Nat × W)) (h : Hq) : kSIf s1 s2 L (.ex c fs h) = .ex c fs L h := Eq.trans rfl rfl
@[simp] theorem kSIf_e4  (s1 s2 : MS) (L : Loc)  : kSIf s1 s2 L (.bad) = .bad := Eq.trans rfl rfl
@[simp] theorem sIf_ap (mc : M) (s1 s2 : MS) (L : Loc) (h : Hq) : sIf mc s1 s2 L h = kSIf s1 s2 L (mc L h) := by
  unfold sIf
  cases mc L h with
  | ok w h =>
    cases w with
    | bl k => cases k <;> rfl
    | _ => rfl
  | _ => rfl
theorem kSIf_dec {s1 s2 : MS} {L : Loc} {b : Bool} {h : Hq} : kSIf s1 s2 L (.ok (.bl b) h) = if b = true then s1 L h else s2 L h := by cases b <;> rfl
def kSet (i : Nat) (L : Loc) : Rs → Rf
  | .ok w h => .nx (L.set i (some w)) h
  | .ex c fs h => .ex c fs L h
  | .bad => .bad
@[simp] theorem kSet_e1  (i : Nat) (L : Loc) (w : W) (h : Hq) : kSet i L (.ok w h) = .nx (L.set i (some w)) h := Eq.trans rfl rfl
@[simp] theorem kSet_e2  (i : Nat) (L : Loc) (c : Nat) (fs : List (Nat × W)) (h : Hq) : kSet i L (.ex c fs h) = .ex c fs L h := Eq.trans rfl rfl
@[simp] theorem kSet_e3  (i : Nat) (L : Loc)  : kSet i L (.bad) = .bad := Eq.trans rfl rfl
@[simp] theorem sSet_ap (i : Nat) (m : M) (L : Loc) (h : Hq) : sSet i m L h = kSet i L (m L h) := by unfold sSet; cases m L h <;> rfl
def kSL (L : Loc) (k : List W → Hq → Rf) : Rs → Rf
  | .ok (.tup ws) h => k ws h
  | .ok _ _ => .bad
  | .ex c fs h => .ex c fs L h
  | .bad => .bad
@[simp] theorem kSL_e1  (L : Loc) (k : List W → Hq → Rf) (ws : List W) (h : Hq) : kSL L k (.ok (.tup ws) h) = k ws h := Eq.trans rfl rfl
@[simp] theorem kSL_e2  (L : Loc) (k : List W → Hq → Rf) (c : Nat) (fs : List (Nat × W)) (h : Hq) : kSL L k (.ex c fs h) = .ex c fs L h := Eq.trans rfl rfl
@[simp] theorem kSL_e3  (L : Loc) (k : List W → Hq → Rf)  : kSL L k (.bad) = .bad := Eq.trans rfl rfl
theorem thnL_kSL (x : Rs) (L : Loc) (k : List W → Hq → Rf) : x.thnL L k = kSL L k x := by
  cases x with
  | ok w h => cases w <;> rfl
  | _ => rfl
@[simp] def kPar (i j : Nat) (L : Loc) (ws : List W) (h : Hq) : Rf := match ws with
  | [v, w] => .nx ((L.set i (some v)).set j (some w)) h
  | _ => .bad
@[simp] theorem sPar_ap (i j : Nat) (ms : M) (L : Loc) (h : Hq) : sPar i j ms L h = kSL L (kPar i j L) (ms L h) := thnL_kSL _ _ _
@[simp] def kPar3 (i j l : Nat) (L : Loc) (ws : List W) (h : Hq) : Rf := match ws with
  | [u, v, w] => .nx (((L.set i (some u)).set j (some v)).set l (some w)) h
  | _ => .bad
@[simp] theorem sPar3_ap (i j l : Nat) (ms : M) (L : Loc) (h : Hq) : sPar3 i j l ms L h = kSL L (kPar3 i j l L) (ms L h) := thnL_kSL _ _ _
def kAsgT (mt : TgM) (L : Loc) : Rs → Rf
  | .ok w h => only (mt w L h)
  | .ex c fs h => .ex c fs L h
  | .bad => .bad
@[simp] theorem kAsgT_e1  (mt : TgM) (L : Loc) (w : W) (h : Hq) : kAsgT mt L (.ok w h) = only (mt w L h) := Eq.trans rfl rfl
@[simp] theorem kAsgT_e2  (mt : TgM) (L : Loc) (c : Nat) (fs : List (Nat × W)) (h : Hq) : kAsgT mt L (.ex c fs h) = .ex c fs L h := Eq.trans rfl rfl
@[simp] theorem kAsgT_e3  (mt : TgM) (L : Loc)  : kAsgT mt L (.bad) = .bad := Eq.trans rfl rfl
@[simp] theorem sAsgT_ap (mt : TgM) (m : M) (L : Loc) (h : Hq) : sAsgT mt m L h = kAsgT mt L (m L h) := by unfold sAsgT; cases m L h <;> rfl
@[simp] theorem only_nx (L : Loc) (h : Hq) : only (.nx L h) = .nx L h := Eq.trans rfl rfl
@[simp] theorem tgN_ap (i : Nat) (w : W) (L : Loc) (h : Hq) : tgN i w L h = .nx (L.set i (some w)) h := Eq.trans rfl rfl
def kTgF (cs : List Nat) (f : Nat) (w : W) (L : Loc) : Rs → Rf
  | .ok o h => (match setFld cs f w o h with
    | some h2 => .nx L h2
    | none => .bad)
  | _ => .bad
@[simp] theorem kTgF_e1  (cs : List Nat) (f : Nat) (w : W) (L : Loc) (o : W) (h : Hq) : kTgF cs f w L (.ok o h) = ((match setFld cs f w o h with
    | some h2 => .nx L h2
    | none => .bad)) := rfl
@[simp] theorem tgF_ap (cs : List Nat) (f : Nat) (mo : M) (w : W) (L : Loc) (h : Hq) : tgF cs f mo w L h = kTgF cs f w L (mo L h) := by unfold tgF; cases mo L h <;> rfl
def kTgI2 (o w : W) (L : Loc) : Rs → Rf
  | .ok i h => (match setItm o i w h with
    | some h3 => .nx L h3
    | none => .bad)
  | _ => .bad
@[simp] theorem kTgI2_e1  (o w : W) (L : Loc) (i : W) (h : Hq) : kTgI2 o w L (.ok i h) = ((match setItm o i w h with
    | some h3 => .nx L h3
    | none => .bad)) := rfl
def kTgI1 (mi : M) (w : W) (L : Loc) : Rs → Rf
  | .ok o h => kTgI2 o w L (mi L h)
  | _ => .bad
@[simp] theorem kTgI1_e1  (mi : M) (w : W) (L : Loc) (o : W) (h : Hq) : kTgI1 mi w L (.ok o h) = kTgI2 o w L (mi L h) := Eq.trans rfl rfl
@[simp] theorem tgI_ap (mo mi : M) (w : W) (L : Loc) (h : Hq) : tgI mo mi w L h = kTgI1 mi w L (mo L h) := by
  unfold tgI
  cases mo L h with
  | ok o h1 =>
    show (mi L h1).val _ = kTgI2 o w L (mi L h1)
    cases mi L h1 <;> rfl
  | _ => rfl
@[simp] theorem tgT_ap (n : Nat) (ts : List W → Loc → Hq → Rf) (w : W) (L : Loc) (h : Hq) : tgT n ts w L h = match seqOf w h with
  | some l => if l.length = n then ts l L h else .bad
  | none => .bad := Eq.trans rfl rfl
@[simp] theorem tgsNil_ap (L : Loc) (h : Hq) : tgsNil [] L h = .nx L h := Eq.trans rfl rfl
@[simp] theorem tgsCons_ap (t : TgM) (ts : List W → Loc → Hq → Rf) (w : W) (r : List W) (L : Loc) (h : Hq) : tgsCons t ts (w :: r) L h = (t w L h).seq (ts r) := Eq.trans rfl rfl
def kFS2 (cs : List Nat) (f : Nat) (w : W) (L : Loc) : Rs → Rf
  | .ok o h => (match setFld cs f w o h with
    | some h3 => .nx L h3
    | none => .bad)
  | .ex c fs h => .ex c fs L h
  | .bad => .bad
@[simp] theorem kFS2_e1  (cs : List Nat) (f : Nat) (w : W) (L : Loc) (o : W) (h : Hq) : kFS2 cs f w L (.ok o h) = ((match setFld cs f w o h with
    | some h3 => .nx L h3
    | none => .bad)) := rfl
@[simp] theorem kFS2_e2  (cs : List Nat) (f : Nat) (w : W) (L : Loc) (c : Nat) (fs : List (Nat × W)) (h : Hq) : kFS2 cs f w L (.ex c fs h) = .ex c fs L h := Eq.trans rfl rfl
@[simp] theorem kFS2_e3  (cs : List Nat) (f : Nat) (w : W) (L : Loc)  : kFS2 cs f w L (.bad) = .bad := Eq.trans rfl rfl
def kFS1 (cs : List Nat) (f : Nat) (mo : M) (L : Loc) : Rs → Rf
  | .ok w h => kFS2 cs f w L (mo L h)
  | .ex c fs h => .ex c fs L h
  | .bad => .bad
@[simp] theorem kFS1_e1  (cs : List Nat) (f : Nat) (mo : M) (L : Loc) (w : W) (h : Hq) : kFS1 cs f mo L (.ok w h) = kFS2 cs f w L (mo L h) := Eq.trans rfl rfl
@[simp] theorem kFS1_e2  (cs : List Nat) (f : Nat) (mo : M) (L : Loc) (c : Nat) (fs : List (Nat × W)) (h : Hq) : kFS1 cs f mo L (.ex c fs h) = .ex c fs L h := Eq.trans rfl rfl
@[simp] theorem kFS1_e3  (cs : List Nat) (f : Nat) (mo : M) (L : Loc)  : kFS1 cs f mo L (.bad) = .bad := Eq.trans rfl rfl
@[simp] theorem sFldSet_ap (cs : List Nat) (f : Nat) (mo mv : M) (L : Loc) (h : Hq) : sFldSet cs f mo mv L h = kFS1 cs f mo L (mv L h) := by
  unfold sFldSet
  cases mv L h with
  | ok w h1 =>
    show (mo L h1).thn L _ = kFS2 cs f w L (mo L h1)
    cases mo L h1 <;> rfl
  | _ => rfl
def kFA3 (cs : List Nat) (f : Nat) (o : W) (c : Nat) (L : Loc) : Rs → Rf
  | .ok z h => (match insOf o h with
    | some (_, c', _) => if c' = c then (match setFld cs f z o h with
      | some h4 => .nx L h4
      | none => .bad) else .bad
    | none => .bad)
  | .ex c fs h => .ex c fs L h
  | .bad => .bad
@[simp] theorem kFA3_e1  (cs : List Nat) (f : Nat) (o : W) (c : Nat) (L : Loc) (z : W) (h : Hq) : kFA3 cs f o c L (.ok z h) = ((match insOf o h with
    | some (_, c', _) => if c' = c then (match setFld cs f z o h with
      | some h4 => .nx L h4
      | none => .bad) else .bad
    | none => .bad)) := rfl
@[simp] theorem kFA3_e2  (cs : List Nat) (f : Nat) (o : W) (c0 : Nat) (L : Loc) (c : Nat) (fs : List (Nat × W)) (h : Hq) : kFA3 cs f o c0 L (.ex c fs h) = .ex c fs L h := Eq.trans rfl rfl
@[simp] theorem kFA3_e3  (cs : List Nat) (f : Nat) (o : W) (c : Nat) (L : Loc)  : kFA3 cs f o c L (.bad) = .bad := Eq.trans rfl rfl
def kFA2 (cs : List Nat) (f : Nat) (fo : W → W → Hq → Rs) (o : W) (c : Nat) (x : W) (L : Loc) : Rs → Rf
  | .ok y h => kFA3 cs f o c L (fo x y h)
  | .ex c fs h => .ex c fs L h
  | .bad => .bad
@[simp] theorem kFA2_e1  (cs : List Nat) (f : Nat) (fo : W → W → Hq → Rs) (o : W) (c : Nat) (x : W) (L : Loc) (y : W) (h : Hq) : kFA2 cs f fo o c x L (.ok y h) = kFA3 cs f o c L (fo x y h) := Eq.trans rfl rfl
@[simp] theorem kFA2_e2  (cs : List Nat) (f : Nat) (fo : W → W → Hq → Rs) (o : W) (c0 : Nat) (x : W) (L : Loc) (c : Nat) (fs : List (Nat × W)) (h : Hq) : kFA2 cs f fo o c0 x L (.ex c fs h) = .ex c fs L h := Eq.trans rfl rfl
@[simp] theorem kFA2_e3  (cs : List Nat) (f : Nat) (fo : W → W → Hq → Rs) (o : W) (c : Nat) (x : W) (L : Loc)  : kFA2 cs f fo o c x L (.bad) = .bad := Eq.trans rfl rfl
def kFA1 (cs : List Nat) (f : Nat) (fo : W → W → Hq → Rs) (mv : M) (L : Loc) : Rs → Rf
  | .ok o h => (match insOf o h with
    | some (_, c, fs) => (match fLook f fs with
      | some x => kFA2 cs f fo o c x L (mv L h)
      | none => .bad)
    | none => .bad)
  | .ex c fs h => .ex c fs L h
  | .bad => .bad
@[simp] theorem kFA1_e1  (cs : List Nat) (f : Nat) (fo : W → W → Hq → Rs) (mv : M) (L : Loc) (o : W) (h : Hq) : kFA1 cs f fo mv L (.ok o h) = ((match insOf o h with
    | some (_, c, fs) => (match fLook f fs with
      | some x => kFA2 cs f fo o c x L (mv L h)
      | none => .bad)
    | none => .bad)) := rfl
@[simp] theorem kFA1_e2  (cs : List Nat) (f : Nat) (fo : W → W → Hq → Rs) (mv : M) (L : Loc) (c : Nat) (fs : List (Nat × W)) (h : Hq) : kFA1 cs f fo mv L (.ex c fs h) = .ex c fs L h := Eq.trans rfl rfl
@[simp] theorem kFA1_e3  (cs : List Nat) (f : Nat) (fo : W → W → Hq → Rs) (mv : M) (L : Loc)  : kFA1 cs f fo mv L (.bad) = .bad := Eq.trans rfl rfl
@[simp] theorem sFldAug_ap (cs : List Nat) (f : Nat) (fo : W → W → Hq → Rs) (mo mv : M) (L : Loc) (h : Hq) : sFldAug cs f fo mo mv L h = kFA1 cs f fo mv L (mo L h) := by
  unfold sFldAug
  cases mo L h with
  | ok o h1 =>
    show (match insOf o h1 with | some (_, c, fs) => _ | none => Rf.bad) = (match insOf o h1 with | some (_, c, fs) => _ | none => Rf.bad)
    cases insOf o h1 with
    | none => rfl
    | some z =>
      obtain ⟨a, c, fs⟩ := z
      simp only
      cases fLook f fs with
      | none => rfl
      | some x =>
        show (mv L h1).thn L _ = kFA2 cs f fo o c x L (mv L h1)
        cases mv L h1 with
        | ok y h2 =>
          show (fo x y h2).thn L _ = kFA3 cs f o c L (fo x y h2)
          cases fo x y h2 <;> rfl
        | _ => rfl
  | _ => rfl
def kAug2 (i : Nat) (L : Loc) : Rs → Rf
  | .ok z h => .nx (L.set i (some z)) h
  | .ex c fs h => .ex c fs L h
  | .bad => .bad
@[simp] theorem kAug2_e1  (i : Nat) (L : Loc) (z : W) (h : Hq) : kAug2 i L (.ok z h) = .nx (L.set i (some z)) h := Eq.trans rfl rfl
@[simp] theorem kAug2_e2  (i : Nat) (L : Loc) (c : Nat) (fs : List (Nat × W)) (h : Hq) : kAug2 i L (.ex c fs h) = .ex c fs L h := Eq.trans rfl rfl
@[simp] theorem kAug2_e3  (i : Nat) (L : Loc)  : kAug2 i L (.bad) = .bad := Eq.trans rfl rfl
def kAug1 (i : Nat) (fo : W → W → Hq → Rs) (x : W) (L : Loc) : Rs → Rf
  | .ok y h => kAug2 i L (fo x y h)
  | .ex c fs h => .ex c fs L h
  | .bad => .bad
@[simp] theorem kAug1_e1  (i : Nat) (fo : W → W → Hq → Rs) (x : W) (L : Loc) (y : W) (h : Hq) : kAug1 i fo x L (.ok y h) = kAug2 i L (fo x y h) := Eq.trans rfl rfl
@[simp] theorem kAug1_e2  (i : Nat) (fo : W → W → Hq → Rs) (x : W) (L : Loc) (c : Nat) (fs : List (Nat × W)) (h : Hq) : kAug1 i fo x L (.ex c fs h) = .ex c fs L h := Eq.trans rfl rfl
@[simp] theorem kAug1_e3  (i : Nat) (fo : W → W → Hq → Rs) (x : W) (L : Loc)  : kAug1 i fo x L (.bad) = .bad := Eq.trans rfl rfl
@[simp] theorem sAug_ap (i : Nat) (fo : W → W → Hq → Rs) (m : M) (L : Loc) (h : Hq) : sAug i fo m L h = match L[i]? with
  | some (some x) => kAug1 i fo x L (m L h)
  | _ => .bad := by
  unfold sAug
  cases L[i]? with
  | none => rfl
  | some o =>
    cases o with
    | none => rfl
    | some x =>
      show (m L h).thn L _ = kAug1 i fo x L (m L h)
      cases m L h with
      | ok y h1 =>
        show (fo x y h1).thn L _ = kAug2 i L (fo x y h1)
        cases fo x y h1 <;> rfl
      | _ => rfl
@[simp] def kFor1 (mt : TgM) (s : MS) (L : Loc) (ws : List W) (h : Hq) : Rf := match ws with
  | [.int j] => if -4611686018427387904 ≤ j ∧ j < 4611686018427387904 then loopW mt s (rangeW 0 j.toNat) L h else .bad
  | _ => .bad
@[simp] theorem sForR1_ap (ms : M) (mt : TgM) (s : MS) (L : Loc) (h : Hq) : sForR1 ms mt s L h = kSL L (kFor1 mt s L) (ms L h) := thnL_kSL _ _ _
@[simp] def kFor2 (mt : TgM) (s : MS) (L : Loc) (ws : List W) (h : Hq) : Rf := match ws with
  | [.int i, .int j] => if (-4611686018427387904 ≤ i ∧ i < 4611686018427387904) ∧ -4611686018427387904 ≤ j ∧ j < 4611686018427387904 then loopW mt s (rangeW i (j - i).toNat) L h else .bad
  | _ => .bad
@[simp] theorem sForR2_ap (ms : M) (mt : TgM) (s : MS) (L : Loc) (h : Hq) : sForR2 ms mt s L h = kSL L (kFor2 mt s L) (ms L h) := thnL_kSL _ _ _
/-- what a turn's end means for the loop -/
def kTurn (k : MS) : Rf → Rf
  | .nx L h => k L h
  | .ct L h => k L h
  | .bk L h => .nx L h
  | .rt w h => .rt w h
  | .ex c fs L h => .ex c fs L h
  | .bad => .bad
@[simp] theorem kTurn_e1  (k : MS) (L : Loc) (h : Hq) : kTurn k (.nx L h) = k L h := Eq.trans rfl rfl
@[simp] theorem kTurn_e2  (k : MS) (L : Loc) (h : Hq) : kTurn k (.ct L h) = k L h := Eq.trans rfl rfl
@[simp] theorem kTurn_e3  (k : MS) (L : Loc) (h : Hq) : kTurn k (.bk L h) = .nx L h := Eq.trans rfl rfl
@[simp] theorem kTurn_e4  (k : MS) (w : W) (h : Hq) : kTurn k (.rt w h) = .rt w h := Eq.trans rfl rfl
@[simp] theorem kTurn_e5  (k : MS) (c : Nat) (fs : List (Nat × W)) (L : Loc) (h : Hq) : kTurn k (.ex c fs L h) = .ex c fs L h := Eq.trans rfl rfl
@[simp] theorem kTurn_e6  (k : MS)  : kTurn k (.bad) = .bad := Eq.trans rfl rfl
theorem loopW_nil (mt : TgM) (s : MS) (L : Loc) (h : Hq) : loopW mt s [] L h = .nx L h := Eq.trans rfl rfl
theorem loopW_N (i : Nat) (s : MS) (w : W) (ws : List W) (L : Loc) (h : Hq) : loopW (tgN i) s (w :: ws) L h = kTurn (loopW (tgN i) s ws) (s (L.set i (some w)) h) := by
  show turnF (tgN i) s w L h (loopW (tgN i) s ws) = _
  unfold turnF tgN
  simp only
  cases s (L.set i (some w)) h <;> rfl
/-- a loop by an invariant: each turn keeps it, or ends the def -/
theorem loopW_inv {i : Nat} {s : MS} {P : Loc → Hq → Prop} (hs : ∀ (w : W) (L : Loc) (h : Hq), P L h → ∃ L' h', (s (L.set i (some w)) h = .nx L' h' ∨ s (L.set i (some w)) h = .ct L' h') ∧ P L' h') :
    ∀ (ws : List W) (L : Loc) (h : Hq), P L h → ∃ L' h', loopW (tgN i) s ws L h = .nx L' h' ∧ P L' h'
  | [], L, h, p => ⟨L, h, rfl, p⟩
  | w :: ws, L, h, p => by
    obtain ⟨L1, h1, e, p1⟩ := hs w L h p
    obtain ⟨L2, h2, e2, p2⟩ := loopW_inv hs ws L1 h1 p1
    refine ⟨L2, h2, ?_, p2⟩
    rw [loopW_N]
    rcases e with e | e <;> rw [e] <;> exact e2
/-- .. where the turns' values satisfy V -/
theorem loopW_invV {i : Nat} {s : MS} {P : Loc → Hq → Prop} {V : W → Prop} (hs : ∀ (w : W) (L : Loc) (h : Hq), V w → P L h → ∃ L' h', (s (L.set i (some w)) h = .nx L' h' ∨ s (L.set i (some w)) h = .ct L' h') ∧ P L' h') :
    ∀ (ws : List W) (L : Loc) (h : Hq), (∀ w ∈ ws, V w) → P L h → ∃ L' h', loopW (tgN i) s ws L h = .nx L' h' ∧ P L' h'
  | [], L, h, _, p => ⟨L, h, rfl, p⟩
  | w :: ws, L, h, v, p => by
    obtain ⟨L1, h1, e, p1⟩ := hs w L h (v w List.mem_cons_self) p
    obtain ⟨L2, h2, e2, p2⟩ := loopW_invV hs ws L1 h1 (fun x hx => v x (List.mem_cons_of_mem _ hx)) p1
    refine ⟨L2, h2, ?_, p2⟩
    rw [loopW_N]
    rcases e with e | e <;> rw [e] <;> exact e2
theorem rangeW_mem {lo : Int} {n : Nat} {w : W} (h : w ∈ rangeW lo n) : ∃ k : Nat, k < n ∧ w = .int (lo + k) := by
  obtain ⟨k, hk, e⟩ := List.mem_map.mp h
  exact ⟨k, List.mem_range.mp hk, e.symm⟩
def kDef : Rf → Rs
  | .nx _ h1 => .ok .non h1
  | .rt w h1 => .ok w h1
  | .ex c fs _ h1 => .ex c fs h1
  | _ => .bad
@[simp] theorem kDef_e1  (h1 : Hq) (u0 : Loc) : kDef  (.nx u0 h1) = .ok .non h1 := Eq.trans rfl rfl
@[simp] theorem kDef_e2  (w : W) (h1 : Hq) : kDef  (.rt w h1) = .ok w h1 := Eq.trans rfl rfl
@[simp] theorem kDef_e3  (c : Nat) (fs : List (Nat × W)) (h1 : Hq) (u0 : Loc) : kDef  (.ex c fs u0 h1) = .ex c fs h1 := Eq.trans rfl rfl
@[simp] theorem mDef_ap (n : Nat) (s : MS) (ws : List W) (h : Hq) : mDef n s ws h = kDef (s (startL n ws) h) := by unfold mDef; cases s (startL n ws) h <;> rfl

/-! ### equality of data -/
@[simp] def okS (s : List Nat) : Bool := s.all (· < 0x110000)
@[simp] theorem eqW_str (s t : List Nat) (h : Hq) : eqW (.str s) (.str t) h = if okS s && okS t then some (decide (s = t)) else none := by
  unfold eqW toD eqF okS
  simp only
  split
  · rename_i d e e1 e2
    split at e1
    · rename_i h1
      split at e2
      · rename_i h2
        cases e1; cases e2
        rw [if_pos (by simp only [Bool.and_eq_true]; exact ⟨h1, h2⟩)]
        congr 1
        show (sV s == sV t) = _
        by_cases hst : s = t
        · subst hst; simp
        · have : ¬ sV s = sV t := fun z => hst (sV_inj z)
          rw [decide_eq_false hst]
          exact beq_eq_false_iff_ne.mpr this
      · cases e2
    · cases e1
  · rename_i hn
    by_cases h1 : s.all (· < 0x110000) = true
    · by_cases h2 : t.all (· < 0x110000) = true
      · exact (hn (.str (sV s)) (.str (sV t)) (by rw [if_pos h1]) (by rw [if_pos h2])).elim
      · rw [if_neg (by simp only [Bool.and_eq_true]; exact fun z => h2 z.2)]
    · rw [if_neg (by simp only [Bool.and_eq_true]; exact fun z => h1 z.1)]
@[simp] theorem eqW_int (i j : Int) (h : Hq) : eqW (.int i) (.int j) h = some (decide (i = j)) := by
  show some (i == j) = _
  congr 1
@[simp] theorem eqW_bl (i j : Bool) (h : Hq) : eqW (.bl i) (.bl j) h = some (decide (i = j)) := by cases i <;> cases j <;> rfl
@[simp] theorem eqW_non (h : Hq) : eqW .non .non h = some true := Eq.trans rfl rfl
@[simp] theorem eqW_non_str (s : List Nat) (h : Hq) : eqW .non (.str s) h = if okS s then some false else none := by
  unfold eqW toD eqF okS
  by_cases h1 : s.all (· < 0x110000) = true
  · simp [h1, PyData.eqv]
  · simp [h1]
@[simp] theorem eqW_str_non (s : List Nat) (h : Hq) : eqW (.str s) .non h = if okS s then some false else none := by
  unfold eqW toD eqF okS
  by_cases h1 : s.all (· < 0x110000) = true
  · simp [h1, PyData.eqv]
  · simp [h1]
@[simp] theorem toD_1 (h : Hq) (n : Nat) : toD h (n + 1) .non = some .none := Eq.trans rfl rfl
@[simp] theorem toD_2 (h : Hq) (n : Nat) (b : Bool) : toD h (n + 1) (.bl b) = some (.bool b) := Eq.trans rfl rfl
@[simp] theorem toD_3 (h : Hq) (n : Nat) (b : Int) : toD h (n + 1) (.int b) = some (.int b) := Eq.trans rfl rfl
@[simp] theorem toD_4 (h : Hq) (n : Nat) (b : List Nat) : toD h (n + 1) (.str b) = if b.all (· < 0x110000) then some (.str (sV b)) else none := Eq.trans rfl rfl
@[simp] theorem toD_5 (h : Hq) (n : Nat) (b : List W) : toD h (n + 1) (.tup b) = (allD (toD h n) b).map .tuple := Eq.trans rfl rfl
@[simp] theorem toD_6 (h : Hq) (n : Nat) (b : List W) : toD h (n + 1) (.ktup b) = (allD (toD h n) b).map .tuple := Eq.trans rfl rfl
@[simp] theorem toD_7 (h : Hq) (n : Nat) (b : List W) : toD h (n + 1) (.rol b) = (allD (toD h n) b).map .list := Eq.trans rfl rfl
@[simp] theorem toD_8 (h : Hq) (n : Nat) (b : List W) : toD h (n + 1) (.lst b) = (allD (toD h n) b).map .list := Eq.trans rfl rfl
theorem toD_cell {h : Hq} {n k : Nat} {l : List W} (e : h[k]? = some (.lst l)) : toD h (n + 1) (.cell k) = (allD (toD h n) l).map .list := by
  show (match lstOf (.cell k) h with
    | some l => (allD (toD h n) l).map PyData.list
    | none => none) = _
  simp [e]
theorem sV_beq (a b : List Nat) : (sV a == sV b) = decide (a = b) := by
  by_cases h : a = b
  · subst h; simp
  · rw [decide_eq_false h]
    exact beq_eq_false_iff_ne.mpr fun z => h (sV_inj z)
@[simp] theorem eqv_ss (a b : List Nat) : PyData.eqv (.str (sV a)) (.str (sV b)) = decide (a = b) := by
  rw [← sV_beq]; simp only [PyData.eqv]
@[simp] theorem eqv_ii (a b : Int) : PyData.eqv (.int a) (.int b) = decide (a = b) := by simp only [PyData.eqv]; rfl
@[simp] theorem eqv_bb (a b : Bool) : PyData.eqv (.bool a) (.bool b) = decide (a = b) := by cases a <;> cases b <;> simp [PyData.eqv]
@[simp] theorem eqv_nn : PyData.eqv .none .none = true := by simp only [PyData.eqv]
@[simp] theorem eqv_ns (b : Str) : PyData.eqv .none (.str b) = false := by simp only [PyData.eqv]
@[simp] theorem eqv_sn (b : Str) : PyData.eqv (.str b) .none = false := by simp only [PyData.eqv]
@[simp] theorem eqv_ni (b : Int) : PyData.eqv .none (.int b) = false := by simp only [PyData.eqv]
@[simp] theorem eqv_in (b : Int) : PyData.eqv (.int b) .none = false := by simp only [PyData.eqv]
@[simp] theorem eqv_si (a : Str) (b : Int) : PyData.eqv (.str a) (.int b) = false := by simp only [PyData.eqv]
@[simp] theorem eqv_is (a : Int) (b : Str) : PyData.eqv (.int a) (.str b) = false := by simp only [PyData.eqv]
@[simp] theorem eqv_ll (a b : List PyData) : PyData.eqv (.list a) (.list b) = PyData.eqvAll a b := by simp only [PyData.eqv]
@[simp] theorem eqv_tt (a b : List PyData) : PyData.eqv (.tuple a) (.tuple b) = PyData.eqvAll a b := by simp only [PyData.eqv]
@[simp] theorem eqvAll_cc (a b : PyData) (as bs : List PyData) : PyData.eqvAll (a :: as) (b :: bs) = (PyData.eqv a b && PyData.eqvAll as bs) := by simp only [PyData.eqvAll]
@[simp] theorem eqvAll_nn : PyData.eqvAll [] [] = true := by simp only [PyData.eqvAll]
@[simp] theorem eqvAll_nc (b : PyData) (bs : List PyData) : PyData.eqvAll [] (b :: bs) = false := by simp only [PyData.eqvAll]
@[simp] theorem eqvAll_cn (b : PyData) (bs : List PyData) : PyData.eqvAll (b :: bs) [] = false := by simp only [PyData.eqvAll]
@[simp] theorem atI_ap {α : Type} (xs : List α) (i : Int) : L2.atI xs i = (L2.ixN xs.length i).bind fun j => xs[j]? := Eq.trans rfl rfl
@[simp] theorem ixN_ap (n : Nat) (i : Int) : L2.ixN n i = if 0 ≤ i then (if i < n then some i.toNat else none) else if -(n : Int) ≤ i then some (i + n).toNat else none := Eq.trans rfl rfl
@[simp] theorem sV_eq (a b : List Nat) : (sV a = sV b) = (a = b) := propext ⟨sV_inj, fun e => by rw [e]⟩
@[simp] theorem lk_cons {α β : Type} [BEq α] [LawfulBEq α] (a b : α) (v : β) (l : List (α × β)) : List.lookup a ((b, v) :: l) = if (a == b) = true then some v else List.lookup a l := by
  rw [List.lookup_cons]
  cases a == b <;> rfl
theorem eqW_cc {h : Hq} {n m : Nat} {l l' : List W} {ds ds' : List PyData} (hn : h[n]? = some (.lst l)) (hm : h[m]? = some (.lst l')) (e : allD (toD h 23) l = some ds) (e' : allD (toD h 23) l' = some ds') : eqW (.cell n) (.cell m) h = some (PyData.eqvAll ds ds') := by
  unfold eqW eqF
  rw [toD_cell hn, toD_cell hm, e, e']
  simp only [Option.map_some, eqv_ll]
theorem eqW_ll {h : Hq} {l l' : List W} {ds ds' : List PyData} (e : allD (toD h 23) l = some ds) (e' : allD (toD h 23) l' = some ds') : eqW (.lst l) (.lst l') h = some (PyData.eqvAll ds ds') := by
  unfold eqW eqF
  rw [toD_8, toD_8, e, e']
  simp only [Option.map_some, eqv_ll]
theorem eqW_of {h : Hq} {x y : W} {d d' : PyData} (e : toD h 24 x = some d) (e' : toD h 24 y = some d') : eqW x y h = some (PyData.eqv d d') := by
  unfold eqW
  simp only [eqF, e, e']
/-- flat values: == as of data -/
def flatW : W → Bool
  | .cell _ => false
  | .non => true
  | .bl _ => true
  | .int _ => true
  | .str _ => true
  | .tup _ => true
  | .lst _ => true
  | .ktup _ => true
  | .rol _ => true
@[simp] theorem flatW_1 : flatW .non = true := by unfold flatW; rfl
@[simp] theorem flatW_2 (b : Bool) : flatW (.bl b) = true := by unfold flatW; rfl
@[simp] theorem flatW_3 (b : Int) : flatW (.int b) = true := by unfold flatW; rfl
@[simp] theorem flatW_4 (b : List Nat) : flatW (.str b) = true := by unfold flatW; rfl
@[simp] theorem flatW_5 (b : List W) : flatW (.tup b) = true := by unfold flatW; rfl
@[simp] theorem flatW_6 (b : List W) : flatW (.lst b) = true := by unfold flatW; rfl
@[simp] theorem flatW_7 (b : List W) : flatW (.ktup b) = true := by unfold flatW; rfl
@[simp] theorem flatW_8 (b : List W) : flatW (.rol b) = true := by unfold flatW; rfl
@[simp] theorem fEqA_flat {tb : EqTb} {x y : W} {h : Hq} (hx : flatW x = true) (hy : flatW y = true) : fEqA tb x y h = fEq x y h := by
  unfold fEqA
  cases x <;> cases y <;> first | (simp [flatW] at hx; done) | (simp [flatW] at hy; done) | simp [insOf, dEq]
@[simp] theorem fNeA_flat {tb : EqTb} {x y : W} {h : Hq} (hx : flatW x = true) (hy : flatW y = true) : fNeA tb x y h = fNe x y h := by
  unfold fNeA
  cases x <;> cases y <;> first | (simp [flatW] at hx; done) | (simp [flatW] at hy; done) | simp [insOf, dEq]
@[simp] theorem fEq_ap (x y : W) (h : Hq) : fEq x y h = match eqW x y h with
  | some k => .ok (.bl k) h
  | none => .bad := Eq.trans rfl rfl
@[simp] theorem fNe_ap (x y : W) (h : Hq) : fNe x y h = match eqW x y h with
  | some k => .ok (.bl !k) h
  | none => .bad := Eq.trans rfl rfl
@[simp] theorem startL_ap (n : Nat) (ws : List W) : startL n ws = ws.map some ++ List.replicate (n - ws.length) none := Eq.trans rfl rfl
end MR
/-! MFr: frames for tuple-key dicts and comprehensions. -/
namespace MR
open PySem (PyData Str)
@[simp] theorem mDictT_ap (ps : List (M × M)) (L : Loc) (h : Hq) : mDictT ps L h = kL (fun ws h1 => kDispT h.length (unflat ws) h1) (flatM ps L (h ++ [.dt false []])) := mPairs_flat _ _ _ _
@[simp] theorem hset_appc {h l : Hq} {c d : Cell} : (h ++ c :: l).set h.length d = h ++ d :: l := by simp
theorem cmpH_nil (vs : List Nat) (mt : TgM) (mc me : M) (m : Nat) (L : Loc) (h : Hq) : cmpH (fun _ => True) vs mt mc me m L [] h = some h := by
  simp [cmpH]
def kCel (k : Hq → Option Hq) (m : Nat) : Rs → Option Hq
  | .ok y h => (match h[m]? with
    | some (.lst acc) => if acc.length < lineN then k (h.set m (.lst (acc ++ [y]))) else none
    | _ => none)
  | _ => none
@[simp] theorem kCel_e1 (k : Hq → Option Hq) (m : Nat) (y : W) (h : Hq) : kCel k m (.ok y h) = (match h[m]? with
    | some (.lst acc) => if acc.length < lineN then k (h.set m (.lst (acc ++ [y]))) else none
    | _ => none) := by unfold kCel; rfl
def kCif (me : M) (L : Loc) (k : Hq → Option Hq) (m : Nat) : Rs → Option Hq
  | .ok (.bl true) h => kCel k m (me L h)
  | .ok (.bl false) h => k h
  | _ => none
@[simp] theorem kCif_e1 (me : M) (L : Loc) (k : Hq → Option Hq) (m : Nat) (h : Hq) : kCif me L k m (.ok (.bl true) h) = kCel k m (me L h) := by unfold kCif; rfl
@[simp] theorem kCif_e2 (me : M) (L : Loc) (k : Hq → Option Hq) (m : Nat) (h : Hq) : kCif me L k m (.ok (.bl false) h) = k h := by unfold kCif; rfl
theorem cmpH_cons (vs : List Nat) (i : Nat) (mc me : M) (m : Nat) (L : Loc) (w : W) (ws : List W) (h : Hq) : cmpH (fun _ => True) vs (tgN i) mc me m L (w :: ws) h = kCif me ((wipeL L vs).set i (some w)) (cmpH (fun _ => True) vs (tgN i) mc me m L ws) m (mc ((wipeL L vs).set i (some w)) h) := by
  conv => lhs; unfold cmpH
  simp only [if_true, tgN]
  unfold kCif kCel
  cases mc ((wipeL L vs).set i (some w)) h with
  | ok x h2 =>
    cases x with
    | bl b =>
      cases b
      · rfl
      · try simp only
        all_goals (cases me ((wipeL L vs).set i (some w)) h2 <;> rfl)
    | _ => rfl
  | _ => rfl
@[simp] theorem mYes_ap (L : Loc) (h : Hq) : mYes L h = .ok (.bl true) h := by unfold mYes; rfl
@[simp] theorem wipeL_1 (L : Loc) : wipeL L [] = L := by unfold wipeL; rfl
@[simp] theorem wipeL_2 (L : Loc) (v : Nat) (vs : List Nat) : wipeL L (v :: vs) = (wipeL L vs).set v none := by
  conv => lhs; unfold wipeL
def kRun (n : Nat) : Option Hq → Rs
  | some h' => .ok (.cell n) h'
  | none => .bad
@[simp] theorem kRun_e1 (n : Nat) (h : Hq) : kRun n (some h) = .ok (.cell n) h := by unfold kRun; rfl
theorem runLc_ap (vs : List Nat) (mt : TgM) (mc me : M) (L : Loc) (ws : List W) (h : Hq) : runLc vs mt mc me L ws h = kRun h.length (cmpH (fun _ => True) vs mt mc me h.length L ws (h ++ [.lst []])) := by
  unfold runLc kRun
  cases cmpH (fun _ => True) vs mt mc me h.length L ws (h ++ [.lst []]) <;> rfl
@[simp] noncomputable def kLcR1 (vs : List Nat) (mt : TgM) (mc me : M) (L : Loc) (ws : List W) (h : Hq) : Rs := match ws with
  | [.int j] => if -4611686018427387904 ≤ j ∧ j < 4611686018427387904 then kRun h.length (cmpH (fun _ => True) vs mt mc me h.length L (rangeW 0 j.toNat) (h ++ [.lst []])) else .bad
  | _ => .bad
theorem mLcR1_ap (vs : List Nat) (mt : TgM) (mc me ms : M) (L : Loc) (h : Hq) : mLcR1 vs mt mc me ms L h = kL (kLcR1 vs mt mc me L) (ms L h) := by
  unfold mLcR1
  rw [bindL_kL]
  have e : (fun (ws : List W) (h1 : Hq) => (match ws with
    | [.int j] => if -4611686018427387904 ≤ j ∧ j < 4611686018427387904 then runLc vs mt mc me L (rangeW 0 j.toNat) h1 else .bad
    | _ => .bad : Rs)) = kLcR1 vs mt mc me L := by
    funext ws h1
    simp only [runLc_ap]
    rfl
  exact congrArg (fun k => kL k (ms L h)) e
theorem mLcD_run {vs : List Nat} {mt : TgM} {mc me m : M} {L : Loc} {h h2 : Hq} {n : Nat} {l : List (W × W)} {kd : DKd} {w : W} (e1 : m L h = .ok (.cell n) h) (e2 : m L (h.set n (.dk true l)) = .ok (.cell n) (h.set n (.dk true l))) (hn : h[n]? = some (.dk false l))
    (e3 : cmpH (fun _ => True) vs mt mc me h.length L (dItems kd l) (h.set n (.dk true l) ++ [.lst []]) = some h2) (e4 : h2[n]? = some (.dk true l)) :
    mLcD kd vs mt mc me m L h = .ok (.cell h.length) (h2.set n (.dk false l)) := by
  unfold mLcD
  rw [e1]
  simp only [hn]
  rw [e2]
  show unlkE n (if n = n then runLc vs mt mc me L (dItems kd l) (h.set n (.dk true l)) else .bad) = _
  rw [if_pos rfl, runLc_ap]
  have hl : (h.set n (.dk true l)).length = h.length := List.length_set
  rw [hl, e3]
  simp [unlkE, e4]
end MR
/-! MFr2: frames for walks over rows and zips. -/
namespace MR
open PySem (PyData Str)
@[simp] noncomputable def kZ3 (mt : TgM) (s : MS) (L : Loc) (ws : List W) (h : Hq) : Rf := match ws with
  | [.lst xs, .lst ys, .lst us] => if xs.length = ys.length ∧ ys.length = us.length then loopW mt s (zip3W xs ys us) L h else .bad
  | _ => .bad
@[simp] theorem sForZ3_ap (ms : M) (mt : TgM) (s : MS) (L : Loc) (h : Hq) : sForZ3 ms mt s L h = kSL L (kZ3 mt s L) (ms L h) := by
  unfold sForZ3
  rw [thnL_kSL]
  have e : (fun (ws : List W) (h1 : Hq) => (match ws with
    | [.lst xs, .lst ys, .lst us] => if xs.length = ys.length ∧ ys.length = us.length then loopX (fun _ => True) mt s (zip3W xs ys us) L h1 else .bad
    | _ => .bad : Rf)) = kZ3 mt s L := by
    funext ws h1
    simp only [loopX_true]
    rfl
  exact congrArg (fun k => kSL L k (ms L h)) e
theorem loopW_T3 (i j k : Nat) (s : MS) (x y u : W) (ws : List W) (L : Loc) (h : Hq) :
    loopW (tgT 3 (tgsCons (tgN i) (tgsCons (tgN j) (tgsCons (tgN k) (tgsNil))))) s (.tup [x, y, u] :: ws) L h = kTurn (loopW (tgT 3 (tgsCons (tgN i) (tgsCons (tgN j) (tgsCons (tgN k) (tgsNil))))) s ws) (s (((L.set i (some x)).set j (some y)).set k (some u)) h) := by
  show turnF (tgT 3 (tgsCons (tgN i) (tgsCons (tgN j) (tgsCons (tgN k) (tgsNil))))) s (.tup [x, y, u]) L h (loopW (tgT 3 (tgsCons (tgN i) (tgsCons (tgN j) (tgsCons (tgN k) (tgsNil))))) s ws) = _
  have e : tgT 3 (tgsCons (tgN i) (tgsCons (tgN j) (tgsCons (tgN k) (tgsNil)))) (.tup [x, y, u]) L h = .nx (((L.set i (some x)).set j (some y)).set k (some u)) h := rfl
  unfold turnF
  rw [e]
  simp only
  cases s (((L.set i (some x)).set j (some y)).set k (some u)) h <;> rfl
theorem forQ_lst {m : M} {mt : TgM} {s : MS} {L : Loc} {h h1 : Hq} {l : List W} (e : m L h = .ok (.lst l) h1) : sForQ m mt s L h = loopW mt s l L h1 := by
  unfold sForQ
  rw [e]
  exact loopX_true _ _ _
end MR
/-! MMeth: slices, more methods of lists, str of a text or None. -/
namespace MR
open PySem PySem.Spec PyProof.Rows L2
section
variable {X : Cx} {g : Gm} {Wx : WX} {e a b c : Expr} {m ma mb mc mo ms : M} {pos p cpos apos : Pos} {es : List Expr}
/-! ### slices -/
def mPart : Option M → Loc → Hq → (Option Int → Hq → Rs) → Rs
  | none, _, h, k => k none h
  | some m, L, h, k => (m L h).bind fun x h1 => match x with
    | .int i => k (some i) h1
    | _ => .bad
@[simp] theorem mPart_none (L : Loc) (h : Hq) (k : Option Int → Hq → Rs) : mPart none L h k = k none h := rfl
@[simp] theorem mPart_some (m : M) (L : Loc) (h : Hq) (k : Option Int → Hq → Rs) : mPart (some m) L h k = (m L h).bind fun x h1 => match x with
    | .int i => k (some i) h1
    | _ => .bad := rfl
/-- a bound as a place -/
@[simp] def cutI (n d : Nat) : Option Int → Nat
  | none => d
  | some v => if v < 0 then (v + (n : Int)).toNat else min v.toNat n
theorem cutI_eq (n d : Nat) (o : Option Int) : cutI n d o = HT.sIx n d o := by cases o <;> rfl
@[simp] def cutL {α : Type} (xs : List α) (lo hi : Option Int) : List α := (xs.drop (cutI xs.length 0 lo)).take (cutI xs.length xs.length hi - cutI xs.length 0 lo)
theorem cutL_V (xs : List V) (lo hi : Option Int) : cutL xs lo hi = cutV xs lo hi := by unfold cutL cutV; rw [cutI_eq, cutI_eq]
theorem cutL_S (z : List Nat) (lo hi : Option Int) : sV (cutL z lo hi) = cutS (sV z) lo hi := by
  unfold cutL cutS sV
  rw [cutI_eq, cutI_eq]
  have e : (Str.length ⟨z.toArray⟩) = z.length := by simp [Str.length]
  rw [e]
theorem RVs.cut {K : PySem.W.Frag} {r : List Addr} {H : Hp} {ws : List W} {vs : List V} (q : RVs K r H ws vs) (lo hi : Option Int) : RVs K r H (cutL ws lo hi) (cutV vs lo hi) := by
  rw [← cutL_V]
  unfold cutL
  rw [q.len]
  exact (q.drop _).take _
/-- what a slice tells -/
@[simp] def fCut (cell : Bool) (x : W) (lo hi : Option Int) (h : Hq) : Rs := match x with
  | .str z => if z.length ≤ lineN then .ok (.str (cutL z lo hi)) h else .bad
  | .tup l => .ok (.tup (cutL l lo hi)) h
  | .ktup l => if cutI l.length 0 lo = 0 ∧ cutI l.length l.length hi = l.length then .ok (.ktup l) h else .ok (.tup (cutL l lo hi)) h
  | x => match seqOf x h with
    | some l => if cell = true then .ok (.cell h.length) (h ++ [.lst (cutL l lo hi)]) else .ok (.lst (cutL l lo hi)) h
    | none => .bad
def mSlice (cell : Bool) (mo : M) (lo hi : Option M) : M := fun L h => (mo L h).bind fun x h1 => mPart lo L h1 fun l h2 => mPart hi L h2 fun u h3 => fCut cell x l u h3
def tOM (g : Gm) (Wx : WX) : Option M → TO
  | none => tNoPart
  | some m => tPart (tM g Wx m)
structure POM (X : Cx) (g : Gm) (Wx : WX) (e : Option Expr) (m : Option M) : Prop where
  po : PO X e (tOM g Wx m)
theorem pom_none : POM X g Wx none none := ⟨po_none⟩
theorem pom_some (h : PEM X g Wx e m) : POM X g Wx (some e) (some m) := ⟨po_some h⟩
theorem part_step {o : Option M} {k : Option Int → Hq → Rs} {σ : Sl} {r : List Addr} {h : Hq} {H : Hp} {L : Loc} {Q : VK} (A : At g r h H L σ) (x : Aft g Wx σ (mPart o L h k) r H Q) :
    tOM g Wx o σ H fun i H1 => ∃ (r1 : List Addr) (h1 : Hq), At g r1 h1 H1 L σ ∧ Gro r H r1 H1 ∧ Aft g Wx σ (k i h1) r1 H1 Q := by
  cases o with
  | none => exact ⟨r, h, A, Gro.refl, x⟩
  | some m =>
    obtain ⟨r0, h0, L0, A0, q0⟩ := tM_step (ma := m) A x
    refine ⟨r0, h0, L0, A0, q0.imp fun v H1 ⟨r1, h1, w, A1, G1, x1, q1⟩ => ?_⟩
    cases w with
    | int i =>
      simp only [RV] at x1
      exact ⟨i, x1, r1, h1, A1, G1, q1⟩
    | _ => exact q1.elim
theorem tOM_imp {o : Option M} {σ : Sl} {H : Hp} {Q Q' : Option Int → Hp → Prop} (h : tOM g Wx o σ H Q) (i : ∀ x H1, Q x H1 → Q' x H1) : tOM g Wx o σ H Q' := by
  cases o with
  | none => exact i _ _ h
  | some m =>
    obtain ⟨r, h, L, A, q⟩ := h
    exact ⟨r, h, L, A, q.imp fun v H1 ⟨j, e, z⟩ => ⟨j, e, i _ _ z⟩⟩
theorem cut_S {cell : Bool} {x : W} {v : V} {lo hi : Option Int} {σ : Sl} {r : List Addr} {h : Hq} {H : Hp} {Q : VK} (R : Rep g r h H) (q : RV g.K r H x v) (a : Aft g Wx σ (fCut cell x lo hi h) r H Q) :
    rSlS v lo hi H Q ∨ (rSlA g.K v lo hi H Q ∨ rSlL g.K v lo hi H Q) := by
  have seqC : ∀ l, seqOf x h = some l → (∀ z, x ≠ .str z) → (∀ z, x ≠ .tup z) → (∀ z, x ≠ .ktup z) → lstOf x h = some l ∨ x = .rol l := by
    intro l e n1 n2 n3
    cases x with
    | rol l' => simp only [seqOf, Option.some.injEq] at e; subst e; exact .inr rfl
    | tup l' => exact (n2 _ rfl).elim
    | ktup l' => exact (n3 _ rfl).elim
    | str l' => exact (n1 _ rfl).elim
    | _ => exact .inl e
  have lastC : ∀ l, seqOf x h = some l → (∀ z, x ≠ .str z) → (∀ z, x ≠ .tup z) → (∀ z, x ≠ .ktup z) → Aft g Wx σ (if cell = true then .ok (.cell h.length) (h ++ [.lst (cutL l lo hi)]) else .ok (.lst (cutL l lo hi)) h) r H Q → rSlL g.K v lo hi H Q := by
    intro l e n1 n2 n3 a
    obtain ⟨p, vs, rfl, hp, qs⟩ : ∃ (p : Addr) (vs : List V), v = .ref p ∧ SqL g.K H p vs ∧ RVs g.K r H l vs := by
      rcases seqC l e n1 n2 n3 with e | e
      · obtain ⟨p, vs, ev, hp, qs⟩ := lstOf_at R q e
        exact ⟨p, vs, ev, SqL.of hp, qs⟩
      · subst e
        simp only [RV] at q
        obtain ⟨p, vs, ev, hp, qs⟩ := q
        refine ⟨p, vs, ev, ?_, qs⟩
        rcases hp with ⟨_, hp⟩ | hp
        · exact .inl hp
        · exact .inr hp
    refine ⟨p, vs, rfl, hp, fun z hz => ?_⟩
    split at a
    · exact a _ _ _ (Gro.cell hz) (R.cell hz ⟨_, rfl, RVs.gro (Gro.cell hz) _ _ (qs.cut lo hi)⟩) (RV.new R)
    · refine a _ _ _ (Gro.upd hz) (R.upd hz) ?_
      simp only [RV]
      exact ⟨z, _, rfl, ⟨R.fresh hz, upd_same⟩, RVs.gro (Gro.upd hz) _ _ (qs.cut lo hi)⟩
  cases x with
  | str z =>
    simp only [RV] at q; subst q
    simp only [fCut] at a
    split at a
    · rename_i hz
      refine .inl ⟨sV z, rfl, by rw [sV_len, lineN_eq]; exact hz, ?_⟩
      rw [← cutL_S]
      exact a r H _ Gro.refl R (by simp only [RV])
    · exact a.elim
  | tup l =>
    simp only [RV] at q
    obtain ⟨p, vs, rfl, ⟨np, hp⟩, qs⟩ := q
    refine .inr (.inl ⟨p, vs, rfl, SqT.of hp, fun hw => ?_, fun hw z hz => ?_⟩)
    · refine a r H _ Gro.refl R ?_
      simp only [RV]
      refine ⟨p, vs, rfl, ⟨np, hp⟩, ?_⟩
      have := qs.cut lo hi
      unfold cutV at this
      rw [hw.1, hw.2] at this
      simpa using this
    · refine a _ _ _ (Gro.upd hz) (R.upd hz) ?_
      simp only [RV]
      exact ⟨z, _, rfl, ⟨R.fresh hz, upd_same⟩, RVs.gro (Gro.upd hz) _ _ (qs.cut lo hi)⟩
  | ktup l =>
    have q' := q
    simp only [RV] at q
    obtain ⟨p, vs, rfl, hp, qs⟩ := q
    have el := qs.len
    refine .inr (.inl ⟨p, vs, rfl, .inr hp, fun hw => ?_, fun hw z hz => ?_⟩)
    · simp only [fCut] at a
      rw [if_pos (by rw [cutI_eq, cutI_eq, el]; exact hw)] at a
      exact a r H _ Gro.refl R q'
    · simp only [fCut] at a
      rw [if_neg (by rw [cutI_eq, cutI_eq, el]; exact hw)] at a
      refine a _ _ _ (Gro.upd hz) (R.upd hz) ?_
      simp only [RV]
      exact ⟨z, _, rfl, ⟨R.fresh hz, upd_same⟩, RVs.gro (Gro.upd hz) _ _ (qs.cut lo hi)⟩
  | _ =>
    simp only [fCut] at a
    split at a
    · rename_i l e
      exact .inr (.inr (lastC l e (fun z e => by cases e) (fun z e => by cases e) (fun z e => by cases e) a))
    · exact a.elim
theorem slice_ok {cell : Bool} {lo hi : Option Expr} {ml mh : Option M} {p2 : Pos} (hk : Kx X g Wx) (ha : PEM X g Wx a ma) (hl : POM X g Wx lo ml) (hh : POM X g Wx hi mh) : PEM X g Wx (.Subscript a (.Slice lo hi none p2) pos) (mSlice cell ma ml mh) :=
  pe_imp (pe_slice (SlR.or sl_str (SlR.or sl_tupA sl_list)) ha hl.po hh.po) fun σ H Q ⟨r, h, L, A, q⟩ => by
    rw [hk.hK]
    obtain ⟨r0, h0, L0, A0, q0⟩ := tM_step (ma := ma) A q
    refine ⟨r0, h0, L0, A0, q0.imp fun v H1 ⟨r1, h1, x, A1, G1, x1, q1⟩ => ?_⟩
    have s1 := part_step A1 q1
    refine tOM_imp s1 fun l H2 ⟨r2, h2, A2, G2, q2⟩ => ?_
    have s2 := part_step A2 q2
    exact tOM_imp s2 fun u H3 ⟨r3, h3, A3, G3, q3⟩ => cut_S A3.rep (RV.gro G3 _ _ (RV.gro G2 _ _ x1)) q3
end
end MR
/-! MMeth2: extend, pop, remove of a text; str of a text, None or an int. -/
namespace MR
open PySem PySem.Spec PyProof.Rows L2
section
variable {X : Cx} {g : Gm} {Wx : WX} {e a b c : Expr} {m ma mb mc mo ms : M} {pos p cpos apos : Pos} {es : List Expr}
@[simp] def fExtend : Mf := fun o ws h => match ws with
  | [w] => match cellL o h, lstOf w h with
    | some (n, l), some l2 => if l.length + l2.length ≤ lineN then .ok .non (h.set n (.lst (l ++ l2))) else .bad
    | _, _ => .bad
  | _ => .bad
theorem extend_S : MtS' g Wx rExtend fExtend := by
  intro r h H σ o v ws vs Q R qo qw x
  unfold fExtend at x
  split at x
  · rename_i w
    obtain ⟨u, rfl, q1⟩ := RVs.one_inv qw
    split at x
    · rename_i n l l2 el e2
      obtain ⟨p, vs, rfl, er, hp, q2⟩ := cellL_at R qo el
      obtain ⟨p2, vs2, rfl, hp2, q3⟩ := lstOf_at R q1 e2
      split at x
      · rename_i hl
        obtain ⟨G, R'⟩ := put_lst R er hp (q2.app q3)
        exact ⟨p, p2, vs, vs2, rfl, rfl, hp, hp2, by rw [← q2.len, ← q3.len, lineN_eq]; exact hl, x r _ _ G R' (by simp only [RV])⟩
      · exact x.elim
    · exact x.elim
  · exact x.elim
theorem RVs.dropLast {K : PySem.W.Frag} {r : List Addr} {H : Hp} {ws : List W} {vs : List V} (q : RVs K r H ws vs) : RVs K r H ws.dropLast vs.dropLast := by
  rw [List.dropLast_eq_take, List.dropLast_eq_take, q.len]
  exact q.take _
theorem RVs.eraseIdx {K : PySem.W.Frag} {r : List Addr} {H : Hp} : ∀ {ws : List W} {vs : List V} (k : Nat), RVs K r H ws vs → RVs K r H (ws.eraseIdx k) (vs.eraseIdx k)
  | [], _, _, q => by rw [q.inv0]; exact .nil
  | w :: ws, vs, 0, q => by
    obtain ⟨v, t, rfl, _, h2⟩ := q.inv
    exact h2
  | w :: ws, vs, k + 1, q => by
    obtain ⟨v, t, rfl, h1, h2⟩ := q.inv
    exact .cons h1 (RVs.eraseIdx k h2)
@[simp] def fPop : Mf := fun o ws h => match ws with
  | [] => match cellL o h with
    | some (n, l) => match l[l.length - 1]? with
      | some y => .ok y (h.set n (.lst l.dropLast))
      | none => .bad
    | none => .bad
  | _ => .bad
theorem pop_S : MtS' g Wx rPop fPop := by
  intro r h H σ o v ws vs Q R qo qw x
  unfold fPop at x
  split at x
  · have := qw.inv0; subst this
    split at x
    · rename_i n l el
      obtain ⟨p, vs, rfl, er, hp, q2⟩ := cellL_at R qo el
      split at x
      · rename_i y ey
        obtain ⟨u, eu, qu⟩ := q2.get ey
        obtain ⟨G, R'⟩ := put_lst R er hp q2.dropLast
        exact ⟨p, vs, u, rfl, rfl, hp, by rw [← q2.len]; exact eu, x r _ _ G R' (RV.gro G _ _ qu)⟩
      · exact x.elim
    · exact x.elim
  · exact x.elim
@[simp] def fPopAt : Mf := fun o ws h => match ws with
  | [.int i] => match cellL o h with
    | some (n, l) => if 0 ≤ i ∧ i < 4611686018427387904 then match l[i.toNat]? with
      | some y => .ok y (h.set n (.lst (l.eraseIdx i.toNat)))
      | none => .bad
      else .bad
    | none => .bad
  | _ => .bad
theorem popAt_S : MtS' g Wx rPopAt fPopAt := by
  intro r h H σ o v ws vs Q R qo qw x
  unfold fPopAt at x
  split at x
  · rename_i i
    obtain ⟨u, rfl, q1⟩ := RVs.one_inv qw
    simp only [RV] at q1; subst q1
    split at x
    · rename_i n l el
      obtain ⟨p, vs, rfl, er, hp, q2⟩ := cellL_at R qo el
      split at x
      · rename_i hi
        split at x
        · rename_i y ey
          obtain ⟨u, eu, qu⟩ := q2.get ey
          obtain ⟨G, R'⟩ := put_lst R er hp (q2.eraseIdx i.toNat)
          have hlt : i.toNat < vs.length := (List.getElem?_eq_some_iff.mp eu).1
          refine ⟨p, vs, i, i.toNat, u, rfl, rfl, hp, by omega, by omega, ?_, eu, x r _ _ G R' (RV.gro G _ _ qu)⟩
          have h1 : ¬ i < 0 := by omega
          have h2 : i < (vs.length : Int) := by omega
          simp [seqIndex?, h1, h2, hi.1]
        · exact x.elim
      · exact x.elim
    · exact x.elim
  · exact x.elim
/-! ### remove of a text -/
@[simp] def rmS (s : List Nat) : List W → Option (List W)
  | [] => none
  | .str t :: r => if t = s then some r else (rmS s r).map (W.str t :: ·)
  | _ :: _ => none
@[simp] def allS : List W → Bool
  | [] => true
  | .str _ :: r => allS r
  | _ :: _ => false
def rRemT : V → List V → Hp → VK → Prop := fun x xs H Q => ∃ (l : Addr) (ns : List Str) (k : Str) (j : Nat), x = .ref l ∧ xs = [.str k] ∧ H l = some (.lst (ns.map V.str)) ∧ ns[j]? = some k ∧ (∀ m : Nat, m < j → ns[m]? ≠ some k) ∧ Q .non (upd H l (.lst ((ns.eraseIdx j).map V.str)))
theorem strs_of_vals : ∀ {ns : List Str} {us : List Value}, Vals (ns.map V.str) us → StrsAre us ns
  | [], _, .nil => .nil
  | n :: ns, _, .cons r h => by
    obtain ⟨t, rfl⟩ := r
    exact .cons n t (strs_of_vals h)
theorem strsAre_get : ∀ {us : List Value} {ns : List Str}, StrsAre us ns → ∀ (j : Nat) (k : Str), ns[j]? = some k → ∃ t, us[j]? = some (.str k t)
  | _, _, .nil, j, k, e => by simp at e
  | _, _, .cons n t h, 0, k, e => by
    simp at e; subst e
    exact ⟨t, rfl⟩
  | _, _, .cons n t h, j + 1, k, e => by
    obtain ⟨t', e'⟩ := strsAre_get h j k (by simpa using e)
    exact ⟨t', by simpa using e'⟩
theorem erase_mapS : ∀ (l : List Str) (j : Nat), (l.map V.str).eraseIdx j = (l.eraseIdx j).map V.str
  | [], j => by simp
  | a :: r, 0 => by simp
  | a :: r, j + 1 => by
    have ih := erase_mapS r j
    simp [ih]
theorem mt_removeT : MtM X "list.remove" rRemT := by
  intro pins s σ H x xs v us Q I rx rxs h
  obtain ⟨l, ns, k, j, rfl, rfl, hH, hj, hno, q⟩ := h
  cases rx
  obtain ⟨u, rfl, ru⟩ := rxs.one
  obtain ⟨t, rfl⟩ := ru
  obtain ⟨z, its, n, r, hl, e⟩ := I.lstM hH
  have hi := strs_of_vals r
  rw [List.length_map] at hl z
  have hjn : j < ns.length := (List.getElem?_eq_some_iff.mp hj).1
  have hjl : j < its.toArray.size := by rw [List.size_toArray]; omega
  refine call_meets PySem.F.slot_list_remove ⟨_, e, rfl⟩ PySem.F.entry_list_remove (PySem.F.args_list_remove_2 _ _)
    (MeetsSeq.list_remove l its.toArray n (.str k t) (isStrOf k) (fun y hy => eq_isStrOf k t hi y (by simpa using hy)) j hjl ?_ ?_ (by rw [List.size_toArray]; omega)) ⟨e, ?_⟩
  · obtain ⟨tj, hjt⟩ := strsAre_get hi j k hj
    obtain ⟨h1, h2⟩ := List.getElem?_eq_some_iff.mp hjt
    have e1 : its.toArray[j] = .str k tj := by simpa using h2
    rw [e1]
    exact beq_self_eq_true k
  · intro m hm hmj
    have hmn : m < ns.length := by omega
    obtain ⟨tm, hmt⟩ := strsAre_get hi m _ (List.getElem?_eq_getElem hmn)
    obtain ⟨h1, h2⟩ := List.getElem?_eq_some_iff.mp hmt
    have e1 : its.toArray[m] = .str ns[m] tm := by simpa using h2
    rw [e1]
    refine beq_eq_false_iff_ne.mpr fun e2 => hno m hmj ?_
    rw [List.getElem?_eq_getElem hmn, e2]
  · have rr := r.eraseIdx j
    rw [erase_mapS] at rr
    refine ⟨.non, _, I.lset (its' := its.eraseIdx j) (t' := s.toks) hH e ?_ rr ?_, rfl, q⟩
    · show its.toArray.eraseIdxIfInBounds j = (its.eraseIdx j).toArray
      rw [List.eraseIdxIfInBounds_toArray]
    · have z2 := len_erase ns j
      rw [List.length_map]
      omega
theorem allS_vals {r : List Addr} {H : Hp} : ∀ {l : List W} {vs : List V}, allS l = true → RVs g.K r H l vs → ∃ ns : List Str, vs = ns.map V.str
  | [], vs, _, q => ⟨[], by rw [q.inv0]; rfl⟩
  | .str t :: l, vs, h, q => by
    obtain ⟨v, t', rfl, h1, h2⟩ := q.inv
    simp only [RV] at h1; subst h1
    obtain ⟨ns, rfl⟩ := allS_vals (l := l) h h2
    exact ⟨sV t :: ns, rfl⟩
theorem rmS_at {r : List Addr} {H : Hp} {s : List Nat} : ∀ {l l' : List W} {vs : List V}, allS l = true → rmS s l = some l' → RVs g.K r H l vs → ∃ (ns : List Str) (j : Nat), vs = ns.map V.str ∧ ns[j]? = some (sV s) ∧ (∀ m : Nat, m < j → ns[m]? ≠ some (sV s)) ∧ RVs g.K r H l' ((ns.eraseIdx j).map V.str)
  | [], l', vs, _, e, q => by cases e
  | .str t :: l, l', vs, ha, e, q => by
    obtain ⟨v, t', rfl, h1, h2⟩ := q.inv
    simp only [RV] at h1; subst h1
    simp only [rmS] at e
    split at e
    · rename_i et
      subst et
      cases e
      obtain ⟨ns, rfl⟩ := allS_vals (l := l) ha h2
      exact ⟨sV t :: ns, 0, rfl, rfl, fun m hm => by omega, by simpa using h2⟩
    · rename_i et
      cases er : rmS s l with
      | none => rw [er] at e; cases e
      | some l2 =>
        rw [er] at e; cases e
        obtain ⟨ns, j, rfl, hj, hno, q'⟩ := rmS_at (l := l) ha er h2
        refine ⟨sV t :: ns, j + 1, rfl, by simpa using hj, fun m hm => ?_, ?_⟩
        · cases m with
          | zero => simp only [List.getElem?_cons_zero, ne_eq, Option.some.injEq]; exact fun z => et (sV_inj z)
          | succ m => simpa using hno m (by omega)
        · simp only [List.eraseIdx_cons_succ, List.map_cons]
          exact .cons (by simp only [RV]) q'
@[simp] def fRemT : Mf := fun o ws h => match ws with
  | [.str s] => match cellL o h with
    | some (n, l) => if allS l = true then match rmS s l with
      | some l' => .ok .non (h.set n (.lst l'))
      | none => .bad
      else .bad
    | none => .bad
  | _ => .bad
theorem removeT_S : MtS' g Wx rRemT fRemT := by
  intro r h H σ o v ws vs Q R qo qw x
  unfold fRemT at x
  split at x
  · rename_i s
    obtain ⟨u, rfl, q1⟩ := RVs.one_inv qw
    simp only [RV] at q1; subst q1
    split at x
    · rename_i n l el
      obtain ⟨p, vs, rfl, er, hp, q2⟩ := cellL_at R qo el
      split at x
      · rename_i ha
        split at x
        · rename_i l' e'
          obtain ⟨ns, j, rfl, hj, hno, q'⟩ := rmS_at ha e' q2
          obtain ⟨G, R'⟩ := put_lst R er hp q'
          exact ⟨p, ns, sV s, j, rfl, rfl, hp, hj, hno, x r _ _ G R' (by simp only [RV])⟩
        · exact x.elim
      · exact x.elim
    · exact x.elim
  · exact x.elim
/-! ### str -/
def strI (i : Int) : List Nat := (toString i).toList.map Char.toNat
theorem strI_sV (i : Int) : sV (strI i) = Str.ofString (toString i) := by
  rw [Str.ofString_eq_toList]; rfl
theorem call_str_none : CallR X (.type "str") (fun xs H Q => xs = [.non] ∧ Q (.str "None") H) := by
  intro pins s σ H xs us Q I r h
  obtain ⟨rfl, q⟩ := h
  obtain ⟨u, rfl, ru⟩ := vals1 r
  cases ru
  exact PySem.P.str_of_none ⟨.str "None", H, I.tok _, ⟨_, rfl⟩, q⟩
def rStrA : List V → Hp → VK → Prop := fun xs H Q => (xs = [.non] ∧ Q (.str "None") H) ∨ ((∃ a, xs = [.str a] ∧ Q (.str a) H) ∨ ∃ i, xs = [.int i] ∧ i.natAbs.log2 < 1920 ∧ Q (.str (toString i)) H)
theorem call_strA : CallR X (.type "str") rStrA := by
  intro pins s σ H xs us Q I r h
  rcases h with h | h | h
  · exact call_str_none pins s σ H xs us Q I r h
  · exact SkE.call_str_str pins s σ H xs us Q I r h
  · exact call_str_int pins s σ H xs us Q I r h
@[simp] def bStr : Fn := fun ws h => match ws with
  | [.non] => .ok (.str [78, 111, 110, 101]) h
  | [.str s] => .ok (.str s) h
  | [.int i] => if i.natAbs < 1606938044258990275541962092341162602522202993782792835301376 then .ok (.str (strI i)) h else .bad
  | _ => .bad
theorem str_S : CallS g Wx rStrA bStr := by
  intro r h H σ ws vs Q R q x
  unfold bStr at x
  split at x
  · obtain ⟨u, rfl, q1⟩ := RVs.one_inv q
    simp only [RV] at q1; subst q1
    exact .inl ⟨rfl, x r H _ Gro.refl R (by simp only [RV]; rfl)⟩
  · obtain ⟨u, rfl, q1⟩ := RVs.one_inv q
    simp only [RV] at q1; subst q1
    exact .inr (.inl ⟨_, rfl, x r H _ Gro.refl R (by simp only [RV])⟩)
  · rename_i i
    obtain ⟨u, rfl, q1⟩ := RVs.one_inv q
    simp only [RV] at q1; subst q1
    split at x
    · rename_i hi
      refine .inr (.inr ⟨i, rfl, ?_, x r H _ Gro.refl R ?_⟩)
      · have hi' : i.natAbs < 2 ^ 200 := hi
        by_cases h0 : i.natAbs = 0
        · rw [h0]; decide
        · have := (Nat.log2_lt h0).mpr hi'
          omega
      · simp only [RV]
        rw [strI_sV]
    · exact x.elim
  · exact x.elim
end
end MR
/-! MFr3: comprehensions whose parts change nothing; slices; whiles. -/
namespace MR
open PySem (PyData Str)
theorem cmpH_pure {chk : Hq → Prop} {vs : List Nat} {mt : TgM} {mc me : M} {L : Loc} {h1 : Hq} {G : W → Loc} {c : W → Bool} {f : W → W} (hc : ∀ acc, chk (h1 ++ [.lst acc])) :
    ∀ (ws acc : List W), (∀ x ∈ ws, ∀ acc, mt x (wipeL L vs) (h1 ++ [.lst acc]) = .nx (G x) (h1 ++ [.lst acc]) ∧ mc (G x) (h1 ++ [.lst acc]) = .ok (.bl (c x)) (h1 ++ [.lst acc]) ∧ (c x = true → me (G x) (h1 ++ [.lst acc]) = .ok (f x) (h1 ++ [.lst acc]))) →
    acc.length + ws.length ≤ lineN → cmpH chk vs mt mc me h1.length L ws (h1 ++ [.lst acc]) = some (h1 ++ [.lst (acc ++ (ws.filter c).map f)])
  | [], acc, _, _ => by
    unfold cmpH
    rw [if_pos (hc acc)]
    simp
  | w :: ws, acc, hp, hl => by
    obtain ⟨e1, e2, e3⟩ := hp w (by simp) acc
    have ih := cmpH_pure (mt := mt) (mc := mc) (me := me) (L := L) (vs := vs) (G := G) (c := c) (f := f) hc ws
    unfold cmpH
    rw [if_pos (hc acc), e1]
    simp only
    rw [e2]
    cases hcw : c w with
    | true =>
      simp only
      rw [e3 hcw]
      simp only [hnew]
      rw [if_pos (by simp at hl ⊢; omega), hset_app]
      have := ih (acc ++ [f w]) (fun x hx => hp x (by simp [hx])) (by simp at hl ⊢; omega)
      rw [this]
      simp [hcw]
    | false =>
      simp only
      have := ih acc (fun x hx => hp x (by simp [hx])) (by simp at hl ⊢; omega)
      rw [this]
      simp [hcw]
theorem mLc_pure {vs : List Nat} {mt : TgM} {mc me mi : M} {L : Loc} {h h1 : Hq} {w : W} {im : Itm} {G : W → Loc} {c : W → Bool} {f : W → W} (ei : mi L h = .ok w h1) (et : itmOf w h1 = some im) (hc : ∀ acc, im.chk (h1 ++ [.lst acc]))
    (hp : ∀ x ∈ im.ws, ∀ acc, mt x (wipeL L vs) (h1 ++ [.lst acc]) = .nx (G x) (h1 ++ [.lst acc]) ∧ mc (G x) (h1 ++ [.lst acc]) = .ok (.bl (c x)) (h1 ++ [.lst acc]) ∧ (c x = true → me (G x) (h1 ++ [.lst acc]) = .ok (f x) (h1 ++ [.lst acc])))
    (hl : im.ws.length ≤ lineN) : mLc vs mt mc me mi L h = .ok (.cell h1.length) (h1 ++ [.lst ((im.ws.filter c).map f)]) := by
  unfold mLc
  rw [ei]
  simp only [Rs.bind_ok, et]
  have := cmpH_pure (mt := mt) (mc := mc) (me := me) (L := L) (vs := vs) (G := G) (c := c) (f := f) hc im.ws [] hp (by simpa using hl)
  rw [this]
  simp
theorem itm_cell {n : Nat} {h : Hq} {l : List W} (e : h[n]? = some (.lst l)) : itmOf (.cell n) h = some ⟨l, isL n l⟩ := by simp [itmOf, e]
theorem mLc_cellN {vs : List Nat} {i n : Nat} {mc me mi : M} {L : Loc} {h h1 : Hq} {l : List W} {c : W → Bool} {f : W → W} (ei : mi L h = .ok (.cell n) h1) (en : h1[n]? = some (.lst l))
    (hp : ∀ x ∈ l, ∀ acc, mc ((wipeL L vs).set i (some x)) (h1 ++ [.lst acc]) = .ok (.bl (c x)) (h1 ++ [.lst acc]) ∧ (c x = true → me ((wipeL L vs).set i (some x)) (h1 ++ [.lst acc]) = .ok (f x) (h1 ++ [.lst acc])))
    (hl : l.length ≤ lineN) : mLc vs (tgN i) mc me mi L h = .ok (.cell h1.length) (h1 ++ [.lst ((l.filter c).map f)]) :=
  mLc_pure (im := ⟨l, isL n l⟩) (G := fun x => (wipeL L vs).set i (some x)) ei (itm_cell en) (fun acc => happ en) (fun x hx acc => ⟨rfl, hp x hx acc⟩) hl
def kSlice (cell : Bool) (lo hi : Option M) (L : Loc) : Rs → Rs
  | .ok x h1 => mPart lo L h1 fun l h2 => mPart hi L h2 fun u h3 => fCut cell x l u h3
  | .ex c fs h => .ex c fs h
  | .bad => .bad
@[simp] theorem kSlice_e1 (cell : Bool) (lo hi : Option M) (L : Loc) (x : W) (h : Hq) : kSlice cell lo hi L (.ok x h) = mPart lo L h fun l h2 => mPart hi L h2 fun u h3 => fCut cell x l u h3 := by unfold kSlice; rfl
@[simp] theorem kSlice_e2 (cell : Bool) (lo hi : Option M) (L : Loc) (c : Nat) (fs : List (Nat × W)) (h : Hq) : kSlice cell lo hi L (.ex c fs h) = .ex c fs h := by unfold kSlice; rfl
@[simp] theorem kSlice_e3 (cell : Bool) (lo hi : Option M) (L : Loc) : kSlice cell lo hi L .bad = .bad := by unfold kSlice; rfl
@[simp] theorem mSlice_ap (cell : Bool) (mo : M) (lo hi : Option M) (L : Loc) (h : Hq) : mSlice cell mo lo hi L h = kSlice cell lo hi L (mo L h) := by
  unfold mSlice
  cases mo L h <;> simp
@[simp] theorem eqW_nil (h : Hq) : eqW (.lst []) (.lst []) h = some true := by
  rw [eqW_ll (ds := []) (ds' := []) (by simp) (by simp)]
  simp
theorem rep_flat {α : Type} (n : Nat) (x : α) : (List.replicate n [x]).flatten = List.replicate n x := by
  induction n with
  | zero => rfl
  | succ n ih => rw [List.replicate_succ, List.flatten_cons, ih]; rfl
end MR
/-! MKw: keyword-only defaults; calls with keywords. -/
namespace MR
open PySem PySem.Spec PyProof.Rows L2
/-! ### keyword-only defaults -/
def kwB (K : PySem.W.Frag) (f : Addr) (l : List (Str × W)) : Bool := match K.lookup f with
  | some ⟨_, _, .func fd, _⟩ => (match fd.kwdefaults with
    | .ref D => l.all fun q => (match PySem.W.nsIn K D q.1 with
      | some (some u) => kcB K q.2 u
      | _ => false)
    | _ => false)
  | _ => false
theorem kw_vals {K : PySem.W.Frag} {D : Addr} : ∀ {l : List (Str × W)}, (l.all fun q => (match PySem.W.nsIn K D q.1 with
      | some (some u) => kcB K q.2 u
      | _ => false)) = true → ∃ vs : List V, vs.length = l.length ∧ (∀ q ∈ (l.map (·.1)).zip vs, ∃ u, PySem.W.nsIn K D q.1 = some (some u) ∧ RelV q.2 u) ∧ ∀ r H, RVs K r H (l.map (·.2)) vs
  | [], _ => ⟨[], rfl, fun q hq => (by cases hq), fun _ _ => RVs.nil⟩
  | q :: l, h => by
    obtain ⟨h1, h2⟩ := He.ba (show ((match PySem.W.nsIn K D q.1 with
      | some (some u) => kcB K q.2 u
      | _ => false) && l.all _) = true from h)
    obtain ⟨vs, e1, e2, e3⟩ := kw_vals (l := l) h2
    split at h1
    · rename_i u eu
      obtain ⟨v, r1, r2⟩ := kcB_ok q.2 u h1
      refine ⟨v :: vs, congrArg Nat.succ e1, fun z hz => ?_, fun r H => .cons (r2 r H) (e3 r H)⟩
      rcases List.mem_cons.mp (show z ∈ (q.1, v) :: (l.map (·.1)).zip vs from hz) with e | hz
      · rw [e]; exact ⟨u, eu, r1⟩
      · exact e2 z hz
    · cases h1
theorem zip_fst {α β : Type} : ∀ {l : List α} {m : List β}, m.length = l.length → (l.zip m).map (·.1) = l
  | [], [], _ => rfl
  | a :: l, b :: m, h => by
    show a :: (l.zip m).map (·.1) = a :: l
    rw [zip_fst (by simpa using h)]
theorem zip_snd {α β : Type} : ∀ {l : List α} {m : List β}, m.length = l.length → (l.zip m).map (·.2) = m
  | [], [], _ => rfl
  | a :: l, b :: m, h => by
    show b :: (l.zip m).map (·.2) = b :: m
    rw [zip_snd (by simpa using h)]
theorem kw_ex {K : PySem.W.Frag} {x qual : Str} {params : Arguments} {body : List Stmt} {scope : Scope} {f : Addr} {fd : FuncData} {l : List (Str × W)} (F : FunD K x qual params body scope [] [] f fd) (h : kwB K f l = true) :
    ∃ vs : List V, vs.length = l.length ∧ FunD K x qual params body scope [] ((l.map (·.1)).zip vs) f fd ∧ ∀ r H, RVs K r H (l.map (·.2)) vs := by
  obtain ⟨oc, od, dV, kV, doc, pm, an, cdv, ct, osl, rfl, lk, hcd, hD, hK⟩ := F.ex
  unfold kwB at h
  rw [lk] at h
  cases kV with
  | ref D =>
    obtain ⟨vs, e1, e2, e3⟩ := kw_vals (show (l.all fun q => (match PySem.W.nsIn K D q.1 with
      | some (some u) => kcB K q.2 u
      | _ => false)) = true from h)
    exact ⟨vs, e1, ⟨⟨oc, od, dV, .ref D, doc, pm, an, cdv, ct, osl, rfl, lk, hcd, hD, .inr ⟨D, rfl, e2⟩⟩, F.kp⟩, e3⟩
  | _ => cases h
/-- a def with keyword-only defaults, called by places alone -/
theorem cal_kw {P : Program} {w : World} {g : Gm} {mg : Str → Option Value} {base : Heap} {k : Nat} {d : He.DefD} {fd : FuncData} {N ps : List Str} {n n0 : Nat} {s : MS} {l : List (Str × W)} (hx : (∀ r, g.px r) ∧ g.sp = none) (F : FunD g.K d.name d.qual d.params d.body d.scope [] [] (He.fAd g.K d.at_) fd) (hl : kwB g.K (He.fAd g.K d.at_) l = true) (S : FnScope N ps d.scope) (hn : ps.length = n) (hne : l ≠ []) (hn0 : n0 + l.length = ps.length)
    (hb : ∀ (D : Addr) (doc pm : Value) (an : Option Addr) (cdv ct : Value) (us ks : List Value), us.length = n0 → ks.length = l.length → KwChain D ((l.map (·.1)).zip ks) (bindArgs (PySem.W.fnOf d.name d.qual d.params d.body d.scope .none (.ref D) doc pm an cdv ct) ⟨us, []⟩) (ps.zip (us ++ ks)))
    (hbody : ∀ (cdv : Value) (A : Around) (outer : List Env) (sh : Shared) (H : Hp) (E : XK), Room k (cxM P w g mg base N d.qual d.scope (He.fAd g.K d.at_) cdv A outer sh H E).A → Kx (cxM P w g mg base N d.qual d.scope (He.fAd g.K d.at_) cdv A outer sh H E) g (fun cls d _ H' => E cls d H') →
      PassesOwn (model P w) (cxM P w g mg base N d.qual d.scope (He.fAd g.K d.at_) cdv A outer sh H E).A (cxM P w g mg base N d.qual d.scope (He.fAd g.K d.at_) cdv A outer sh H E).env (cxM P w g mg base N d.qual d.scope (He.fAd g.K d.at_) cdv A outer sh H E).xe →
      PSsM (cxM P w g mg base N d.qual d.scope (He.fAd g.K d.at_) cdv A outer sh H E) g (fun cls d _ H' => E cls d H') d.body s) :
    Cal P w g mg base (k + 1) (He.fAd g.K d.at_) n (mDef N.length s) (l.map (·.2)) := by
  obtain ⟨vs, e1, F2, e3⟩ := kw_ex F hl
  have ef := zip_fst (l := l.map (·.1)) (m := vs) (by rw [List.length_map]; exact e1)
  have es := zip_snd (l := l.map (·.1)) (m := vs) (by rw [List.length_map]; exact e1)
  have ezl : ((l.map (·.1)).zip vs).length = l.length := by rw [← List.length_map (f := fun q : Str × V => q.1), ef, List.length_map]
  obtain ⟨ds, r, b⟩ := F2.binds0 (ps := ps) n0 (fun z => hne (by rw [z] at ezl; exact List.length_eq_zero_iff.mp ezl.symm)) (by rw [ezl]; exact hn0) (fun D doc pm an cdv ct us ks h1 h2 => by
    rw [ef]; exact hb D doc pm an cdv ct us ks h1 (by rw [← ezl]; exact h2))
  rw [es] at r
  exact ⟨⟨fd, ps, ds, vs, fn_okM hx F S hn hbody, b, r, e3⟩, F.kp⟩
/-! ### calls with keywords -/
def pick {α : Type} (idx : List Nat) (l : List α) : List α := idx.filterMap fun i => l[i]?
theorem Vals.pick {vs : List V} {us : List Value} (h : Vals vs us) : ∀ idx : List Nat, Vals (pick idx vs) (pick idx us)
  | [] => .nil
  | i :: idx => by
    have ih := Vals.pick h idx
    unfold MR.pick at ih ⊢
    rw [List.filterMap_cons, List.filterMap_cons]
    cases e : vs[i]? with
    | none =>
      have : us[i]? = none := by
        rw [List.getElem?_eq_none_iff] at e ⊢
        rw [← h.length]; exact e
      rw [this]; exact ih
    | some v =>
      obtain ⟨u, e1, e2⟩ := h.get e
      rw [e1]; exact .cons e2 ih
theorem RVs.pick {K : PySem.W.Frag} {r : List Addr} {H : Hp} {ws : List W} {vs : List V} (h : RVs K r H ws vs) : ∀ idx : List Nat, RVs K r H (pick idx ws) (pick idx vs)
  | [] => .nil
  | i :: idx => by
    have ih := RVs.pick h idx
    unfold MR.pick at ih ⊢
    rw [List.filterMap_cons, List.filterMap_cons]
    cases e : ws[i]? with
    | none =>
      have : vs[i]? = none := by
        rw [List.getElem?_eq_none_iff] at e ⊢
        rw [← h.len]; exact e
      rw [this]; exact ih
    | some w =>
      obtain ⟨u, e1, e2⟩ := h.get e
      rw [e1]; exact .cons e2 ih
/-- a def that may be called by np values and the keywords ks; mw: the values of the keyword-only ones that lack; idx puts all in the parameters' order -/
structure CalK (P : Program) (w : World) (g : Gm) (mg : Str → Option Value) (base : Heap) (k : Nat) (fa : Addr) (np : Nat) (ks : List Str) (idx : List Nat) (n : Nat) (f : Fn) (mw : List W) : Prop where
  ex : ∃ (fd : FuncData) (ps : List Str) (mv : List Value) (mvs : List V), FnOk P w g.K mg base (L2.CX P w) k fa fd ps (spM g n f) ∧
    KBn g.K fd ps np ks (fun us ws => pick idx (us ++ mv ++ ws)) (fun vs zs => pick idx (vs ++ mvs ++ zs)) ∧ ∀ r H, RVs g.K r H mw mvs
  kp : PySem.W.keepIn g.K (.ref fa) = true
/-- .. of a def with keyword-only defaults l, those of which lm lack -/
theorem calK_kw {P : Program} {w : World} {g : Gm} {mg : Str → Option Value} {base : Heap} {k np : Nat} {d : He.DefD} {fd : FuncData} {N ps ks : List Str} {idx : List Nat} {n : Nat} {s : MS} {l : List (Str × W)} (hx : (∀ r, g.px r) ∧ g.sp = none) (F : FunD g.K d.name d.qual d.params d.body d.scope [] [] (He.fAd g.K d.at_) fd) (hl : kwB g.K (He.fAd g.K d.at_) l = true) (S : FnScope N ps d.scope) (hn : ps.length = n) (lm : List (Str × W)) (hne : l ≠ []) (hlm : kwB g.K (He.fAd g.K d.at_) lm = true)
    (hb : ∀ (D : Addr) (doc pm : Value) (an : Option Addr) (cdv ct : Value) (us mv ws : List Value), us.length = np → mv.length = lm.length → ws.length = ks.length →
      KwChain D ((lm.map (·.1)).zip mv) (bindArgs (PySem.W.fnOf d.name d.qual d.params d.body d.scope .none (.ref D) doc pm an cdv ct) ⟨us, ks.zip ws⟩) (ps.zip (pick idx (us ++ mv ++ ws))))
    (hbody : ∀ (cdv : Value) (A : Around) (outer : List Env) (sh : Shared) (H : Hp) (E : XK), Room k (cxM P w g mg base N d.qual d.scope (He.fAd g.K d.at_) cdv A outer sh H E).A → Kx (cxM P w g mg base N d.qual d.scope (He.fAd g.K d.at_) cdv A outer sh H E) g (fun cls d _ H' => E cls d H') →
      PassesOwn (model P w) (cxM P w g mg base N d.qual d.scope (He.fAd g.K d.at_) cdv A outer sh H E).A (cxM P w g mg base N d.qual d.scope (He.fAd g.K d.at_) cdv A outer sh H E).env (cxM P w g mg base N d.qual d.scope (He.fAd g.K d.at_) cdv A outer sh H E).xe →
      PSsM (cxM P w g mg base N d.qual d.scope (He.fAd g.K d.at_) cdv A outer sh H E) g (fun cls d _ H' => E cls d H') d.body s) :
    CalK P w g mg base (k + 1) (He.fAd g.K d.at_) np ks idx n (mDef N.length s) (lm.map (·.2)) := by
  obtain ⟨vs, e1, F2, e3⟩ := kw_ex F hlm
  have ef := zip_fst (l := lm.map (·.1)) (m := vs) (by rw [List.length_map]; exact e1)
  have es := zip_snd (l := lm.map (·.1)) (m := vs) (by rw [List.length_map]; exact e1)
  have ezl : ((lm.map (·.1)).zip vs).length = lm.length := by rw [← List.length_map (f := fun q : Str × V => q.1), ef, List.length_map]
  obtain ⟨oc, od, dV, kV, doc, pm, an, cdv, ct, osl, rfl, lk, hcd, hD, hK⟩ := F2.ex
  have hkV : ∃ D, kV = .ref D := by
    have hl' := hl
    unfold kwB at hl'
    rw [lk] at hl'
    cases kV with
    | ref D => exact ⟨D, rfl⟩
    | _ => cases hl'
  obtain ⟨D, rfl⟩ := hkV
  rcases hD with ⟨_, rfl⟩ | ⟨z, _⟩
  · have hq : ∀ q ∈ ((lm.map (·.1)).zip vs), ∃ u, PySem.W.nsIn g.K D q.1 = some (some u) ∧ RelV q.2 u := by
      rcases hK with z | ⟨D', eD, hq⟩
      · rw [z]; exact fun q hq => (by cases hq)
      · cases eD; exact hq
    obtain ⟨mv, hl2, rk, hks⟩ := kwd_vals hq
    rw [ef] at hks
    rw [es] at rk
    refine ⟨⟨_, ps, mv, vs, fn_okM hx F2 S hn hbody, ⟨fun s us ws X l1 l2 => BindsTo.of_looks fun M => KwChain.looks X hks (hb D doc pm an cdv ct us mv ws l1 (by rw [hl2, ezl]) l2), fun r1 r2 => Vals.pick ((r1.append rk).append r2) idx⟩, e3⟩, F2.kp⟩
  · exact absurd rfl z
/-- .. of a def without any -/
theorem calK_no {P : Program} {w : World} {g : Gm} {mg : Str → Option Value} {base : Heap} {k np : Nat} {d : He.DefD} {fd : FuncData} {N ps ks : List Str} {idx : List Nat} {n : Nat} {s : MS} (hx : (∀ r, g.px r) ∧ g.sp = none) (F : FunD g.K d.name d.qual d.params d.body d.scope [] [] (He.fAd g.K d.at_) fd) (S : FnScope N ps d.scope) (hn : ps.length = n)
    (hb : ∀ (kV doc pm : Value) (an : Option Addr) (cdv ct : Value) (us ws : List Value), us.length = np → ws.length = ks.length →
      bindArgs (PySem.W.fnOf d.name d.qual d.params d.body d.scope .none kV doc pm an cdv ct) ⟨us, ks.zip ws⟩ = pure (ps.zip (pick idx (us ++ ws))))
    (hbody : ∀ (cdv : Value) (A : Around) (outer : List Env) (sh : Shared) (H : Hp) (E : XK), Room k (cxM P w g mg base N d.qual d.scope (He.fAd g.K d.at_) cdv A outer sh H E).A → Kx (cxM P w g mg base N d.qual d.scope (He.fAd g.K d.at_) cdv A outer sh H E) g (fun cls d _ H' => E cls d H') →
      PassesOwn (model P w) (cxM P w g mg base N d.qual d.scope (He.fAd g.K d.at_) cdv A outer sh H E).A (cxM P w g mg base N d.qual d.scope (He.fAd g.K d.at_) cdv A outer sh H E).env (cxM P w g mg base N d.qual d.scope (He.fAd g.K d.at_) cdv A outer sh H E).xe →
      PSsM (cxM P w g mg base N d.qual d.scope (He.fAd g.K d.at_) cdv A outer sh H E) g (fun cls d _ H' => E cls d H') d.body s) :
    CalK P w g mg base (k + 1) (He.fAd g.K d.at_) np ks idx n (mDef N.length s) [] := by
  obtain ⟨oc, od, dV, kV, doc, pm, an, cdv, ct, osl, rfl, lk, hcd, hD, hK⟩ := F.ex
  rcases hD with ⟨_, rfl⟩ | ⟨z, _⟩
  · refine ⟨⟨_, ps, [], [], fn_okM hx F S hn hbody, ⟨fun s us ws X l1 l2 => BindsTo.of_eq (by simpa using hb kV doc pm an cdv ct us ws l1 l2), fun r1 r2 => Vals.pick (by simpa using r1.append r2) idx⟩, fun _ _ => .nil⟩, F.kp⟩
  · exact absurd rfl z
theorem CalK.mono {P : Program} {w : World} {g : Gm} {mg : Str → Option Value} {base : Heap} {k k' : Nat} {fa : Addr} {np n : Nat} {ks : List Str} {idx : List Nat} {f : Fn} {mw : List W} (c : CalK P w g mg base k fa np ks idx n f mw) (h : k ≤ k') : CalK P w g mg base k' fa np ks idx n f mw := by
  obtain ⟨fd, ps, mv, mvs, F, rest⟩ := c.ex
  exact ⟨⟨fd, ps, mv, mvs, F.mono h, rest⟩, c.kp⟩
section
variable {X : Cx} {g : Gm} {Wx : WX} {e a b c : Expr} {m ma mb mc : M} {pos apos p : Pos} {k : Nat} {es : List Expr} {ms mk : M} {kws : List Keyword} {nm : Option Str} {kpos : Pos}
structure PKM (X : Cx) (g : Gm) (Wx : WX) (kws : List Keyword) (m : M) : Prop where
  pk : PK X kws (tML g Wx m)
theorem knil_ok : PKM X g Wx [] mNil := ⟨⟨fun pos pn s σ H Q I ⟨r, h, L, A, q⟩ => (pk_nil (X := X)).run pos pn s σ H Q I (q r H [] Gro.refl A.rep .nil)⟩⟩
theorem kcons_ok {mr : M} (ha : PEM X g Wx a ma) (hr : PKM X g Wx kws mr) : PKM X g Wx (⟨nm, a, kpos⟩ :: kws) (mCons ma mr) :=
  ⟨⟨fun pos pn s σ H Q I ⟨r, h, L, A, q⟩ => (pk_cons (nm := nm) (kpos := kpos) ha hr.pk).run pos pn s σ H Q I (by
    refine ⟨r, h, L, A, ?_⟩
    cases em : ma L h with
    | bad => unfold mCons at q; rw [em] at q; exact q
    | ex c fs h1 => unfold mCons at q; rw [em] at q; exact q
    | ok x h1 =>
      unfold mCons at q; rw [em] at q
      intro r1 H1 v G R qx
      refine ⟨r1, h1, L, A.gro G R, ?_⟩
      have q : AftL g Wx σ ((mr L h1).bindL fun xs h2 => .ok (.tup (x :: xs)) h2) r H Q := q
      cases er : mr L h1 with
      | bad => rw [er] at q; exact q
      | ex c fs h2 => rw [er] at q; exact fun r2 H2 cls d G2 R2 x2 => q r2 H2 cls d (G.trans G2) R2 x2
      | ok y h2 =>
        rw [er] at q
        cases y with
        | tup ys => exact fun r2 H2 vs G2 R2 q2 => q r2 H2 (v :: vs) (G.trans G2) R2 (.cons (RV.gro G2 _ _ qx) q2)
        | _ => exact q)⟩⟩
end
end MR
/-! MSort: sorted of texts in a list or a tuple. -/
namespace MR
open PySem PySem.Spec PyProof.Rows L2
section
variable {prog : Program} {w : World} {A : Around} {E : Value → Shared → Prop} {s : Shared}
/-- the heap once the items of something were collected in a new list -/
abbrev colH (h : Heap) (vs : List Value) : Heap := (h.push (seqObj "list" #[] 0)).update h.objs.size (Obj.mapSeq (· ++ vs.toArray))
/-- x's items are vs: they are collected -/
def Cols (prog : Program) (w : World) (x : Value) (vs : List Value) (s : Shared) : Prop := ∀ (A : Around) (E : Value → Shared → Prop) (Q : List Value → Shared → Prop), Q vs { s with heap := colH s.heap vs } → wpAny (model prog w) A (collect x) Q E s
theorem cols_seq {T : String} {l : Addr} {o : Obj} {vs : List Value} {n : Nat} (hT : T = "list" ∨ T = "tuple") (ho : s.heap.get? l = some o) (hc : o.cls = .type T) (hd : o.data = .seq vs.toArray n) (hz : vs.length ≤ sizeLine) : Cols prog w (.ref l) vs s := by
  intro A E Q h
  unfold collect
  refine wpAny_bind (wpAny_runValue (codeAny_builtin entry_proto_collect' ?_))
  refine wpAny_bind (m := newList []) (wpAny_newList (wpAny_pure ⟨Code.quiet_builtin _ (by decide +kernel), codeAny_builtin entry_list_iadd' ?_⟩))
  show wpAny (model prog w) _ (Builtin.List.listExtendWith (.ref s.heap.objs.size) (.ref l) (.ref s.heap.objs.size)) _ _ _
  have ho' : (s.heap.push (seqObj "list" #[] 0)).get? l = some o := Heap.get?_push_of_some _ ho
  have h0 : (s.heap.push (seqObj "list" #[] 0)).get? s.heap.objs.size = some (seqObj "list" #[] 0) := Heap.get?_push_size _ rfl
  unfold Builtin.List.listExtendWith
  refine wpAny_bind (wpAny_typeOf (T := T) ⟨o, ho', hc⟩ ?_)
  rw [if_pos (by rcases hT with e | e <;> subst e <;> simp)]
  refine wpAny_bind (listItems_at ho' hd (wpAny_bind (listItems_at (xs := #[]) (n := 0) h0 rfl ?_)))
  rw [if_neg (by simp)]
  refine wpAny_bind (listUpdate_at (xs := #[]) (n := 0) h0 rfl (wpAny_pure ?_) (Nat.zero_le _) (by show (#[] ++ vs.toArray).size ≤ sizeLine + 1; simp only [Array.size_append, List.size_toArray, List.length_nil]; omega))
  have e : ((#[] : Array Value) ++ vs.toArray).toList = vs := by simp
  refine wpAny_bind (m := load s.heap.objs.size) (wpAny_load (get?_update_seq h0 _) ?_)
  show wpAny _ _ (pure ((#[] : Array Value) ++ vs.toArray).toList) Q E _
  rw [e]
  exact wpAny_pure h
/-- sorted(x) of texts, whatever x is -/
theorem sorted_cols {x : Value} {vs : List Value} {ss : List Str} {Q : Value → Shared → Prop} (c : Cols prog w x vs s) (hS : StrsAre vs ss) (hL : vs.length ≤ sizeLine)
    (h : ∀ (out : Array Value) (ss' : List Str), StrsAre out.toList ss' → ss'.Perm ss → sortedS ss' = true → Q (.ref (s.heap.objs.size + 1)) { s with heap := sortedAll s.heap vs out }) :
    wpAny (model prog w) A (call (.builtin "sorted") [x]) Q E s := by
  refine Calls.call_function_entry kind_sorted plain_sorted entry_sorted (args_sorted1 _) ?_
  unfold Builtin.«sorted»
  refine wpAny_bind (m := checkCount "sorted" 1 1 _) (wpAny_pure (wpAny_bind (c _ _ _ (wpAny_bind (wpAny_newList ?_ hL)))))
  have hsz : (colH s.heap vs).objs.size = s.heap.objs.size + 1 := by rw [Heap.size_update, size_push']
  have hoL : ((colH s.heap vs).push (seqObj "list" vs.toArray 0)).get? (s.heap.objs.size + 1) = some (seqObj "list" vs.toArray 0) := by rw [← hsz]; exact Heap.get?_push_size _ rfl
  show wpAny _ _ _ _ _ { s with heap := (colH s.heap vs).push (seqObj "list" vs.toArray 0) }
  rw [hsz]
  refine wpAny_bind (wpAny_holding (wpAny_call_entry slot_list_sort ⟨_, hoL, rfl⟩ entry_list_sort (list_sort_treeKAny strKind_oneLt hoL hS.keysOf (fun v₁ v₂ rest e => keyKind_strs (by rw [← e]; exact hS)) hL fun st' hp hs => ⟨_, rfl, ?_⟩) (args_list_sort _)))
  obtain ⟨ss', h1, h2, h3⟩ := sorted_out_str hS hp hs
  exact wpAny_pure ⟨_, rfl, h _ ss' h1 h2 h3⟩
end
section
variable {X : Cx} {g : Gm} {Wx : WX}
def rSortA (K : PySem.W.Frag) : List V → Hp → VK → Prop := fun vs H Q => ∃ (a : Addr) (xs : List Str), vs = [V.ref a] ∧ (SqL K H a (xs.map V.str) ∨ SqT K H a (xs.map V.str)) ∧ ∀ (ys : List Str) (p : Addr), ys.Perm xs → sortedS ys = true → H p = none → Q (.ref p) (upd H p (.lst (ys.map V.str)))
theorem call_sortA : CallR X (.builtin "sorted") (rSortA X.K) := by
  intro pins s σ H vs us Q I r h
  obtain ⟨a, xs, rfl, hs, q⟩ := h
  rw [Vals.ref1 r]
  have key : ∀ its : List Value, Vals (xs.map V.str) its → xs.length ≤ sizeLine → Cols X.prog X.w (.ref a) its s → wpAny (model X.prog X.w) X.A (call (.builtin "sorted") [.ref a]) (fun u s' => ∃ v H', Inv X pins σ H' s' ∧ RelV v u ∧ Q v H') X.xe s := by
    intro its rv hz c
    have hlen0 := rv.length
    rw [List.length_map] at hlen0
    refine sorted_cols c (strs_of_vals rv) (by omega) fun out ys h1 h2 h3 => ?_
    obtain ⟨ep, he'⟩ := PyProof.Rows.sortedAll_at s.heap its out
    have hlen : (ys.map V.str).length ≤ sizeLine := by rw [List.length_map, h2.length_eq]; exact hz
    refine ⟨.ref _, upd H (s.heap.objs.size + 1) (.lst (ys.map V.str)), I.laid (t' := s.toks) (fun _ _ => PyProof.Rows.sortedAll_old) (Nat.le_succ _) ⟨hlen, out.toList, ep, vals_of_strs h1, he'⟩, rfl, q ys _ h2 h3 (I.hok.fresh (Nat.le_succ _))⟩
  rcases hs with hs | hs
  · obtain ⟨its, rv, ⟨o, n, ho, hc, _, hd⟩, hz⟩ := I.list hs
    have hlen0 := rv.length
    rw [List.length_map] at hz hlen0
    exact key its rv hz (cols_seq (.inl rfl) ho hc hd (by omega))
  · obtain ⟨its, rv, ⟨o, ho, hc, n, hd⟩, hz⟩ := I.tuple hs
    have hlen0 := rv.length
    rw [List.length_map] at hz hlen0
    exact key its rv hz (cols_seq (.inr rfl) ho hc hd (by omega))
/-! ### the one arrangement -/
def leS (a b : List Nat) : Bool := !decide (b < a)
def sortL (l : List (List Nat)) : List (List Nat) := l.mergeSort leS
theorem leS_trans (a b c : List Nat) (h1 : leS a b = true) (h2 : leS b c = true) : leS a c = true := by
  simp only [leS, Bool.not_eq_true', decide_eq_false_iff_not] at *
  exact fun z => List.not_lt.mpr (List.le_trans (List.not_lt.mp h1) (List.not_lt.mp h2)) z
theorem leS_total (a b : List Nat) : (leS a b || leS b a) = true := by
  simp only [leS, Bool.or_eq_true, Bool.not_eq_true', decide_eq_false_iff_not]
  rcases Classical.em (b < a) with h | h
  · exact .inr (List.lt_asymm h)
  · exact .inl h
theorem sortedS_pw : ∀ (x : Str) (l : List Str), risingS x l = true → (x :: l).Pairwise fun a b => leS a.cps.toList b.cps.toList = true
  | x, [], _ => List.pairwise_singleton _ _
  | x, y :: l, h => by
    obtain ⟨h1, h2⟩ := He.ba (show (!ltCps y.cps.toList x.cps.toList && risingS y l) = true from h)
    have ih := sortedS_pw y l h2
    have hxy : leS x.cps.toList y.cps.toList = true := by unfold leS; rw [← ltCps_eq]; exact h1
    refine List.pairwise_cons.mpr ⟨fun z hz => ?_, ih⟩
    rcases List.mem_cons.mp hz with e | hz
    · rw [e]; exact hxy
    · exact leS_trans _ _ _ hxy ((List.pairwise_cons.mp ih).1 z hz)
theorem sort_uniq {ss : List (List Nat)} {ys : List Str} (hp : ys.Perm (ss.map sV)) (hs : sortedS ys = true) : ys = (sortL ss).map sV := by
  have e1 : ys.map (fun y => y.cps.toList) = sortL ss := by
    refine List.Perm.eq_of_pairwise (le := fun a b => leS a b = true) (fun a b _ _ h1 h2 => ?_) ?_ ?_ ?_
    · simp only [leS, Bool.not_eq_true', decide_eq_false_iff_not] at h1 h2
      exact List.le_antisymm (List.not_lt.mp h1) (List.not_lt.mp h2)
    · refine List.pairwise_map.mpr ?_
      cases ys with
      | nil => exact .nil
      | cons x l => exact sortedS_pw x l hs
    · exact List.pairwise_mergeSort leS_trans (fun a b => leS_total a b) ss
    · refine ((hp.map fun y : Str => y.cps.toList).trans ?_).trans (List.mergeSort_perm ss leS).symm
      rw [List.map_map]
      refine List.Perm.of_eq ?_
      have : ∀ l : List (List Nat), List.map ((fun y : Str => y.cps.toList) ∘ sV) l = l := fun l => by
        induction l with
        | nil => rfl
        | cons a l ih => rw [List.map_cons, ih]; simp [sV]
      exact this ss
  rw [← e1, List.map_map]
  have : ∀ l : List Str, List.map (sV ∘ fun y : Str => y.cps.toList) l = l := fun l => by
    induction l with
    | nil => rfl
    | cons a l ih => rw [List.map_cons, ih]; simp [sV]
  exact (this ys).symm
@[simp] def strsOf : List W → Option (List (List Nat))
  | [] => some []
  | .str s :: r => (strsOf r).map (s :: ·)
  | _ :: _ => none
@[simp] def bSorted (cell : Bool) : Fn := fun ws h => match ws with
  | [x] => match seqOf x h with
    | some l => match strsOf l with
      | some ss => if cell = true then .ok (.cell h.length) (h ++ [.lst ((sortL ss).map W.str)]) else .ok (.lst ((sortL ss).map W.str)) h
      | none => .bad
    | none => .bad
  | _ => .bad
theorem strsOf_vals {r : List Addr} {H : Hp} : ∀ {l : List W} {vs : List V} {ss : List (List Nat)}, strsOf l = some ss → RVs g.K r H l vs → vs = (ss.map sV).map V.str
  | [], vs, ss, e, q => by simp only [strsOf, Option.some.injEq] at e; subst e; rw [q.inv0]; rfl
  | w :: l, vs, ss, e, q => by
    obtain ⟨v, t, rfl, q1, q2⟩ := q.inv
    cases w with
    | str z =>
      simp only [strsOf, Option.map_eq_some_iff] at e
      obtain ⟨ss', e1, rfl⟩ := e
      simp only [RV] at q1
      rw [q1, strsOf_vals e1 q2]
      rfl
    | _ => simp only [strsOf] at e; cases e
theorem RVs.strs {r : List Addr} {H : Hp} {K : PySem.W.Frag} : ∀ (ss : List (List Nat)), RVs K r H (ss.map W.str) ((ss.map sV).map V.str)
  | [] => .nil
  | s :: r => .cons (by simp only [RV]) (RVs.strs r)
theorem seqOf_SqA {r : List Addr} {h : Hq} {H : Hp} {w : W} {v : V} {l : List W} (R : Rep g r h H) (q : RV g.K r H w v) (t : seqOf w h = some l) :
    ∃ a vs, v = .ref a ∧ (SqL g.K H a vs ∨ SqT g.K H a vs) ∧ RVs g.K r H l vs := by
  cases w with
  | tup l' =>
    simp only [seqOf, Option.some.injEq] at t; subst t
    simp only [RV] at q
    obtain ⟨p, vs, e, ⟨_, hp⟩, qs⟩ := q
    exact ⟨p, vs, e, .inr (SqT.of hp), qs⟩
  | ktup l' =>
    simp only [seqOf, Option.some.injEq] at t; subst t
    simp only [RV] at q
    obtain ⟨p, vs, e, hp, qs⟩ := q
    exact ⟨p, vs, e, .inr (.inr hp), qs⟩
  | rol l' =>
    simp only [seqOf, Option.some.injEq] at t; subst t
    simp only [RV] at q
    obtain ⟨p, vs, e, hp, qs⟩ := q
    refine ⟨p, vs, e, .inl ?_, qs⟩
    rcases hp with ⟨_, hp⟩ | hp
    · exact .inl hp
    · exact .inr hp
  | lst l' =>
    obtain ⟨p, vs, ev, hp, qs⟩ := lstOf_at R q (show lstOf (.lst l') h = some l from t)
    exact ⟨p, vs, ev, .inl (SqL.of hp), qs⟩
  | cell n =>
    obtain ⟨p, vs, ev, hp, qs⟩ := lstOf_at R q (show lstOf (.cell n) h = some l from t)
    exact ⟨p, vs, ev, .inl (SqL.of hp), qs⟩
  | _ => simp only [seqOf, lstOf] at t; cases t
/-- a new list is told, as a cell or as data -/
theorem new_lst {cell : Bool} {r : List Addr} {h : Hq} {H : Hp} {σ : Sl} {Q : VK} {l : List W} {vs : List V} (R : Rep g r h H) (q : RVs g.K r H l vs) (x : Aft g Wx σ (if cell = true then .ok (.cell h.length) (h ++ [.lst l]) else .ok (.lst l) h) r H Q) : ∀ p, H p = none → Q (.ref p) (upd H p (.lst vs)) := by
  intro p hp
  split at x
  · exact x _ _ _ (Gro.cell hp) (R.cell hp ⟨_, rfl, RVs.gro (Gro.cell hp) _ _ q⟩) (RV.new R)
  · refine x _ _ _ (Gro.upd hp) (R.upd hp) ?_
    simp only [RV]
    exact ⟨p, _, rfl, ⟨R.fresh hp, upd_same⟩, RVs.gro (Gro.upd hp) _ _ q⟩
theorem sorted_S {cell : Bool} : CallS g Wx (rSortA g.K) (bSorted cell) := by
  intro r h H σ ws vs Q R q x
  unfold bSorted at x
  split at x
  · obtain ⟨u, rfl, q1⟩ := RVs.one_inv q
    split at x
    · rename_i l el
      split at x
      · rename_i ss es
        obtain ⟨a, vs, rfl, hs, qs⟩ := seqOf_SqA R q1 el
        have ev := strsOf_vals es qs
        subst ev
        refine ⟨a, ss.map sV, rfl, hs, fun ys p hp hs hn => ?_⟩
        rw [sort_uniq hp hs]
        exact new_lst R (RVs.strs _) x p hn
      · exact x.elim
    · exact x.elim
  · exact x.elim
end
end MR
/-! MMulS: a text times a number. -/
namespace MR
open PySem PySem.Spec PyProof.Rows L2
section
variable {X : Cx} {g : Gm} {Wx : WX}
def rMulS : R2 := fun x y H Q => ∃ (z : List Nat) (k : Int), x = .str (sV z) ∧ y = .int k ∧ z.length ≤ 4096 ∧ -4096 ≤ k ∧ k ≤ 4096 ∧ Q (.str (sV (List.replicate k.toNat z).flatten)) H
theorem fold_rep (z : List Nat) : ∀ (n : Nat) (acc : List Nat), (List.replicate n z.toArray).foldl (· ++ ·) acc.toArray = (acc ++ (List.replicate n z).flatten).toArray
  | 0, acc => by simp
  | n + 1, acc => by
    rw [List.replicate_succ, List.foldl_cons, List.append_toArray, fold_rep z n]
    simp [List.replicate_succ]
theorem op_mulS : OpR X (binaryOp .Mult) rMulS := by
  intro pins s σ H x y v u Q I rx ry h
  obtain ⟨z, k, rfl, rfl, h1, h2, h3, q⟩ := h
  obtain ⟨t, rfl⟩ := rx
  obtain ⟨t', rfl⟩ := ry
  obtain ⟨m1, m2, m3⟩ := mulOk_of (x := sV z) (n := k) 4096 4096 (by rw [sV_len]; exact h1) h3 (by omega) (by decide) (by decide)
  refine P.mul_str m1 m2 m3 ?_
  split
  · rename_i hk
    have e : (List.replicate k.toNat z).flatten = [] := by
      have : k.toNat = 0 := by omega
      rw [this]; rfl
    rw [e] at q
    exact ⟨by decide, .str (sV []), H, I.tok _, ⟨_, rfl⟩, q⟩
  · rename_i hk
    split
    · rename_i hz
      have e : (List.replicate k.toNat z).flatten = z := by
        simp only [Bool.or_eq_true, beq_iff_eq] at hz
        rcases hz with hz | hz
        · subst hz; simp
        · rw [sV_len] at hz
          have := List.length_eq_zero_iff.mp hz
          subst this
          simp
      rw [e] at q
      exact ⟨.str (sV z), H, I, ⟨_, rfl⟩, q⟩
    · have e : (⟨List.foldl (fun x1 x2 => x1 ++ x2) #[] (List.replicate k.toNat (sV z).cps)⟩ : Str) = sV (List.replicate k.toNat z).flatten := by
        have := fold_rep z k.toNat []
        simp only [List.nil_append] at this
        show (⟨List.foldl (fun x1 x2 => x1 ++ x2) #[] (List.replicate k.toNat z.toArray)⟩ : Str) = ⟨_⟩
        rw [← this]
      rw [e]
      refine ⟨?_, .str (sV (List.replicate k.toNat z).flatten), H, I.tok _, ⟨_, rfl⟩, q⟩
      rw [sV_len, sizeLine_eq]
      simp only [List.length_flatten, List.map_replicate, List.sum_replicate_nat]
      have : k.toNat ≤ 4096 := by omega
      have := Nat.mul_le_mul this h1
      omega
@[simp] def fMulX (x y : W) (h : Hq) : Rs := match x, y with
  | .str z, .int k => if z.length ≤ 4096 ∧ -4096 ≤ k ∧ k ≤ 4096 then .ok (.str (List.replicate k.toNat z).flatten) h else .bad
  | x, y => fMul x y h
theorem op_mulSA : OpR X (binaryOp .Mult) (fun x y H Q => rMulS x y H Q ∨ rMulA x y H Q) := op_mulS.or op_mulA
theorem mulX_S : OpS g Wx (fun x y H Q => rMulS x y H Q ∨ rMulA x y H Q) fMulX := by
  intro r h H σ x y v u Q R qx qy q
  unfold fMulX at q
  split at q
  · rename_i z k
    simp only [RV] at qx qy; subst qx qy
    split at q
    · rename_i hc
      exact .inl ⟨z, k, rfl, rfl, hc.1, hc.2.1, hc.2.2, q.done R (by simp only [RV])⟩
    · exact q.elim
  · exact .inr (mul_S r h H σ x y v u Q R qx qy q)
end
end MR
/-! MHo: data that is alike, statements one behind the other. -/
namespace MR
open PySem (PyData Str)
theorem allD_refl {f : W → Option PyData} (ih : ∀ w d, f w = some d → PyData.eqv d d = true) : ∀ (l : List W) (ds : List PyData), allD f l = some ds → PyData.eqvAll ds ds = true
  | [], ds, e => by
    simp only [allD, Option.some.injEq] at e; subst e; simp
  | w :: r, ds, e => by
    simp only [allD] at e
    split at e
    · rename_i d ds' e1 e2
      simp only [Option.some.injEq] at e; subst e
      rw [eqvAll_cc, ih _ _ e1, allD_refl ih r ds' e2]
      rfl
    · cases e
theorem toD_refl {h : Hq} : ∀ (n : Nat) (w : W) (d : PyData), toD h n w = some d → PyData.eqv d d = true
  | 0, _, _, e => by simp only [toD] at e; cases e
  | n + 1, w, d, e => by
    have ih := toD_refl (h := h) n
    have key : ∀ (l : List W) (f : List PyData → PyData), (∀ ds, PyData.eqvAll ds ds = true → PyData.eqv (f ds) (f ds) = true) → (allD (toD h n) l).map f = some d → PyData.eqv d d = true := by
      intro l f hf e
      simp only [Option.map_eq_some_iff] at e
      obtain ⟨ds, e1, rfl⟩ := e
      exact hf ds (allD_refl ih l ds e1)
    cases w with
    | non => rw [toD_1] at e; cases e; simp
    | bl b => rw [toD_2] at e; cases e; simp
    | int b => rw [toD_3] at e; cases e; simp
    | str b =>
      rw [toD_4] at e
      split at e
      · cases e; simp
      · cases e
    | tup l => exact key l .tuple (fun ds q => by simpa using q) (by rw [toD_5] at e; exact e)
    | ktup l => exact key l .tuple (fun ds q => by simpa using q) (by rw [toD_6] at e; exact e)
    | rol l => exact key l .list (fun ds q => by simpa using q) (by rw [toD_7] at e; exact e)
    | lst l => exact key l .list (fun ds q => by simpa using q) (by rw [toD_8] at e; exact e)
    | cell k =>
      have e' : (match lstOf (.cell k) h with
        | some l => (allD (toD h n) l).map PyData.list
        | none => none) = some d := e
      cases el : lstOf (.cell k) h with
      | none => rw [el] at e'; cases e'
      | some l => rw [el] at e'; exact key l .list (fun ds q => by simpa using q) e'
theorem eqW_same {h : Hq} {x y : W} {d : PyData} (e : toD h 24 x = some d) (e' : toD h 24 y = some d) : eqW x y h = some true := by
  rw [eqW_of e e', toD_refl 24 x d e]
theorem fNe_same {h : Hq} {x y : W} {d : PyData} (e : toD h 24 x = some d) (e' : toD h 24 y = some d) : fNe x y h = .ok (.bl false) h := by
  rw [fNe_ap, eqW_same e e']; rfl
theorem fEq_same {h : Hq} {x y : W} {d : PyData} (e : toD h 24 x = some d) (e' : toD h 24 y = some d) : fEq x y h = .ok (.bl true) h := by
  rw [fEq_ap, eqW_same e e']
theorem allD_imp {f f' : W → Option PyData} (ih : ∀ w d, f w = some d → f' w = some d) : ∀ (l : List W) (ds : List PyData), allD f l = some ds → allD f' l = some ds
  | [], ds, e => by simpa only [allD] using e
  | w :: r, ds, e => by
    simp only [allD] at e ⊢
    split at e
    · rename_i d ds' e1 e2
      rw [ih _ _ e1, allD_imp ih r ds' e2]
      exact e
    · cases e
/-- data stays where the heap grows -/
theorem toD_gro {h h' : Hq} (F : Fr [] h h') : ∀ (n : Nat) (w : W) (d : PyData), toD h n w = some d → toD h' n w = some d
  | 0, _, _, e => by simp only [toD] at e; cases e
  | n + 1, w, d, e => by
    have ih := toD_gro F n
    have key : ∀ (l : List W) (f : List PyData → PyData), (allD (toD h n) l).map f = some d → (allD (toD h' n) l).map f = some d := by
      intro l f e
      simp only [Option.map_eq_some_iff] at e ⊢
      obtain ⟨ds, e1, e2⟩ := e
      exact ⟨ds, allD_imp ih l ds e1, e2⟩
    cases w with
    | tup l => rw [toD_5] at e ⊢; exact key l _ e
    | ktup l => rw [toD_6] at e ⊢; exact key l _ e
    | rol l => rw [toD_7] at e ⊢; exact key l _ e
    | lst l => rw [toD_8] at e ⊢; exact key l _ e
    | cell k =>
      have e' : (match lstOf (.cell k) h with
        | some l => (allD (toD h n) l).map PyData.list
        | none => none) = some d := e
      show (match lstOf (.cell k) h' with
        | some l => (allD (toD h' n) l).map PyData.list
        | none => none) = some d
      cases el : lstOf (.cell k) h with
      | none => rw [el] at e'; cases e'
      | some l =>
        rw [el] at e'
        have : lstOf (.cell k) h' = some l := by
          simp only [lstOf] at el ⊢
          cases ek : h[k]? with
          | none => rw [ek] at el; cases el
          | some c => rw [ek] at el; rw [F k c (by simp) ek]; exact el
        rw [this]
        exact key l _ e'
    | _ => exact e
theorem allD_app {f : W → Option PyData} : ∀ (l l' : List W) (ds ds' : List PyData), allD f l = some ds → allD f l' = some ds' → allD f (l ++ l') = some (ds ++ ds')
  | [], l', ds, ds', e, e' => by simp only [allD, Option.some.injEq] at e; subst e; exact e'
  | w :: r, l', ds, ds', e, e' => by
    rw [List.cons_append]
    simp only [allD] at e ⊢
    split at e
    · rename_i d ds1 e1 e2
      simp only [Option.some.injEq] at e; subst e
      rw [e1, allD_app r l' ds1 ds' e2 e']
      rfl
    · cases e
theorem allD_rep {f : W → Option PyData} {w : W} {d : PyData} (e : f w = some d) : ∀ n, allD f (List.replicate n w) = some (List.replicate n d)
  | 0 => rfl
  | n + 1 => by
    rw [List.replicate_succ, List.replicate_succ]
    unfold allD
    rw [e, allD_rep e n]
/-! ### one statement behind the other -/
theorem seq_nx {s1 s2 : MS} {L L' : Loc} {h h' : Hq} (e : s1 L h = .nx L' h') : sSeq s1 s2 L h = s2 L' h' := by rw [sSeq_ap, e]; rfl
theorem if_F {c : M} {s1 s2 : MS} {L : Loc} {h h' : Hq} (e : c L h = .ok (.bl false) h') : sIf c s1 s2 L h = s2 L h' := by simp [e]
theorem if_T {c : M} {s1 s2 : MS} {L : Loc} {h h' : Hq} (e : c L h = .ok (.bl true) h') : sIf c s1 s2 L h = s1 L h' := by simp [e]
theorem or_F {a b : M} {L : Loc} {h h' : Hq} (e : a L h = .ok (.bl false) h') : mOrT a b L h = b L h' := by simp [e]
theorem or_T {a b : M} {L : Loc} {h h' : Hq} (e : a L h = .ok (.bl true) h') : mOrT a b L h = .ok (.bl true) h' := by simp [e]
theorem and_T {a b : M} {L : Loc} {h h' : Hq} (e : a L h = .ok (.bl true) h') : mAndT a b L h = b L h' := by simp [e]
theorem and_F {a b : M} {L : Loc} {h h' : Hq} (e : a L h = .ok (.bl false) h') : mAndT a b L h = .ok (.bl false) h' := by simp [e]
end MR
namespace MR
open PySem (PyData Str)
theorem fNeA_cell {tb : EqTb} {n : Nat} {l : List W} {y : W} {h : Hq} (e : h[n]? = some (.lst l)) (hy : insOf y h = none) : fNeA tb (.cell n) y h = fNe (.cell n) y h := by
  unfold fNeA
  have e1 : insOf (.cell n) h = none := by simp [e]
  have e2 : dEq (.cell n) y h = none := by cases y <;> simp [dEq, e]
  rw [e1, hy, e2]
  simp
theorem fEqA_cell {tb : EqTb} {n : Nat} {l : List W} {y : W} {h : Hq} (e : h[n]? = some (.lst l)) (hy : insOf y h = none) : fEqA tb (.cell n) y h = fEq (.cell n) y h := by
  unfold fEqA
  have e1 : insOf (.cell n) h = none := by simp [e]
  have e2 : dEq (.cell n) y h = none := by cases y <;> simp [dEq, e]
  rw [e1, hy, e2]
  simp
/-! ### calls whose parts change nothing -/
theorem meth0 {tb : Nat → Option (Nat × Fn × List W)} {mv : M} {L : Loc} {h : Hq} {a c : Nat} {fs : List (Nat × W)} {f : Fn} (hv : mv L h = .ok (.cell a) h) (hi : h[a]? = some (.ins c fs)) (ht : tb c = some (1, f, [])) : mMeth tb mv mNil L h = f [.cell a] h := by simp [hv, hi, ht]
theorem meth1 {tb : Nat → Option (Nat × Fn × List W)} {mv m1 : M} {L : Loc} {h : Hq} {a c : Nat} {fs : List (Nat × W)} {f : Fn} {w : W} (hv : mv L h = .ok (.cell a) h) (hi : h[a]? = some (.ins c fs)) (ht : tb c = some (2, f, [])) (h1 : m1 L h = .ok w h) : mMeth tb mv (mCons m1 mNil) L h = f [.cell a, w] h := by simp [hv, hi, ht, h1]
theorem meth2 {tb : Nat → Option (Nat × Fn × List W)} {mv m1 m2 : M} {L : Loc} {h : Hq} {a c : Nat} {fs : List (Nat × W)} {f : Fn} {w u : W} (hv : mv L h = .ok (.cell a) h) (hi : h[a]? = some (.ins c fs)) (ht : tb c = some (3, f, [])) (h1 : m1 L h = .ok w h) (h2 : m2 L h = .ok u h) : mMeth tb mv (mCons m1 (mCons m2 mNil)) L h = f [.cell a, w, u] h := by simp [hv, hi, ht, h1, h2]
theorem mcall1 {f : Fn} {m1 : M} {L : Loc} {h : Hq} {w : W} (h1 : m1 L h = .ok w h) : mCall 1 f [] (mCons m1 mNil) L h = f [w] h := by simp [h1]
theorem mcall2 {f : Fn} {m1 m2 : M} {L : Loc} {h : Hq} {w u : W} (h1 : m1 L h = .ok w h) (h2 : m2 L h = .ok u h) : mCall 2 f [] (mCons m1 (mCons m2 mNil)) L h = f [w, u] h := by simp [h1, h2]
theorem mcall3 {f : Fn} {m1 m2 m3 : M} {L : Loc} {h : Hq} {w u z : W} (h1 : m1 L h = .ok w h) (h2 : m2 L h = .ok u h) (h3 : m3 L h = .ok z h) : mCall 3 f [] (mCons m1 (mCons m2 (mCons m3 mNil))) L h = f [w, u, z] h := by simp [h1, h2, h3]
theorem bin2 {f : W → W → Hq → Rs} {m1 m2 : M} {L : Loc} {h h1 h2 : Hq} {w u : W} (e1 : m1 L h = .ok w h1) (e2 : m2 L h1 = .ok u h2) : mBin f m1 m2 L h = f w u h2 := by simp [e1, e2]
end MR
/-! MExc: exceptions raised, caught, looked at. -/
namespace MR
open PySem PySem.Spec PyProof.Rows L2
/-- where the fields of an exception lie -/
def Xp (fs : List (Nat × W)) (d : Option Addr) (r : List Addr) : Prop := (fs = [] ∧ d = none) ∨ ∃ (n : Nat) (dd : Addr), fs = [(0, .cell n)] ∧ d = some dd ∧ r[n]? = some dd
theorem Xp.more {fs : List (Nat × W)} {d : Option Addr} (r t : List Addr) (h : Xp fs d r) : Xp fs d (r ++ t) := by
  rcases h with h | ⟨n, dd, e1, e2, e3⟩
  · exact .inl h
  · exact .inr ⟨n, dd, e1, e2, by rw [List.getElem?_append_left (List.getElem?_eq_some_iff.mp e3).1]; exact e3⟩
/-- the same text, an exception at hand -/
def Gm.at_ (g : Gm) (fs : List (Nat × W)) (d : Option Addr) (sp : Option (Nat × Addr)) : Gm := ⟨g.K, g.ca, g.fd, g.inj, fun r => g.px r ∧ Xp fs d r, fun r t h => ⟨g.pxm r t h.1, Xp.more r t h.2⟩, sp⟩
section
variable {g : Gm} {fs : List (Nat × W)} {d : Option Addr} {sp : Option (Nat × Addr)} {r : List Addr} {h : Hq} {H : Hp} {L : Loc} {σ : Sl} {D : Ends} {Wx : WX}
theorem RFs.at_ : ∀ {l : List (Nat × W)} {gs : List (Str × V)}, RFs g r H l gs ↔ RFs (g.at_ fs d sp) r H l gs
  | [], _ => Iff.rfl
  | p :: l, gs => ⟨fun ⟨v, t, e, q1, q2⟩ => ⟨v, t, e, q1, RFs.at_.mp q2⟩, fun ⟨v, t, e, q1, q2⟩ => ⟨v, t, e, q1, RFs.at_.mpr q2⟩⟩
theorem RC.at_ : ∀ {c : Cell} {o : HO}, RC g r H c o ↔ RC (g.at_ fs d sp) r H c o
  | .lst _, _ => Iff.rfl
  | .dk _ _, _ => Iff.rfl
  | .dt _ _, _ => Iff.rfl
  | .ins c l, o => ⟨fun ⟨⟨dx, gs, e, q⟩, k⟩ => ⟨⟨dx, gs, e, RFs.at_.mp q⟩, k⟩, fun ⟨⟨dx, gs, e, q⟩, k⟩ => ⟨⟨dx, gs, e, RFs.at_.mpr q⟩, k⟩⟩
  | .xd l, o => ⟨fun ⟨gs, e, q⟩ => ⟨gs, e, RFs.at_.mp q⟩, fun ⟨gs, e, q⟩ => ⟨gs, e, RFs.at_.mpr q⟩⟩
theorem Rep.to (R : Rep g r h H) : Rep (g.at_ fs d sp) r h H := ⟨R.nd, R.len, fun n c e => by
  obtain ⟨a, o, e1, e2, q⟩ := R.at_ n c e
  exact ⟨a, o, e1, e2, RC.at_.mp q⟩⟩
theorem Rep.of (R : Rep (g.at_ fs d sp) r h H) : Rep g r h H := ⟨R.nd, R.len, fun n c e => by
  obtain ⟨a, o, e1, e2, q⟩ := R.at_ n c e
  exact ⟨a, o, e1, e2, RC.at_.mpr q⟩⟩

theorem At.of (hsp : g.sp = none) (A : At (g.at_ fs d sp) r h H L σ) : At g r h H L σ := ⟨A.rep.of, A.loc, A.px.1, fun i a e => by rw [hsp] at e; cases e⟩
theorem RL.hide {K : PySem.W.Frag} (l : RL K r H L σ) (i : Nat) (v : Option V) : RL K r H (L.set i none) (σ.set i v) := ⟨by simp [l.len], fun j x e => by
  have hj : j < L.length := by
    have := (List.getElem?_eq_some_iff.mp e).1
    simpa using this
  by_cases hij : j = i
  · subst hij
    rw [List.getElem?_set_self hj] at e
    cases e
  · rw [List.getElem?_set_ne (Ne.symm hij)] at e
    obtain ⟨u, e1, e2⟩ := l.at_ j x e
    exact ⟨u, by rw [List.getElem?_set_ne (Ne.symm hij)]; exact e1, e2⟩⟩
end
/-! ### raise -/
section
variable {X : Cx} {g : Gm} {Wx : WX} {e a b c : Expr} {m ma mb mc : M} {pos p : Pos} {es : List Expr} {st : Stmt} {sts : List Stmt} {s1 s2 : MS}
/-- what an own exception class without own __init__ must say -/
def exc0B (K : PySem.W.Frag) (C : Addr) (bm : List Value) (nw : String) : Bool := PySem.W.excIn K C bm nw && (PySem.W.keepIn K (.ref C) && (decide (PySem.W.subIn K (.ref C) (.type "BaseException") = some true) && decide (PySem.W.typeIn K (.ref C) = some (.type "type"))))
def sRaise0 (c : Nat) : MS := fun L h => .ex c [] L h
theorem raise0_ok {x msg : Str} {c : Nat} {B newId initId : String} {bm : List Value} {j : Nat} {p2 pos' : Pos} (hk : Kx X g Wx) (F : ExcBaseFacts B newId initId bm) (hB : exc0B g.K (g.ca c) bm newId = true) (hg : Gl X x) (hm : X.mg x = some (.ref (g.ca c)))
    (hdb : (x == ("__debug__" : Str)) = false := by decide) (hc : X.calm = true := by rfl) : PSM X g Wx (.Raise (some (.Call (.Name x p) [.Constant (.str msg) j p2] [] pos)) none pos') (sRaise0 c) := by
  unfold exc0B at hB
  simp only [Bool.and_eq_true, decide_eq_true_eq] at hB
  obtain ⟨h1, h2, h3, h4⟩ := hB
  rw [← hk.hK] at h1 h2 h3 h4
  exact ps_imp (ps_raise hc hk.tk (pmk_own F h1 hm h2 (raises_own h3 h4) hg hdb)) fun D σ H ⟨r, h, L, A, q⟩ => q r H σ _ none Gro.refl A ⟨rfl, .inl ⟨rfl, rfl⟩⟩
/-! ### try .. except X as e -/
abbrev Ext := List ((Nat × TyN) × Bool)
def ExmT (g : Gm) (et : Ext) : Prop := ∀ y ∈ et, PySem.W.exmOne g.K (.ref (g.ca y.1.1)) (y.1.2.val g) = some y.2
def exmTB (g : Gm) (et : Ext) : Bool := et.all fun y => decide (PySem.W.exmOne g.K (.ref (g.ca y.1.1)) (y.1.2.val g) = some y.2)
theorem exmTB_ok {g : Gm} {et : Ext} (h : exmTB g et = true) : ExmT g et := fun y hy => of_decide_eq_true (List.all_eq_true.mp h y hy)
/-- slot i is forgotten at the end of a suite; nothing leaves it -/
def unset (i : Nat) : Rf → Rf
  | .nx L h => .nx (L.set i none) h
  | .rt w h => .rt w h
  | .bk L h => .bk (L.set i none) h
  | .ct L h => .ct (L.set i none) h
  | _ => .bad
def sTryAs (i : Nat) (et : Ext) (T : TyN) (sb : MS) (ms : Nat → List (Nat × W) → MS) : MS := fun L h => match sb L h with
  | .ex c fs L1 h1 => (match et.lookup (c, T) with
    | some true => unset i (ms c fs (L1.set i none) h1)
    | some false => .ex c fs L1 h1
    | none => .bad)
  | x => x
/-- an except suite's place -/
structure Ksu (X : Cx) (g : Gm) (a : Addr) (oe : Obj) (pn : List (Addr × Obj)) (c : Nat) (fs : List (Nat × W)) (d : Option Addr) (i : Nat) : Prop where
  kx : Kx (X.suite a ((a, oe) :: pn)) (g.at_ fs d (some (i, a))) noWx
  zc : Zc (.ref (g.ca c)) d oe
  fl : ∃ vs, oe.data = .fields vs
def tsX (g : Gm) (ms : Nat → List (Nat × W) → MS) (i : Nat) (a : Addr) (cls : Value) (d : Option Addr) : TS := fun D σ H => ∃ (c : Nat) (fs : List (Nat × W)), cls = .ref (g.ca c) ∧ tS (g.at_ fs d (some (i, a))) noWx (ms c fs) D σ H
theorem aft_at {fs : List (Nat × W)} {d : Option Addr} {sp : Option (Nat × Addr)} {x : Rf} {i : Nat} {r : List Addr} {H : Hp} {D : Ends} (hsp : g.sp = none) (q : AftS g Wx (unset i x) r H D) :
    AftS (g.at_ fs d sp) noWx x r H { nx := fun σ' H' => D.nx (σ'.set i none) H', rt := D.rt, bk := fun σ' H' => D.bk (σ'.set i none) H', ct := fun σ' H' => D.ct (σ'.set i none) H' } := by
  cases x with
  | nx L h' => exact fun r' H' σ' G A => q r' H' _ G ⟨A.rep.of, A.loc.forget i, A.px.1, fun i a e => by rw [hsp] at e; cases e⟩
  | rt w h' => exact fun r' H' v G R qv => q r' H' v G R.of qv
  | bk L h' => exact fun r' H' σ' G A => q r' H' _ G ⟨A.rep.of, A.loc.forget i, A.px.1, fun i a e => by rw [hsp] at e; cases e⟩
  | ct L h' => exact fun r' H' σ' G A => q r' H' _ G ⟨A.rep.of, A.loc.forget i, A.px.1, fun i a e => by rw [hsp] at e; cases e⟩
  | ex c fs L h' => exact q.elim
  | bad => exact q.elim
theorem tryAs_ok {i : Nat} {x n : Str} {T : TyN} {et : Ext} {body suite : List Stmt} {b₀ : Stmt} {np pos' : Pos} {sb : MS} {ms : Nat → List (Nat × W) → MS} (hk : Kx X g Wx) (hE : ExmT g et) (hi : X.N[i]? = some n) (hc : Names X x (T.val g))
    (hb : ∀ (W : WX) (pn : List (Addr × Obj)) (xe : Value → Shared → Prop), Kx (X.tr pn xe) g W → PassesOwn (model X.prog X.w) X.A X.env xe → PSsM (X.tr pn xe) g W body sb)
    (hsu : ∀ (a : Addr) (oe : Obj) (pn : List (Addr × Obj)) (c : Nat) (fs : List (Nat × W)) (d : Option Addr), Ksu X g a oe pn c fs d i → PSsM (X.suite a ((a, oe) :: pn)) (g.at_ fs d (some (i, a))) noWx (b₀ :: suite) (ms c fs))
    (hun : ∀ a : Addr, (X.A.mark (some (.ref a))).units = X.A.units := by intro _; rfl)
    (hs : X.stack = X.env :: X.outer := by rfl) (hf : X.env.frame = some X.env.locals := by rfl) (hln : X.env.kindOf n = some .local := by rfl) (hsp : g.sp = none := by rfl) :
    PSM X g Wx (.Try body [.ExceptHandler (some (.Name x np)) (some n) (b₀ :: suite) pos'] [] [] pos) (sTryAs i et T sb ms) := by
  refine ps_imp (ps_try_as (tb := fun W => tS g W sb) (ts := fun a cls d => tsX g ms i a cls d) hs hf hk.nd hi hln hc hk.tk
    (fun W pn xe tk hp => hb W pn xe ⟨hk.hK, hk.nd, hk.un, tk⟩ hp) (fun a oe cls d pn hz hd => ⟨fun pins s σ H D I t => ?_⟩)) fun D σ H ⟨r, h, L, A, q⟩ => ⟨r, h, L, A, ?_⟩
  · obtain ⟨c, fs, ec, t⟩ := t
    subst ec
    exact (hsu a oe pn c fs d ⟨⟨hk.hK, hk.nd, by show (X.A.mark (some (.ref a))).units + 200 < cLine; rw [hun]; exact hk.un, fun u s' ⟨_, _, _, _, _, _, _, _, _, _, _, _, _, _, _, _, ff⟩ => ff.elim⟩, hz, hd⟩).run pins s σ H D I t
  · unfold sTryAs at q
    cases eb : sb L h with
    | ex c fs L1 h1 =>
      rw [eb] at q
      simp only at q
      intro r' H' σ' cls d G A' x
      obtain ⟨ec, xp⟩ := x
      subst ec
      cases el : et.lookup (c, T) with
      | none => rw [el] at q; exact q.elim
      | some bb =>
        rw [el] at q
        have hx := hE _ (lookup_mem el)
        refine ⟨bb, by rw [hk.hK]; exact hx, fun e a ha => ?_, fun e => ?_⟩
        · subst e
          refine ⟨c, fs, rfl, r', h1, L1.set i none, ⟨A'.rep.to, A'.loc.hide i _, ⟨A'.px, xp⟩, fun j b e el => ?_⟩, ?_⟩
          · cases e
            have hl : i < L1.length := by
              have := (List.getElem?_eq_some_iff.mp el).1
              simpa using this
            rw [List.getElem?_set_self (by rw [← A'.loc.len]; exact hl)]
          · exact aft_at hsp (AftS.gro G q)
        · subst e
          exact q r' H' σ' _ d G A' ⟨rfl, xp⟩
    | nx L h' => rw [eb] at q; exact q
    | rt w h' => rw [eb] at q; exact q
    | bk L h' => rw [eb] at q; exact q
    | ct L h' => rw [eb] at q; exact q
    | bad => rw [eb] at q; exact q
/-! ### what a suite asks of its exception -/
def mXf (fs : List (Nat × W)) (f : Nat) : M := fun _ h => match fs with
  | [(0, .cell n)] => (match h[n]? with
    | some (.xd fl) => (match fLook f fl with
      | some w => .ok w h
      | none => .bad)
    | _ => .bad)
  | _ => .bad
def mXfL (i : Nat) (fs : List (Nat × W)) (f : Nat) : M := fun L h => match L[i]? with
  | some none => mXf fs f L h
  | _ => .bad
theorem xf_ok {i f c : Nat} {n : Str} {x : Str} {a : Addr} {oe : Obj} {pn : List (Addr × Obj)} {fs : List (Nat × W)} {d : Option Addr} (S : Ksu X g a oe pn c fs d i) (hX : xfB g.K (g.ca c) = true) (hno : PySem.W.findIn g.K (.ref (g.ca c)) x = some none) (hx : x = g.fd f) (hi : X.N[i]? = some n) (hv : Vis X.env.scope n)
    (hd : (n == ("__debug__" : Str)) = false := by decide) (hcd : (n == ("__classdict__" : Str)) = false := by decide) (hb : attributeBase (.Name n p) x X.env (eval (.Name n p) X.env) = eval (.Name n p) X.env := by rfl) :
    PEM (X.suite a ((a, oe) :: pn)) (g.at_ fs d (some (i, a))) noWx (.Attribute (.Name n p) x pos) (mXfL i fs f) :=
  pe_imp (pe_xf (X := X) (a := a) (C := g.ca c) (oe := oe) (cls := .ref (g.ca c)) (d := d) (pn := pn) (n := x) (by rw [show X.K = g.K from S.kx.hK]; exact xfB_ok hX) (by rw [show X.K = g.K from S.kx.hK]; exact hno) S.zc S.fl (pe_var (X := X.suite a ((a, oe) :: pn)) (i := i) hi hv hd hcd) hb) fun σ H Q ⟨r, h, L, A, q⟩ => by
    unfold mXfL at q
    split at q
    · rename_i el
      refine ⟨_, A.sx i a rfl el, rfl, rfl, ?_⟩
      unfold mXf at q
      split at q
      · rename_i nn
        split at q
        · rename_i fl ec
          split at q
          · rename_i w ew
            rcases A.px.2 with ⟨e1, _⟩ | ⟨n', dd, e1, e2, e3⟩
            · cases e1
            · cases e1
              obtain ⟨b, o, e4, e5, gs, rfl, rc⟩ := A.rep.at_ _ _ ec
              rw [e3] at e4
              cases e4
              obtain ⟨v, e6, e7⟩ := RFs.look rc ew
              exact ⟨dd, gs, v, e2, e5, by rw [hx]; exact e6, q r H v Gro.refl A.rep e7⟩
          · exact q.elim
        · exact q.elim
      · exact q.elim
    · exact q.elim
/-! ### isinstance of it -/
/-- what the class of an exception must say -/
def isxB (K : PySem.W.Frag) (C : Addr) : Bool := (PySem.W.clsIn K C).isSome && (decide (PySem.W.findIn K (.ref C) "__getattribute__" = some (some (.builtin "BaseException.__getattribute__"))) && (decide (PySem.W.findIn K (.ref C) "__getattr__" = some none) && (decide (PySem.W.subIn K (.ref C) (.type "BaseException") = some true) &&
  (decide (PySem.W.findIn K (.ref C) "__class__" = some (some (.builtin "object.__class__"))) && (decide (PySem.W.specialIn K (.builtin "object.__class__") "__get__" = some (some (.builtin "getset_descriptor.__get__"))) && (decide (PySem.W.takesIn K (.builtin "object.__class__") = some true) && decide (PySem.W.mroIn K C (.type "object") = some true)))))))
def IsxT (g : Gm) (et : Ext) : Prop := ∀ y ∈ et, PySem.W.kitOne g.K (.ref (g.ca y.1.1)) (y.1.2.val g) = some y.2 ∧ isxB g.K (g.ca y.1.1) = true
def isxTB (g : Gm) (et : Ext) : Bool := et.all fun y => decide (PySem.W.kitOne g.K (.ref (g.ca y.1.1)) (y.1.2.val g) = some y.2) && isxB g.K (g.ca y.1.1)
theorem isxTB_ok {g : Gm} {et : Ext} (h : isxTB g et = true) : IsxT g et := fun y hy => by
  have := List.all_eq_true.mp h y hy
  simp only [Bool.and_eq_true, decide_eq_true_eq] at this
  exact this
def Xd (d : Option Addr) (H : Hp) : Prop := d = none ∨ ∃ dd gs, d = some dd ∧ H dd = some (.xd gs)
theorem call_isX {a C : Addr} {oe : Obj} {d : Option Addr} {pn : List (Addr × Obj)} (hB : isxB X.K C = true) (hz : Zc (.ref C) d oe) (hf : ∃ vs, oe.data = .fields vs) :
    CallR (X.suite a ((a, oe) :: pn)) (.builtin "isinstance") (fun xs H Q => ∃ (c : V) (cv : Value) (b : Bool), xs = [.ref a, c] ∧ (∀ u, RelV c u → u = cv) ∧ PySem.W.kitOne X.K (.ref C) cv = some b ∧ Xd d H ∧ Q (.bl b) H) := by
  intro pins s σ H xs us Q I r h
  obtain ⟨c, cv, b, rfl, hcv, e, xd, q⟩ := h
  unfold isxB at hB
  simp only [Bool.and_eq_true, decide_eq_true_eq] at hB
  obtain ⟨k1, k2, k3, k4, k5, k6, k7, k8⟩ := hB
  cases r with
  | cons rx rr =>
    cases rr with
    | cons rt rr =>
      cases rr
      cases rx
      have ec := hcv _ rt
      subst ec
      obtain ⟨hget, _⟩ := I.pin (a, oe) (List.mem_append.mpr (.inl List.mem_cons_self))
      obtain ⟨vs, hv⟩ := hf
      have J : ∃ od, PySem.W.InstAt s.heap a oe C od := by
        rcases xd with rfl | ⟨dd, gs, rfl, hd⟩
        · exact ⟨none, ⟨hget, hz.1, by unfold PySem.W.notCls; rw [hv] <;> rfl, by rw [hz.2]; trivial⟩⟩
        · have hx : ObjOk X.prog X.w H s.heap dd (.xd gs) := I.hok dd _ hd
          obtain ⟨mA, hns, hr⟩ := hx
          obtain ⟨od, ho, hl⟩ := lookIn_ns hns
          exact ⟨some od, ⟨hget, hz.1, by unfold PySem.W.notCls; rw [hv] <;> rfl, by rw [hz.2]; exact ho⟩⟩
      obtain ⟨od, J⟩ := J
      exact PySem.W.kia_one (PySem.W.kitx_exc k1 k2 k3 k4 k5 k6 k7 k8) I.kIn J e (fun z => nomatch z) fun tk => ⟨.bl b, H, I.kept (t' := tk) fun _ _ z => z, rfl, q⟩
def mIsX (i : Nat) (et : Ext) (c : Nat) (fs : List (Nat × W)) (T : TyN) : M := fun L h => match L[i]?, et.lookup (c, T) with
  | some none, some b => (match fs with
    | [] => .ok (.bl b) h
    | [(0, .cell n)] => (match h[n]? with
      | some (.xd _) => .ok (.bl b) h
      | _ => .bad)
    | _ => .bad)
  | _, _ => .bad
theorem px_xd {fs : List (Nat × W)} {d : Option Addr} {sp : Option (Nat × Addr)} {r : List Addr} {h : Hq} {H : Hp} (R : Rep (g.at_ fs d sp) r h H) (x : Xp fs d r) (hn : ∀ n, fs = [(0, .cell n)] → ∃ fl, h[n]? = some (.xd fl)) : Xd d H := by
  rcases x with ⟨_, rfl⟩ | ⟨n, dd, e1, e2, e3⟩
  · exact .inl rfl
  · obtain ⟨fl, e⟩ := hn n e1
    obtain ⟨b, o, e4, e5, gs, rfl, _⟩ := R.at_ _ _ e
    rw [e3] at e4
    cases e4
    exact .inr ⟨dd, gs, e2, e5⟩
theorem isX_ok {i c : Nat} {n : Str} {T : TyN} {et : Ext} {a : Addr} {oe : Obj} {pn : List (Addr × Obj)} {fs : List (Nat × W)} {d : Option Addr} {p1 p2 : Pos} (S : Ksu X g a oe pn c fs d i) (hT : IsxT g et) (hi : X.N[i]? = some n) (hv : Vis X.env.scope n) (hg : Gl X "isinstance") (hm : X.mg "isinstance" = none) (hc : ClsE (X.suite a ((a, oe) :: pn)) g b T)
    (hd : (n == ("__debug__" : Str)) = false := by decide) (hcd : (n == ("__classdict__" : Str)) = false := by decide)
    (h1 : starEach [.Name n p1, b] X.env = (false, eval (.Name n p1) X.env) :: starEach [b] X.env := by rfl) (h2 : starEach [b] X.env = (false, eval b X.env) :: starEach [] X.env := by rfl) (hpl : (backTo pos (starEach [b] X.env)).any (·.1) = false := by rfl) :
    PEM (X.suite a ((a, oe) :: pn)) (g.at_ fs d (some (i, a))) noWx (.Call (.Name "isinstance" p) [.Name n p1, b] [] pos) (mIsX i et c fs T) := by
  obtain ⟨v, hv2, cv⟩ := hc
  have hK : X.K = g.K := S.kx.hK
  have e0 : PE (X.suite a ((a, oe) :: pn)) (.Name n p1) (tVar i) := pe_var (X := X.suite a ((a, oe) :: pn)) (i := i) hi hv hd hcd
  have ha : PA (X.suite a ((a, oe) :: pn)) [.Name n p1, b] (tCons (tVar i) (tCons (tC v) tNil)) := pa_cons e0 (pa_cons hv2 pa_nil h2) h1
  by_cases hB : isxB X.K (g.ca c) = true
  · refine pe_imp (pe_callB (X := X.suite a ((a, oe) :: pn)) (call_isX hB S.zc S.fl) hg hm rfl ha (by decide) (by decide) h1 hpl) fun σ H Q ⟨r, h, L, A, q⟩ => ?_
    unfold mIsX at q
    split at q
    · rename_i bb el eb
      refine ⟨_, A.sx i a rfl el, v, T.val g, bb, rfl, fun u hu => cv.eq hu, ?_, ?_, ?_⟩
      · rw [hK]; exact (hT _ (lookup_mem eb)).1
      · split at q
        · exact px_xd A.rep A.px.2 fun n z => by cases z
        · rename_i nn
          split at q
          · rename_i fl ec
            refine px_xd A.rep A.px.2 fun n z => ?_
            cases z
            exact ⟨fl, ec⟩
          · exact q.elim
        · exact q.elim
      · split at q
        · exact q.done A.rep (by simp only [RV])
        · split at q
          · exact q.done A.rep (by simp only [RV])
          · exact q.elim
        · exact q.elim
    · exact q.elim
  · refine pe_imp (t := fun _ _ _ => False) ⟨fun pins s σ H Q I f => f.elim⟩ fun σ H Q ⟨r, h, L, A, q⟩ => ?_
    unfold mIsX at q
    split at q
    · rename_i bb el eb
      exact hB (by rw [hK]; exact (hT _ (lookup_mem eb)).2)
    · exact q
/-- .. for the classes that may come -/
def XfT (g : Gm) (cs : List Nat) (x : Str) : Prop := ∀ c ∈ cs, xfB g.K (g.ca c) = true ∧ PySem.W.findIn g.K (.ref (g.ca c)) x = some none
def xfTB (g : Gm) (cs : List Nat) (x : Str) : Bool := cs.all fun c => xfB g.K (g.ca c) && decide (PySem.W.findIn g.K (.ref (g.ca c)) x = some none)
theorem xfTB_ok {g : Gm} {cs : List Nat} {x : Str} (h : xfTB g cs x = true) : XfT g cs x := fun c hc => by
  have := List.all_eq_true.mp h c hc
  simp only [Bool.and_eq_true, decide_eq_true_eq] at this
  exact this
def mXfT (i : Nat) (cs : List Nat) (c : Nat) (fs : List (Nat × W)) (f : Nat) : M := if c ∈ cs then mXfL i fs f else fun _ _ => .bad
theorem xfT_ok {i f c : Nat} {cs : List Nat} {n : Str} {x : Str} {a : Addr} {oe : Obj} {pn : List (Addr × Obj)} {fs : List (Nat × W)} {d : Option Addr} (S : Ksu X g a oe pn c fs d i) (hT : XfT g cs x) (hx : x = g.fd f) (hi : X.N[i]? = some n) (hv : Vis X.env.scope n)
    (hd : (n == ("__debug__" : Str)) = false := by decide) (hcd : (n == ("__classdict__" : Str)) = false := by decide) (hb : attributeBase (.Name n p) x X.env (eval (.Name n p) X.env) = eval (.Name n p) X.env := by rfl) :
    PEM (X.suite a ((a, oe) :: pn)) (g.at_ fs d (some (i, a))) noWx (.Attribute (.Name n p) x pos) (mXfT i cs c fs f) := by
  unfold mXfT
  split
  · rename_i hc
    exact xf_ok S (hT c hc).1 (hT c hc).2 hx hi hv hd hcd hb
  · exact pe_imp (t := fun _ _ _ => False) ⟨fun pins s σ H Q I f => f.elim⟩ fun σ H Q ⟨r, h, L, A, q⟩ => q
end
end MR
/-! MKw2: classes and defs called with keywords; dict.update. -/
namespace MR
open PySem PySem.Spec PyProof.Rows L2
section
variable {X : Cx} {g : Gm} {Wx : WX} {e a b c : Expr} {m ma mb mc : M} {pos apos p : Pos} {k : Nat} {es : List Expr} {ms mk : M} {kws : List Keyword}
theorem makeK_at {CX : CXT} {C fa : Addr} {fd : FuncData} {ps ks : List Str} {sp : Sp} {n : Nat} {gg : List Value → List Value → List Value} {gV : List V → List V → List V} {E : XK} {pn : List (Addr × Obj)} {σ : Sl} {H : Hp} {s : Shared} {Q : VK} {us ws : List Value} {vs zs : List V} (M : Mk X.K C fa)
    (F : FnOk X.prog X.w X.K X.mg X.base CX k fa fd ps sp) (hr : Room (k + 1) X.A) (hb : KBn X.K fd ps (n + 1) ks gg gV) (hx : PassesAt CX X σ E) (I : Inv X pn σ H s) (rv : Vals vs us) (rz : Vals zs ws) (l1 : vs.length = n) (l2 : zs.length = ks.length)
    (h : ∀ x dx, H x = none → H dx = none → dx ≠ x → sp (gV (.ref x :: vs) zs) (upd (upd H dx (.own x)) x (.ins C dx [])) (fun v H2 => v = .non ∧ Q (.ref x) H2) E) :
    wpAny (model X.prog X.w) X.A (call (.ref C) us (ks.zip ws)) (EP X pn σ Q) X.xe s := by
  have I2 := Inv.made (C := C) I
  have hq := h (s.heap.objs.size + 1) s.heap.objs.size (I.hok.fresh (Nat.le_succ _)) (I.hok.fresh (Nat.le_refl _)) (Nat.ne_of_lt (Nat.lt_succ_self _))
  have rr : Vals (V.ref (s.heap.objs.size + 1) :: vs) (Value.ref (s.heap.objs.size + 1) :: us) := .cons rfl rv
  have nl : (Value.ref (s.heap.objs.size + 1) :: us).length = n + 1 := by
    have := rv.length
    rw [List.length_cons]; omega
  have nz : ws.length = ks.length := by rw [← l2]; exact rz.length.symm
  refine wpAny_call (make_map (f := fa) I.kIn M.makes M.init (beq_iff_eq.mp M.fn) (codeAny_mono (F.run _ X.stack _ _ ⟨Value.ref (s.heap.objs.size + 1) :: us, ks.zip ws⟩ _ _ _ E (hr.make C us (ks.zip ws)) (I2.env0.make C us (ks.zip ws)) (hb.to _ _ ws I2.kIn nl nz) (hb.rel rr rz) hq) fun z s' hz => ?_))
  cases z with
  | error x => exact hx pn _ _ x s' I2 hz
  | ok fl => cases fl with
    | ret u =>
      obtain ⟨v, H', I3, rv', ev, q3⟩ := I2.after hz
      subst ev
      exact ⟨rv', V.ref (s.heap.objs.size + 1), H', I3, rfl, q3⟩
    | _ => exact hz.elim
/-- C(e, .., k = v, ..) -/
def mMakeK (c n np nk : Nat) (idx : List Nat) (f : Fn) (mw : List W) (ms mk : M) : M := fun L h => (ms L h).bindL fun ws h1 => (mk L h1).bindL fun zs h2 =>
  if ws.length + 1 = np ∧ zs.length = nk ∧ (pick idx ((W.cell h2.length :: ws) ++ mw ++ zs)).length = n then (f (pick idx ((W.cell h2.length :: ws) ++ mw ++ zs)) (h2 ++ [.ins c []])).bind fun x h3 => if isNon x then .ok (.cell h2.length) h3 else .bad else .bad
theorem makeK_ok {x : Str} {cc : Nat} {fa : Addr} {n np : Nat} {ks : List Str} {idx : List Nat} {f : Fn} {mw : List W} (hk : Kx X g Wx) (hr : Room (k + 1) X.A) (cm : CalK X.prog X.w g X.mg X.base k fa np ks idx n f mw) (maker : Mk g.K (g.ca cc) fa) (cl : Cls g.K (g.ca cc)) (hg : Gl X x) (hm : X.mg x = some (.ref (g.ca cc))) (hs : PAM X g Wx (e :: es) ms) (hkw : PKM X g Wx kws mk)
    (hall : (backToKw pos (keywordEach kws X.env)).all (·.1.isSome) = true := by rfl) (hks : (backToKw pos (keywordEach kws X.env)).filterMap (·.1) = ks := by rfl) (hdb : (x == ("__debug__" : Str)) = false := by decide)
    (he : starEach (e :: es) X.env = (false, eval e X.env) :: starEach es X.env := by rfl) (hpl : ((backTo pos (starEach (e :: es) X.env)).any (·.1) || (backToKw pos (keywordEach kws X.env)).any (·.1.isNone)) = false := by rfl) :
    PEM X g Wx (.Call (.Name x p) (e :: es) kws pos) (mMakeK cc n np ks.length idx f mw ms mk) := ⟨fun pn s σ H Q I ⟨r, h, L, A, q⟩ => by
  obtain ⟨fd, ps, mv, mvs, F, hb, hw⟩ := cm.ex
  have M := maker
  rw [← hk.hK] at F hb M
  obtain ⟨r0, h0, L0, A0, q0⟩ := tML_step (ma := ms) A q
  refine wpAny_Call_Name_kw (ld_glob I hg hm ?_ hdb)
  refine PySem.W.callWith_KW (h₀ := X.base) I.ok.mod.kin M.kp hall (thn (hs.run pos pn s σ H _ I ⟨r0, h0, L0, A0, q0⟩) fun us s1 ⟨vs, H1, I1, rv, r1, h1, ws, A1, G1, x1, q1⟩ => ?_) hpl he
  obtain ⟨r2, h2, L2', A2, q2⟩ := tML_step (ma := mk) A1 q1
  refine thn (hkw.pk.run pos pn s1 σ H1 _ I1 ⟨r2, h2, L2', A2, q2⟩) fun wz s2 ⟨zs, H2, I2, rz, r3, h3, ws3, A3, G3, x3, q3⟩ => ⟨I2.kIn, ?_⟩
  rw [hks]
  split at q3
  · rename_i hc
    obtain ⟨c1, c2, c3⟩ := hc
    cases np with
    | zero => omega
    | succ np =>
      have l1 : vs.length = np := by rw [← x1.len]; omega
      have l2 : zs.length = ks.length := by rw [← x3.len]; exact c2
      refine makeK_at M F hr hb (passAt hk.tk σ) I2 rv rz l1 l2 fun x dx hx hdx hne => ?_
      have R := A3.rep
      have g1 : Gro r3 H2 r3 (upd H2 dx (.own x)) := Gro.upd hdx
      have R1 : Rep g r3 h3 (upd H2 dx (.own x)) := R.upd hdx
      have hx1 : (upd H2 dx (.own x)) x = none := by rw [upd_ne (Ne.symm hne)]; exact hx
      have g2 : Gro r3 (upd H2 dx (.own x)) (r3 ++ [x]) (upd (upd H2 dx (.own x)) x (.ins (g.ca cc) dx [])) := Gro.cell hx1
      have R2 : Rep g (r3 ++ [x]) (h3 ++ [.ins cc []]) (upd (upd H2 dx (.own x)) x (.ins (g.ca cc) dx [])) := R1.cell hx1 ⟨⟨dx, [], rfl, rfl⟩, cl, fun _ hq => by cases hq⟩
      have gg := g1.trans g2
      have xx : RVs g.K (r3 ++ [x]) (upd (upd H2 dx (.own x)) x (.ins (g.ca cc) dx [])) ((W.cell h3.length :: ws) ++ mw ++ ws3) ((V.ref x :: vs) ++ mvs ++ zs) :=
        ((RVs.cons (RV.new R1) (RVs.gro gg _ _ (RVs.gro G3 _ _ x1))).app (hw _ _)).app (RVs.gro gg _ _ x3)
      refine ⟨_, _, _, R2, xx.pick idx, c3, ?_⟩
      cases ef : f (pick idx ((W.cell h3.length :: ws) ++ mw ++ ws3)) (h3 ++ [.ins cc []]) with
      | bad => rw [ef] at q3; exact q3.elim
      | ex c fs h4 =>
        rw [ef] at q3
        exact fun r4 H4 cls d G4 R4 x4 => q3 r4 H4 cls d (gg.trans G4) R4 x4
      | ok y h4 =>
        rw [ef] at q3
        intro r4 H4 v G4 R4 q4
        have q3 : Aft g Wx σ (if isNon y then .ok (.cell h3.length) h4 else .bad) r3 H2 Q := q3
        split at q3
        · rename_i hn
          have hv := isNon_at q4
          rw [hn] at hv
          have ev : v = .non := of_decide_eq_true hv.symm
          refine ⟨ev, q3 r4 H4 (.ref x) (gg.trans G4) R4 ?_⟩
          simp only [RV]
          exact ⟨x, rfl, G4.at_ (by rw [← R.len]; simp)⟩
        · exact q3.elim
  · exact q3.elim⟩
/-! ### d.update(another dict) -/
def mergeK (kvs : List (Key × V)) (more : List (Key × V)) : List (Key × V) := more.foldl (fun acc q => putK acc q.1 q.2) kvs
theorem KV.merge : ∀ {more : List (Key × V)} {mvs : List (Key × Value)} {kvs : List (Key × V)} {vs : List (Key × Value)}, KV kvs vs → KV more mvs → KV (mergeK kvs more) (merged vs mvs)
  | [], _, _, _, r, q => by cases q; exact r
  | p :: more, _, kvs, vs, r, q => by
    cases q with
    | @cons _ p2 _ qs h t =>
      obtain ⟨h1, h2⟩ := h
      have e : p.1 = p2.1 := h1
      show KV (mergeK (putK kvs p.1 p.2) more) (merged (stored vs p2.1 p2.2) qs)
      rw [← e]
      exact KV.merge (r.put p.1 h2) t
def rUpdate : V → List V → Hp → VK → Prop := fun x xs H Q => ∃ (a b : Addr) (ks ls : List (Key × V)), x = .ref a ∧ xs = [.ref b] ∧ a ≠ b ∧ H a = some (.dK ks) ∧ H b = some (.dK ls) ∧ ks.length + ls.length ≤ sizeLine ∧ Q .non (upd H a (.dK (mergeK ks ls)))
theorem length_mergeK : ∀ (more kvs : List (Key × V)), (mergeK kvs more).length ≤ kvs.length + more.length
  | [], kvs => Nat.le_refl _
  | p :: r, kvs => by
    have h1 := length_mergeK r (putK kvs p.1 p.2)
    have h2 := length_putK kvs p.1 p.2
    show (mergeK (putK kvs p.1 p.2) r).length ≤ _
    rw [List.length_cons]; omega
theorem mt_update : MtR X "dict.update" rUpdate := by
  intro pins s σ H x xs v us Q I rx rxs h
  obtain ⟨a, b, ks, ls, rfl, rfl, hab, ha, hb, hl, q⟩ := h
  cases rx
  obtain ⟨u, rfl, ru⟩ := rxs.one
  cases ru
  obtain ⟨z1, d1, vs, r1, dd1⟩ := dk_of I.hok ha
  obtain ⟨z2, d2, ws, r2, dd2⟩ := dk_of I.hok hb
  have l1 := r1.length
  have l2 := r2.length
  refine call_meetsIn PySem.F.slot_dict_update dd1.typeIs PySem.F.entry_dict_update (PySem.F.args_dict_update_2 _ _) (meets_dict_update (mixKind X.prog X.w) a b hab d2) ⟨vs, ws, dd1, dd2, by rw [← l1, ← l2]; exact hl, fun h' dd1' dd2' hs => ?_⟩
  have he : ∃ o, h'.get? a = some o := let ⟨o, _, _, ho, _⟩ := dd1'; ⟨o, ho⟩
  have hz : (mergeK ks ls).length ≤ sizeLine := Nat.le_trans (length_mergeK ls ks) hl
  exact ⟨.non, _, d_write (t' := s.toks) I (by rw [ha]; trivial) hs he (dk_new hz d1 (KV.merge r1 r2) dd1'), rfl, q⟩
@[simp] def dMerge (l : List (W × W)) : List (W × W) → Option (List (W × W))
  | [] => some l
  | p :: r => match keyOf p.1 with
    | some k => dMerge (dPut keyOf l k p.1 p.2) r
    | none => none
@[simp] def fUpdate : Mf := fun o ws h => match o, ws with
  | .cell n, [.cell m] => if n = m then .bad else match h[n]?, h[m]? with
    | some (.dk false l), some (.dk false l') => if l.length + l'.length ≤ lineN then match dMerge l l' with
      | some l2 => .ok .non (h.set n (.dk false l2))
      | none => .bad
      else .bad
    | _, _ => .bad
  | _, _ => .bad
theorem dMerge_at {K : PySem.W.Frag} {r : List Addr} {H : Hp} : ∀ {l' l l2 : List (W × W)} {ks ls : List (Key × V)}, RKs keyOf K r H l ks → RKs keyOf K r H l' ls → dMerge l l' = some l2 → RKs keyOf K r H l2 (mergeK ks ls)
  | [], l, l2, ks, ls, q, q', e => by
    have : ls = [] := q'
    subst this
    simp only [dMerge, Option.some.injEq] at e
    subst e
    exact q
  | p :: l', l, l2, ks, ls, q, q', e => by
    obtain ⟨k, v, t, rfl, e1, e2, e3⟩ := q'
    simp only [dMerge, e1] at e
    exact dMerge_at (ks := putK ks k v) (q.put e1 e2) e3 e
theorem update_S : MtS' g Wx rUpdate fUpdate := by
  intro r h H σ o v ws vs Q R qo qw x
  unfold fUpdate at x
  split at x
  · rename_i n m
    obtain ⟨u, rfl, q1⟩ := RVs.one_inv qw
    split at x
    · exact x.elim
    · rename_i hnm
      split at x
      · rename_i l l' e1 e2
        split at x
        · rename_i hl
          split at x
          · rename_i l2 em
            obtain ⟨a, oa, rfl, ra, ha, ks, lo, rk⟩ := cell_at R qo e1
            obtain ⟨b, ob, rfl, rb, hb, ls, lo', rk'⟩ := cell_at R q1 e2
            have lo : oa = .dK ks := lo
            have lo' : ob = .dK ls := lo'
            subst lo lo'
            have hab : a ≠ b := fun z => by
              subst z
              exact hnm (nodup_at R.nd ra rb)
            have rm := dMerge_at rk rk' em
            have gr : Gro r H r (upd H a (.dK (mergeK ks ls))) := Gro.write R ra ha (fun b x y => by cases y)
            refine ⟨a, b, ks, ls, rfl, rfl, hab, ha, hb, by rw [← rk.len, ← rk'.len, lineN_eq]; exact hl, x r _ _ gr (R.write ra ha (fun b x y => by cases y) ⟨_, rfl, RKs.gro gr rm⟩) (by simp only [RV])⟩
          · exact x.elim
        · exact x.elim
      · exact x.elim
  · exact x.elim
end
end MR
/-! MXi: an own exception over ValueError whose __init__ keeps one thing, then calls its base's. -/
namespace MR
open PySem PySem.Spec PyProof.Rows L2
section
open Builtin Builtin.ObjectAttr PySem.Calls PySem.HandSPX
variable {prog : Program} {w : World} {A : Around} {E : Value → Shared → Prop} {R : Result → Shared → Prop} {h : Heap} {g : Array GenState} {d : Drawn} {t : Nat} {os : OsState}
variable {nm q : Str} {C N : Addr} {bs bm bmB : List Value} {hdct : Bool} {sn : List Str} {sub : List Value} {ab : Bool} {col : Option Bool} {dd : Option Addr} {k0 k1 k2 k3 k5 : Option Value} {B newId initId : String}
theorem init_baseD (F : ExcBaseFacts B newId initId bmB) (hT : ∀ X : String, bm.contains (.type X) = bmB.contains (.type X)) {e t0 dx : Addr} {rest : List Value}
    (hC : h.get? C = some (excClassObj nm q C N bs bm hdct sn sub ab col dd k0 k1 k2 k3 k5 newId)) (he : h.get? e = some ({ cls := .ref C, dict := some dx, data := .fields #[.ref t0, .none, .none, .none, .bool false, .none] } : Obj)) (hrest : rest.length ≤ sizeLine)
    (hq : ∀ h' t1, (∀ b o, b ≠ e → h.get? b = some o → h'.get? b = some o) → h'.get? e = some ({ cls := .ref C, dict := some dx, data := .fields #[.ref t1, .none, .none, .none, .bool false, .none] } : Obj) → R (.ok (.ret .none)) ⟨h', g, d, t, os⟩) :
    codeAny (model prog w) A (.call (.builtin initId) ⟨.ref e :: rest, []⟩) R ⟨h, g, d, t, os⟩ := by
  refine codeAny_call_builtin F.init.plain F.initEntry (check_init_own F hT hC he rfl ?_)
  wp_walk
  refine hq _ h.objs.size (fun b o hb ho => ?_) ?_
  · rw [Heap.get?_update_other _ _ (Ne.symm hb)]
    exact Heap.get?_push_of_some _ ho
  · rw [Heap.get?_update_self _ (Heap.get?_push_of_some _ he) rfl]
    rfl
end
section
variable {X : Cx} {pins : List (Addr × Obj)} {σ : L2.St} {H : Hp} {s : Shared} {a C dx : Addr} {E : Value → Shared → Prop} {A : Around}
theorem oinitD_ok {us : List Value} {Q : Value → Shared → Prop} (T : OexC X.K C) (I : Inv X pins σ H s) (e : H a = some (exo a C (some dx))) (hl : us.length ≤ sizeLine) (h : ∀ s', Inv X pins σ H s' → Q .none s') :
    wpAny (model X.prog X.w) A (call (.builtin "ValueError.__init__") (.ref a :: us)) Q E s := by
  obtain ⟨nm, q, N, bs, bm, sn, sub, ab, col, dd, k0, k1, k2, k3, k5, hC, hbm⟩ := T.cls
  obtain ⟨t1, ho⟩ := exo_at I.hok e
  obtain ⟨hp, g, d, t, os⟩ := s
  refine wpAny_call (init_baseD F.excBase_ValueError (fun Y => PySem.HandSPX.refsVE_contains Y bm hbm) (I.kIn _ _ hC) ho hl fun h' t2 k hx => ?_)
  have J := I.write (t' := t) (x := a) (e := a) (o := exo a C (some dx)) (by rw [e]; exact True.intro) (.inl rfl) k ⟨_, hx⟩ (exo_ok hx)
  have eu : upd H a (exo a C (some dx)) = H := by
    funext b
    by_cases hb : b = a
    · rw [hb, upd_same, e]
    · rw [upd_ne hb]
  rw [eu] at J
  exact h _ J
/-- D.__init__(self, ..), D an own class that has it of ValueError -/
def tVeD (K : PySem.W.Frag) (ta : TA) : TE := fun σ H Q => ta σ H fun vs H1 => ∃ (a C dx : Addr) (ws : List V), vs = .ref a :: ws ∧ ws.length ≤ 1000 ∧ OexC K C ∧ H1 a = some (exo a C (some dx)) ∧ Q .non H1
def oviB (K : PySem.W.Frag) (D : Addr) : Bool := PySem.W.readsIn K D (.type "type") && (decide (PySem.W.specialIn K (.ref D) "__getattribute__" = some (some (.builtin "type.__getattribute__"))) && (match PySem.W.findCls K (.ref D) (.type "type") "__init__" with
  | some (.val (.builtin b)) => decide (b = "ValueError.__init__")
  | _ => false))
theorem pe_ovi {e : Expr} {es : List Expr} {ta : TA} {x : Str} {D : Addr} {p1 p2 pos : Pos} {pl : Sem Bool} (hg : Gl X x) (hm : X.mg x = some (.ref D)) (hB : oviB X.K D = true) (ha : PA X (e :: es) ta)
    (hdb : (x == ("__debug__" : Str)) = false := by decide)
    (hc : eval (.Call (.Attribute (.Name x p1) "__init__" p2) (e :: es) [] pos) X.env = (do
      let ov ← eval (.Name x p1) X.env
      standAt p2.atName
      let (f, first) ← holding [ov] (getMethod ov "__init__" pl)
      callWith pos f first (backTo pos (starEach (e :: es) X.env)) (backToKw pos (keywordEach [] X.env))) := by rfl)
    (he : starEach (e :: es) X.env = (false, eval e X.env) :: starEach es X.env := by rfl) (hpl : (backTo pos (starEach es X.env)).any (·.1) = false := by rfl) :
    PE X (.Call (.Attribute (.Name x p1) "__init__" p2) (e :: es) [] pos) (tVeD X.K ta) := by
  unfold oviB at hB
  simp only [Bool.and_eq_true, decide_eq_true_eq] at hB
  obtain ⟨h1, h2, h3⟩ := hB
  have h3' : PySem.W.findCls X.K (.ref D) (.type "type") "__init__" = some (.val (.builtin "ValueError.__init__")) := by
    split at h3
    · rename_i b e
      rw [e, of_decide_eq_true h3]
    · cases h3
  refine ⟨fun pins s σ H Q I h => ?_⟩
  refine PySem.W.methodCall_KW (ld_glob I hg hm ?_ hdb) hc
  refine PySem.W.method_cls I.kIn h2 (PySem.W.cls_value I.kIn h1 h3' (by decide +kernel) ?_)
  show wpAny _ _ (callWith pos (Value.builtin "ValueError.__init__") [] (backTo pos (starEach (e :: es) X.env)) []) _ _ _
  refine PyProof.Rows.callWith_method1 (thn (ha.run pos pins _ σ H _ ((I.tok _).tok _) h) fun us s1 ⟨vs, H1, I1, r1, a, C, dx, ws, ev, hl, T, ea, q⟩ => ?_) he hpl
  subst ev
  cases r1 with
  | @cons _ u0 _ ur ra rw' =>
    obtain rfl : u0 = Value.ref a := ra
    have hlen : ur.length ≤ sizeLine := by
      rw [← Paired.length rw', PySem.sizeLine_eq]
      omega
    exact oinitD_ok T I1 ea hlen fun s' J => ⟨.non, H1, J, rfl, q⟩
end
/-! ### what the text must say of such a class -/
def oexB (K : PySem.W.Frag) (C : Addr) : Bool := (match K.lookup C with
  | some ⟨.type "type", _, .cls cd, sl⟩ => (match cd.mro, sl.toList with
    | .ref C' :: bm, [_, _, _, _, some (.builtin n), _] => C' == C && (n == "ValueError.__new__" && (!cd.hasDel && (cd.hasDict && PySem.HandSPX.refsVE bm)))
    | _, _ => false)
  | _ => false) && (decide (PySem.W.findIn K (.ref C) "__setattr__" = some (some (.builtin "object.__setattr__"))) && (decide (PySem.W.subIn K (.ref C) (.type "BaseException") = some true) && (decide (PySem.W.typeIn K (.ref C) = some (.type "type")) && PySem.W.keepIn K (.ref C))))
theorem oexB_ok {K : PySem.W.Frag} {C : Addr} (h : oexB K C = true) : OexC K C := by
  unfold oexB at h
  simp only [Bool.and_eq_true, decide_eq_true_eq] at h
  obtain ⟨q, h1, h2, h3, h4⟩ := h
  refine ⟨?_, h1, h2, h3, h4⟩
  split at q
  · rename_i dd cd sl ho
    split at q
    · rename_i C' bm k0 k1 k2 k3 n k5 hm hs
      simp only [Bool.and_eq_true, beq_iff_eq, Bool.not_eq_true'] at q
      obtain ⟨rfl, rfl, hdel, hdct, ht⟩ := q
      obtain ⟨nm, bs, mro, ns, qn, hd, sn, sub, ab, col, del⟩ := cd
      dsimp only at hm hdel hdct
      subst hm hdel hdct
      have hsl : sl = #[k0, k1, k2, k3, some (.builtin "ValueError.__new__"), k5] := by
        obtain ⟨l⟩ := sl
        simp only at hs
        rw [hs]
      subst hsl
      exact ⟨nm, qn, ns, bs, bm, sn, sub, ab, col, dd, k0, k1, k2, k3, k5, ho, ht⟩
    · cases q
  · cases q
def xiB (K : PySem.W.Frag) (C fI D : Addr) (f : Str) : Bool := oexB K C && (decide (PySem.W.findIn K (.ref C) "__init__" = some (some (.ref fI))) && (decide (PySem.W.typeIn K (.ref fI) = some (.type "function")) && (oviB K D && decide (PySem.W.findIn K (.ref C) f = some none))))
/-- what its __init__ does -/
def spXi (K : PySem.W.Frag) (f : Str) : Sp := fun vs H Q _ => ∃ (a C : Addr) (y : V), vs = [.ref a, y] ∧ OexC K C ∧ PySem.W.findIn K (.ref C) f = some none ∧ H a = some (exo a C none) ∧ ∀ dx, H dx = none → dx ≠ a → Q .non (upd (upd H dx (exd dx [(f, y)])) a (exo a C (some dx)))
section
variable {X : Cx} {x0 x1 f xb m : Str} {D : Addr} {p1 p2 p3 p4 p5 p6 p7 p8 p9 p10 : Pos} {j : Nat}
def tXi (K : PySem.W.Frag) (f : Str) (m : Str) : TS := tSeq (tOst K f (tVar 0) (tVar 1)) (tDrop (tVeD K (tCons (tVar 0) (tCons (tC (.str m)) tNil))))
theorem pss_xi {pl : Sem Bool} (h0 : X.N[0]? = some x0) (h1 : X.N[1]? = some x1) (v0 : Vis X.env.scope x0) (v1 : Vis X.env.scope x1) (hg : Gl X xb) (hm : X.mg xb = some (.ref D)) (hB : oviB X.K D = true)
    (d0 : (x0 == ("__debug__" : Str)) = false := by decide) (d1 : (x1 == ("__debug__" : Str)) = false := by decide) (c0 : (x0 == ("__classdict__" : Str)) = false := by decide) (c1 : (x1 == ("__classdict__" : Str)) = false := by decide) (db : (xb == ("__debug__" : Str)) = false := by decide)
    (hs : swapsWith (.Name x1 p3) (some (.Attribute (.Name x0 p1) f p2)) p4.line X.env = pure false := by rfl)
    (hs2 : swapsWith (.Call (.Attribute (.Name xb p5) "__init__" p6) [.Name x0 p7, .Constant (.str m) j p8] [] p9) none p10.line X.env = pure false := by rfl)
    (hc : eval (.Call (.Attribute (.Name xb p5) "__init__" p6) [.Name x0 p7, .Constant (.str m) j p8] [] p9) X.env = (do
      let ov ← eval (.Name xb p5) X.env
      standAt p6.atName
      let (f, first) ← holding [ov] (getMethod ov "__init__" pl)
      callWith p9 f first (backTo p9 (starEach [.Name x0 p7, .Constant (.str m) j p8] X.env)) (backToKw p9 (keywordEach [] X.env))) := by rfl)
    (he : starEach [.Name x0 p7, .Constant (.str m) j p8] X.env = (false, eval (.Name x0 p7) X.env) :: starEach [.Constant (.str m) j p8] X.env := by rfl) (he2 : starEach [.Constant (.str m) j p8] X.env = (false, eval (.Constant (.str m) j p8) X.env) :: starEach [] X.env := by rfl)
    (hpl : (backTo p9 (starEach [.Constant (.str m) j p8] X.env)).any (·.1) = false := by rfl) :
    PSs X [.Assign [.Attribute (.Name x0 p1) f p2] (.Name x1 p3) p4, .Expr (.Call (.Attribute (.Name xb p5) "__init__" p6) [.Name x0 p7, .Constant (.str m) j p8] [] p9) p10] (tXi X.K f m) :=
  pss_cons (ps_ost (pe_var (i := 0) h0 v0 d0 c0) (pe_var (i := 1) h1 v1 d1 c1) hs) (pss_one (ps_expr (pe_ovi (pl := pl) hg hm hB (pa_cons (pe_var (i := 0) h0 v0 d0 c0) (pa_cons pe_str pa_nil he2) he) db hc he hpl) hs2))
end
theorem xi_law {K : PySem.W.Frag} {f m x0 x1 : Str} {vs : List V} {H : Hp} {Q : VK} {E : XK} (h : spXi K f vs H Q E) : tXi K f m { nx := fun _ H' => Q .non H', rt := Q } (L2.start [x0, x1] vs) H := by
  obtain ⟨a, C, y, rfl, T, hno, e, q⟩ := h
  refine ⟨y, rfl, .ref a, rfl, a, C, rfl, T, hno, .inl ⟨e, fun dx hd hne => ?_⟩⟩
  refine ⟨.ref a, rfl, a, C, dx, [.str m], rfl, by simp, T, upd_same, ?_⟩
  exact q dx hd hne
/-- an exception class of the text, its __init__ at fI -/
structure XiOk (P : Program) (w : World) (K : PySem.W.Frag) (mg : Str → Option Value) (base : Heap) (C : Addr) (f : Str) : Prop where
  ex : ∃ (fI : Addr) (fd : FuncData) (ps : List Str), FnOk P w K mg base (L2.CX P w) 1 fI fd ps (spXi K f) ∧ Binds K fd ps [] ∧ PySem.W.findIn K (.ref C) "__init__" = some (some (.ref fI)) ∧ PySem.W.typeIn K (.ref fI) = some (.type "function")
  oex : OexC K C
  no : PySem.W.findIn K (.ref C) f = some none
theorem xi_ok {P : Program} {w : World} {K : PySem.W.Frag} {mg : Str → Option Value} {base : Heap} {d : He.DefD} {fd : FuncData} {ps : List Str} {x0 x1 f m : Str} {C D : Addr} (hB : xiB K C (He.fAd K d.at_) D f = true) (F : FunD K d.name d.qual d.params d.body d.scope [] [] (He.fAd K d.at_) fd) (S : FnScope [x0, x1] ps d.scope) (hn : ps.length = 2)
    (hb : ∀ (kV doc pm : Value) (an : Option Addr) (cdv ct : Value) (us : List Value), us.length = ps.length → bindArgs (PySem.W.fnOf d.name d.qual d.params d.body d.scope .none kV doc pm an cdv ct) ⟨us, []⟩ = pure (ps.zip us))
    (hbody : oviB K D = true → ∀ (cdv : Value) (A : Around) (outer : List Env) (sh : Shared) (H : Hp) (E : XK), PSs (cxOf (L2.CX P w) P w K mg base [x0, x1] d.qual d.scope (He.fAd K d.at_) cdv A outer sh H E) d.body (tXi K f m)) : XiOk P w K mg base C f := by
  unfold xiB at hB
  simp only [Bool.and_eq_true, decide_eq_true_eq] at hB
  obtain ⟨h1, h2, h3, h4, h5⟩ := hB
  refine ⟨⟨_, fd, ps, F.ok (k := 0) S (fun vs H Q E h => ?_) fun cdv A outer sh H vs Q E _ hsp => ⟨_, hbody h4 cdv A outer sh H E, xi_law hsp⟩, F.bindsN hb, h2, h3⟩, oexB_ok h1, h5⟩
  obtain ⟨a, C, y, rfl, _⟩ := h
  rw [hn]; rfl
/-! ### raise C(e) -/
def sRaise1 (c f : Nat) (ms : M) : MS := fun L h => (ms L h).thnL L fun ws h1 => match ws with
  | [w] => .ex c [(0, .cell h1.length)] L (h1 ++ [.xd [(f, w)]])
  | _ => .bad
theorem xi_heap {H1 : Hp} {a C dx : Addr} {f : Str} {y : V} (ha : H1 a = none) (hne : dx ≠ a) : upd (del (upd (upd (upd H1 a (exo a C none)) dx (exd dx [(f, y)])) a (exo a C (some dx))) a) dx (.xd [(f, y)]) = upd H1 dx (.xd [(f, y)]) := by
  funext b
  by_cases h1 : b = dx
  · rw [h1, upd_same, upd_same]
  · rw [upd_ne h1, upd_ne h1]
    by_cases h2 : b = a
    · rw [h2, del_same, ha]
    · rw [del_ne h2, upd_ne h2, upd_ne h1, upd_ne h2]
section
variable {X : Cx} {g : Gm} {Wx : WX} {e : Expr} {ms : M} {pos p pos' : Pos}
theorem raise1_ok {x : Str} {c fi : Nat} (hk : Kx X g Wx) (hr : Room 2 X.A) (xo : XiOk X.prog X.w g.K X.mg X.base (g.ca c) (g.fd fi)) (hg : Gl X x) (hm : X.mg x = some (.ref (g.ca c))) (hs : PAM X g Wx [e] ms)
    (hdb : (x == ("__debug__" : Str)) = false := by decide) (he : starEach [e] X.env = (false, eval e X.env) :: starEach [] X.env := by rfl) (hpl : (backTo pos (starEach [] X.env)).any (·.1) = false := by rfl) (hc : X.calm = true := by rfl) :
    PSM X g Wx (.Raise (some (.Call (.Name x p) [e] [] pos)) none pos') (sRaise1 c fi ms) := by
  obtain ⟨fI, fd, ps, F, hb, hi, ht⟩ := xo.ex
  have T := xo.oex
  rw [← hk.hK] at F hb hi ht T
  refine ps_imp (ps_raise hc hk.tk (pmk_oex (ds := []) (dvs := []) T hi ht F hr hb .nil (passes_call (E := fun _ _ _ => False) hk.tk fun _ _ _ _ ff => ff.elim) hg hm hs hdb he hpl)) fun D σ H ⟨r, h, L, A, q⟩ => ?_
  obtain ⟨r0, h0, L0, A0, q0⟩ := tSL_step (ms := ms) A q
  refine ⟨r0, h0, L0, A0, q0.imp fun vs H1 ⟨r1, h1, ws, A1, G1, x1, q1⟩ => ?_⟩
  split at q1
  · rename_i w
    obtain ⟨y, rfl, x2⟩ := RVs.one_inv x1
    refine ⟨by simp, fun a ha => ⟨a, g.ca c, y, rfl, T, ?_, upd_same, fun dx hdx hne => ⟨rfl, dx, [(g.fd fi, y)], upd_same, ?_, ?_, ?_⟩⟩⟩
    · rw [hk.hK]; exact xo.no
    · rw [upd_ne hne, upd_same]
    · rw [upd_ne hne] at hdx; exact hdx
    · rw [xi_heap ha hne]
      rw [upd_ne hne] at hdx
      have G := Gro.cell (r := r1) (o := .xd [(g.fd fi, y)]) hdx
      have R := A1.rep.cell (c := .xd [(fi, w)]) (o := .xd [(g.fd fi, y)]) hdx ⟨[(g.fd fi, y)], rfl, y, [], rfl, RV.gro G _ _ x2, rfl⟩
      exact q1 _ _ σ _ (some dx) G (A1.gro G R) ⟨rfl, .inr ⟨_, dx, rfl, rfl, by rw [← A1.rep.len]; simp⟩⟩
  · exact q1.elim
end
end MR
/-! MG: defs that say repr: no repr is under way where they are called (A.guards = some []). -/
namespace MR
open PySem PySem.Spec PyProof.Rows L2
/-- FnOk, where no repr is under way -/
structure FnG (P : Program) (w : World) (K : PySem.W.Frag) (mg : Str → Option Value) (base : Heap) (CX : CXT) (k : Nat) (f : Addr) (fd : FuncData) (ps : List Str) (sp : Sp) : Prop where
  len : ∀ vs H Q E, sp vs H Q E → vs.length = ps.length
  run : ∀ (A : Around), A.guards = some [] → ∀ (outer : List Env) (s : Shared) (H : Hp) (args : Args) (us : List Value) (vs : List V) (Q : VK) (E : XK), Room k A → Env0 P w K mg base A outer s H → BindsTo s fd args (ps.zip us) → Vals vs us → sp vs H Q E →
    codeAny (model P w) A (.call (.ref f) args) (CR CX outer P w H s Q E) s
theorem deeper_guards (A : Around) (env : Env) : (A.deeper env).guards = A.guards := rfl
section
variable {P : Program} {w : World} {K : PySem.W.Frag} {mg : Str → Option Value} {base : Heap} {x qual : Str} {params : Arguments} {body : List Stmt} {scope : Scope} {dvs : List V} {kws : List (Str × V)} {f : Addr} {fd : FuncData} {CX : CXT} {N ps : List Str} {k : Nat} {sp : Sp}
theorem FnG.of (F : FunD K x qual params body scope dvs kws f fd) (S : FnScope N ps scope) (len : ∀ vs H Q E, sp vs H Q E → vs.length = ps.length)
    (hbody : ∀ (cdv : Value) (A : Around), A.guards = some [] → ∀ (outer : List Env) (s : Shared) (H : Hp) (vs : List V) (Q : VK) (E : XK), Room k (A.deeper (envOfC qual scope s.heap.objs.size f cdv)) → sp vs H Q E →
      ∃ t, PSs (cxOf CX P w K mg base N qual scope f cdv A outer s H E) body t ∧ t { nx := fun _ H' => Q .non H', rt := Q } (L2.start N vs) H) : FnG P w K mg base CX (k + 1) f fd ps sp := by
  obtain ⟨oc, od, dV, kV, doc, pm, an, cdv, ct, osl, rfl, lk, hcd, _, _⟩ := F.ex
  refine ⟨len, fun A hg outer s H args us vs Q E hr e0 hb r hsp => ?_⟩
  have KX : K.In s.heap := e0.mod.kin.keeps fun b o e => (e0.bs b o e).1
  refine codeAny_call_function hr.depth (KX _ _ lk) rfl S.co S.gen rfl (PySem.W.codeRec_of KX hcd) (hb _ _ _ _ ?_)
  refine wpAny_newFunctionEnv_cells S.kind (fun y hy => ?_) fun env he s1 z => ?_
  · rcases S.par y.1 (List.of_mem_zip (show (y.1, y.2) ∈ ps.zip us from hy)).1 with q | q
    · exact .inl q
    · exact .inr ⟨q, PySem.W.cellsFrom_some _ _ _ (.inl q)⟩
  subst he
  refine ⟨(e0.mod.nolimit.keeps fun b o e => (e0.bs b o e).1).keeps z.toInCall.keep, codeAny_func ?_⟩
  obtain ⟨t, ht, hq⟩ := hbody cdv A hg outer s H vs Q E (hr.deeper _) hsp
  refine wpAny_mono (ht.run [] s1 (L2.start N vs) H _ (inv_start S hr.hd e0 (len _ _ _ _ hsp) r z) hq) (fun fl s' hs => ?_) fun e s' hs => hs
  cases fl with
  | ret u => obtain ⟨v, σ', H', J, rv, q⟩ := hs; exact ⟨v, H', J.os, J.bare, J.base, J.hok, rv, q⟩
  | next => obtain ⟨σ', H', J, q⟩ := hs; exact ⟨.non, H', J.os, J.bare, J.base, J.hok, rfl, q⟩
  | brk => obtain ⟨_, _, _, q⟩ := hs; exact q.elim
  | cont => obtain ⟨_, _, _, q⟩ := hs; exact q.elim
end
/-- .. by its mirror -/
theorem fn_gM {P : Program} {w : World} {g : Gm} {mg : Str → Option Value} {base : Heap} {k : Nat} {fa : Addr} {fd : FuncData} {x qual : Str} {params : Arguments} {body : List Stmt} {scope : Scope} {dvs : List V} {kws : List (Str × V)} {N ps : List Str} {n : Nat} {s : MS}
    (hx : (∀ r, g.px r) ∧ g.sp = none) (F : FunD g.K x qual params body scope dvs kws fa fd) (S : FnScope N ps scope) (hn : ps.length = n)
    (hbody : ∀ (cdv : Value) (A : Around), A.guards = some [] → ∀ (outer : List Env) (sh : Shared) (H : Hp) (E : XK), Room k (cxM P w g mg base N qual scope fa cdv A outer sh H E).A → Kx (cxM P w g mg base N qual scope fa cdv A outer sh H E) g (fun cls d _ H' => E cls d H') →
      PassesOwn (model P w) (cxM P w g mg base N qual scope fa cdv A outer sh H E).A (cxM P w g mg base N qual scope fa cdv A outer sh H E).env (cxM P w g mg base N qual scope fa cdv A outer sh H E).xe →
      PSsM (cxM P w g mg base N qual scope fa cdv A outer sh H E) g (fun cls d _ H' => E cls d H') body s) :
    FnG P w g.K mg base (L2.CX P w) (k + 1) fa fd ps (spM g n (mDef N.length s)) :=
  FnG.of F S (spM_len hn) fun cdv A hgd outer sh H vs Q E hr hsp => ⟨_, hbody cdv A hgd outer sh H E hr
    ⟨rfl, S.nd, by have := hr.un; show (A.deeper (envOfC qual scope sh.heap.objs.size fa cdv)).units + 200 < cLine; omega, takes_of rfl rfl rfl rfl⟩ (passes_of rfl), def_pure hx hsp⟩
/-- a def of the text that says repr -/
structure CalG (P : Program) (w : World) (g : Gm) (mg : Str → Option Value) (base : Heap) (k : Nat) (fa : Addr) (n : Nat) (f : Fn) : Prop where
  ex : ∃ (fd : FuncData) (ps : List Str), FnG P w g.K mg base (L2.CX P w) k fa fd ps (spM g n f) ∧ Binds g.K fd ps []
  kp : PySem.W.keepIn g.K (.ref fa) = true
theorem cal_g {P : Program} {w : World} {g : Gm} {mg : Str → Option Value} {base : Heap} {k : Nat} {d : He.DefD} {fd : FuncData} {N ps : List Str} {n : Nat} {s : MS} (hx : (∀ r, g.px r) ∧ g.sp = none) (F : FunD g.K d.name d.qual d.params d.body d.scope [] [] (He.fAd g.K d.at_) fd) (S : FnScope N ps d.scope) (hn : ps.length = n)
    (hb : ∀ (kV doc pm : Value) (an : Option Addr) (cdv ct : Value) (us : List Value), us.length = ps.length → bindArgs (PySem.W.fnOf d.name d.qual d.params d.body d.scope .none kV doc pm an cdv ct) ⟨us, []⟩ = pure (ps.zip us))
    (hbody : ∀ (cdv : Value) (A : Around), A.guards = some [] → ∀ (outer : List Env) (sh : Shared) (H : Hp) (E : XK), Room k (cxM P w g mg base N d.qual d.scope (He.fAd g.K d.at_) cdv A outer sh H E).A → Kx (cxM P w g mg base N d.qual d.scope (He.fAd g.K d.at_) cdv A outer sh H E) g (fun cls d _ H' => E cls d H') →
      PassesOwn (model P w) (cxM P w g mg base N d.qual d.scope (He.fAd g.K d.at_) cdv A outer sh H E).A (cxM P w g mg base N d.qual d.scope (He.fAd g.K d.at_) cdv A outer sh H E).env (cxM P w g mg base N d.qual d.scope (He.fAd g.K d.at_) cdv A outer sh H E).xe →
      PSsM (cxM P w g mg base N d.qual d.scope (He.fAd g.K d.at_) cdv A outer sh H E) g (fun cls d _ H' => E cls d H') d.body s) :
    CalG P w g mg base (k + 1) (He.fAd g.K d.at_) n (mDef N.length s) :=
  ⟨⟨fd, ps, fn_gM hx F S hn hbody, F.bindsN hb⟩, F.kp⟩
section
variable {X : Cx} {g : Gm} {Wx : WX} {e : Expr} {pos p : Pos} {k : Nat} {es : List Expr} {ms : M}
theorem callG_ok {x : Str} {fa : Addr} {n : Nat} {f : Fn} (hgd : X.A.guards = some []) (hk : Kx X g Wx) (hr : Room k X.A) (c : CalG X.prog X.w g X.mg X.base k fa n f) (hg : Gl X x) (hm : X.mg x = some (.ref fa)) (hs : PAM X g Wx (e :: es) ms)
    (hdb : (x == ("__debug__" : Str)) = false := by decide) (he : starEach (e :: es) X.env = (false, eval e X.env) :: starEach es X.env := by rfl) (hpl : (backTo pos (starEach es X.env)).any (·.1) = false := by rfl) :
    PEM X g Wx (.Call (.Name x p) (e :: es) [] pos) (mCall n f [] ms) := by
  obtain ⟨fd, ps, F, hb⟩ := c.ex
  have kp := c.kp
  rw [← hk.hK] at F hb kp
  have go : PE X (.Call (.Name x p) (e :: es) [] pos) (tCallM (spM g n f) [] (WE Wx) (tML g Wx ms)) := ⟨fun pn s σ H Q I h => by
    refine wpAny_Call_Name_kw (ld_glob I hg hm ?_ hdb)
    refine PySem.W.callWith_K (h₀ := X.base) I.ok.mod.kin kp (thn (hs.run pos pn s σ H _ I h) fun us s1 ⟨vs, H1, I1, rv, q⟩ => ⟨I1.kIn, ?_⟩) he hpl
    have r2 : Vals (vs ++ []) (us ++ []) := rv.append .nil
    have hl : (us ++ []).length = ps.length := r2.length.symm.trans (F.len _ _ _ _ q)
    refine wpAny_call (codeAny_mono (F.run X.A hgd X.stack s1 H1 ⟨us, []⟩ _ _ Q (WE Wx σ) hr I1.env0 (hb s1 us I1.kIn hl) r2 q) fun z s' hq => ?_)
    cases z with
    | error y => exact passAt hk.tk σ pn H1 s1 y s' I1 hq
    | ok fl => cases fl with
      | ret u => exact I1.after hq
      | _ => exact hq.elim⟩
  refine pe_imp go fun σ H Q ⟨r, h, L, A, q⟩ => ?_
  obtain ⟨r0, h0, L0, A0, q0⟩ := tML_step (ma := ms) A q
  refine ⟨r0, h0, L0, A0, q0.imp fun vs H1 ⟨r2, h2, ws2, A2, G2, q2, q3⟩ => ?_⟩
  split at q3
  · rename_i hl
    exact sp_of A2.rep q2 .nil hl q3
  · exact q3.elim
end
/-! ### the law itself -/
/-- the script alone is tracked (or nothing) -/
structure Lone (K : PySem.W.Frag) (P : Program) (w : World) (a : Addr) (vs : List Value) (ns : List Int) (h : Heap) (H : Hp) : Prop where
  ok : HOk P w H h
  sq : SqL K H a (ns.map V.int)
  at_ : ∀ b u, H b = some u → b = a ∧ K.lookup a = none ∧ ∃ o xs, u = .frz o (.lst xs)
theorem lone_of {K : PySem.W.Frag} {P : Program} {w : World} {a : Addr} {vs : List Value} {ns : List Int} {h : Heap} (KX : K.In h) (ha : h.get? a = some { cls := .type "list", data := .seq vs.toArray }) (hi : IntsAre vs ns) (hl : ns.length ≤ sizeLine) : ∃ H, Lone K P w a vs ns h H := by
  have rv := vals_ints hi
  have len := hi.length
  cases hk : K.lookup a with
  | some o =>
    have e := (KX a o hk).symm.trans ha
    cases e
    have no : ∀ {u : HO} {p : Prop}, (none : Option HO) = some u → p := fun z => by cases z
    exact ⟨fun _ => none, ⟨fun _ _ z => no z, .inr ⟨_, vs.toArray, _, hk, rfl, rfl, rfl, by rw [List.size_toArray, len]; exact hl, by simpa using rv⟩, fun _ _ z => no z⟩⟩
  | none =>
    refine ⟨upd (fun _ => none) a (.frz { cls := .type "list", data := .seq vs.toArray } (.lst (ns.map V.int))), ⟨fun b u z => ?_, .inl (.inr ⟨_, upd_same⟩), fun b u z => ?_⟩⟩
    · by_cases hb : b = a
      · subst hb
        rw [upd_same] at z
        cases z
        exact ⟨ha, by rw [List.length_map]; exact hl, vs, _, rv, ha⟩
      · rw [upd_ne hb] at z; cases z
    · by_cases hb : b = a
      · subst hb
        rw [upd_same] at z
        cases z
        exact ⟨rfl, hk, _, _, rfl⟩
      · rw [upd_ne hb] at z; cases z
theorem law_callG {P : Program} {w : World} {K : PySem.W.Frag} {mg mb : Str → Option Value} {k : Nat} {fa a : Addr} {fd : FuncData} {x : Str} {sp : Sp} {s₁ : Shared} {vs : List Value} {ns : List Int} (KX : K.In s₁.heap) (hns : s₁.heap.Ns mainGlobals mg) (hb : s₁.heap.Ns builtinsNs mb)
    (hbb : ∀ x : Str, x ≠ "__name__" → mb x = bootBuiltins x) (hlim : s₁.heap.NoLimit) (hg : s₁.gens = #[]) (ha : s₁.heap.get? a = some { cls := .type "list", data := .seq vs.toArray }) (hi : IntsAre vs ns) (hl : ns.length ≤ sizeLine) (hr : Room k callerA)
    (F : ∀ base : Heap, K.In base → base.Ns mainGlobals mg → FnG P w K mg base L2.CX0 k fa fd [x] sp) (hbind : ∀ (s : Shared) (u : Value), BindsTo s fd ⟨[u], []⟩ [(x, u)]) (hsp : ∀ H : Hp, SqL K H a (ns.map V.int) → sp [.ref a] H (fun v _ => v = .bl true) fun _ _ _ => False) :
    codeAny (model P w) callerA (.call (.ref fa) ⟨[.ref a], []⟩) (fun r s' => r = .ok (.ret (.bool true)) ∧ OldK s₁.heap s'.heap ∧ s'.os = s₁.os ∧ AllBare s'.gens) s₁ := by
  obtain ⟨H, L⟩ := lone_of (P := P) (w := w) KX ha hi hl
  have keep : ∀ {b : Addr} {o : Obj}, s₁.heap.get? b = some o → (b = a → K.lookup a ≠ none ∨ ∃ es ep, o.data = .dict es ep) → (hidT s₁.heap H).get? b = some o := fun {b o} e hne => hidT_get e (by
    cases q : H b with
    | none => rfl
    | some u =>
      obtain ⟨rfl, hk, _⟩ := L.at_ b u q
      rcases hne rfl with z | ⟨es, ep, z⟩
      · exact absurd hk z
      · rw [ha] at e; cases e; cases z)
  have nsK : ∀ {b : Addr} {m : Str → Option Value}, s₁.heap.Ns b m → (hidT s₁.heap H).Ns b m := fun ⟨o, es, ep, e, d, r⟩ => ⟨o, es, ep, keep e fun _ => .inr ⟨es, ep, d⟩, d, r⟩
  have hKb : K.In (hidT s₁.heap H) := fun b o e => keep (KX b o e) fun z => .inl (by rw [← z, e]; exact fun y => nomatch y)
  have hM : Mod K mg (hidT s₁.heap H) := ⟨hKb, nsK hns, ⟨mb, nsK hb, hbb⟩, let ⟨mc, h1, h2⟩ := hlim; ⟨mc, nsK h1, h2⟩⟩
  have nil : ∀ {b : Addr}, b ∉ frs ([] : List Env) := fun {b} hb => absurd (show b ∈ ([] : List Addr) from hb) List.not_mem_nil
  have e0 : Env0 P w K mg (hidT s₁.heap H) callerA [] s₁ H := ⟨rfl, hM, fun b o e => of_hidT e, Nat.le_of_eq (hidT_size _ _), trivial, fun b hb => (nil hb).elim, L.ok, .of_eq hg⟩
  refine codeAny_mono ((F _ hKb (nsK hns)).run callerA rfl [] s₁ H ⟨[.ref a], []⟩ [.ref a] [.ref a] _ _ hr e0 (hbind s₁ (.ref a)) (.cons rfl .nil) (hsp H L.sq)) fun r s' h => ?_
  cases r with
  | error e => exact h.elim
  | ok fl =>
    cases fl with
    | ret u =>
      obtain ⟨v, H', os, bare, un, hok', r', q⟩ := h
      have q' : v = .bl true := q
      subst q'
      obtain rfl : u = Value.bool true := r'
      refine ⟨rfl, OldK.of_keep fun b o e => ?_, os, bare⟩
      cases q : H b with
      | none => exact un.keep b o e q nil (by simp)
      | some u =>
        obtain ⟨_, _, ob, xs, rfl⟩ := L.at_ b u q
        have e1 := (L.ok b _ q).1
        rw [e] at e1
        cases e1
        exact (hok' b _ (un.frzs b _ _ q)).1
    | _ => exact h.elim
theorem walk_ofG {l : PySem.W.OpenLaw} {n k : Nat} {q : Program} {loose : List Str} {XP : (Str → Option Value) → Heap → Prop} {YP : World → Heap → Prop} {d : DefRec} {x : Str}
    (hn : l.most = some n) (hn2 : n ≤ sizeLine) (hdf : d.params.defaults = []) (hr : Room k callerA)
    (F : ∀ (w : World) (mg : Str → Option Value) (fa : Addr) (h : Heap), YP w h → h.Ns mainGlobals mg → mg d.name = some (.ref fa) →
      ∃ (K : PySem.W.Frag) (fd : FuncData) (sp : Sp), K.In h ∧ (∀ (s : Shared) (u : Value), BindsTo s fd ⟨[u], []⟩ [(x, u)]) ∧
        (∀ (H : Hp) (a : Addr) (ns : List Int), SqL K H a (ns.map V.int) → sp [.ref a] H (fun v _ => v = .bl true) fun _ _ _ => False) ∧
        ∀ base : Heap, K.In base → base.Ns mainGlobals mg → FnG l.prog w K mg base L2.CX0 k fa fd [x] sp) :
    PySem.W.WalkO q loose XP YP l.row.toRowW d [] (fun f vs => PySem.call f vs) := by
  refine Att.attach_call hn hdf fun w s₀ s₁ mg mb fa o pm cd doc a vs ns G Y ho hd hcd hmg hobj hints hlen hg => ?_
  obtain ⟨K, fd, sp, KX, hb, hsp, hF⟩ := F w mg fa _ Y G.T.g hmg
  exact law_callG KX G.T.g G.T.b G.T.builtins G.T.nolimit hg hobj hints (Nat.le_trans hlen hn2) hr hF hb fun H hS => hsp H a ns hS
theorem law_cx0G {P : Program} {w : World} {K : PySem.W.Frag} {mg : Str → Option Value} {base : Heap} {k : Nat} {fa : Addr} {fd : FuncData} {ps : List Str} {sp : Sp} (F : FnG P w K mg base (L2.CX P w) k fa fd ps sp) : FnG P w K mg base L2.CX0 k fa fd ps (fun vs H Q _ => sp vs H Q fun _ _ _ => False) :=
  ⟨fun vs H Q _ h => F.len vs H Q _ h, fun A hg outer s H args us vs Q _ hr e0 b rv h => codeAny_mono (F.run A hg outer s H args us vs Q _ hr e0 b rv h) fun z s' q => by
    cases z with
    | ok fl => cases fl <;> exact q
    | error e =>
      obtain ⟨_, _, _, _, _, _, _, _, _, _, _, _, ff⟩ := q
      exact ff.elim⟩
end MR
/-! MRepr: repr of none, truths, numbers, texts, rows and tuples of such, of an empty dict. -/
namespace MR
open PySem PySem.Spec PyProof.Rows L2
def rRepr (K : PySem.W.Frag) (xs : List V) (H : Hp) (Q : VK) : Prop := ∃ x, xs = [x] ∧
  ((∃ d : PyData, Dp K H x d ∧ d.showable = true ∧ d.hasDict = false ∧ d.depth ≤ 64 ∧ d.shown.length ≤ sizeLine ∧ Q (.str d.shown) H) ∨ (∃ a, x = .ref a ∧ H a = some (.dK []) ∧ Q (.str "{}") H))
section
variable {X : Cx}
theorem call_repr (hgd : X.A.guards = some []) (hun : X.A.units + 200 < cLine) : CallR X (.builtin "repr") (rRepr X.K) := by
  intro pins s σ H xs us Q I r h
  obtain ⟨x, rfl, h⟩ := h
  obtain ⟨u, rfl, rx⟩ := vals1 r
  have done : ∀ {z : Str} {t' : Tok} {k : Nat} {h' : Heap}, (∀ b o, s.heap.get? b = some o → h'.get? b = some o) → Q (.str z) H → EP X pins σ Q (.str z t') { s with heap := h', toks := k } := fun kk q => ⟨.str _, H, I.kept kk, ⟨_, rfl⟩, q⟩
  rcases h with ⟨d, D, hs, hnd, hdp, hl, q⟩ | ⟨a, rfl, ha, q⟩
  · have ref : ∀ a, u = .ref a → wpAny (model X.prog X.w) X.A (call (.builtin "repr") [u]) (EP X pins σ Q) X.xe s := fun a ea => by
      subst ea
      obtain ⟨as, rd⟩ := D.reads I d _ _ rx
      exact repr_of_reads' rd hs (PyData.noDict_hsm hnd) hgd (by omega) (fun _ _ e => e) (fun h' u tk kk => done kk q) hl
    cases D with
    | non => cases rx; exact PySem.P.repr_of_none (done (fun _ _ e => e) q)
    | bl b => cases rx; exact PySem.P.repr_of_bool (done (fun _ _ e => e) q)
    | int i =>
      obtain ⟨t, rfl⟩ := (show ∃ t, u = Value.int i t from rx)
      exact PySem.P.repr_of_int (of_decide_eq_true hs) (done (fun _ _ e => e) q)
    | str z =>
      obtain ⟨t, rfl⟩ := (show ∃ t, u = Value.str z t from rx)
      exact PySem.P.repr_of_str (done (fun _ _ e => e) q) hl
    | lst _ _ => exact ref _ rx
    | tup _ _ => exact ref _ rx
  · obtain rfl : u = Value.ref a := rx
    obtain ⟨_, hsm, vs, rk, o, es, ep, e1, e2, e3, _, e5, _⟩ := dk_of I.hok ha
    cases rk
    have ee : es.toList = [] := by
      generalize es.toList = l at e5
      cases e5; rfl
    have rd : Reads s.heap (.ref a) (.dict []) (a :: [] ++ []) := Reads.dict e1 e2.1 e3 (by rw [ee]; exact .nil) (by rw [ee]; exact .nil)
    refine repr_of_reads' (d := .dict []) rd (by simp [PyData.showable, PyData.showableKv]) (fun _ hm => ?_) hgd (by simp [PyData.depth, PyData.depthKv]; omega) (fun _ _ e => e) (fun h' u tk kk => done kk q) (by decide +kernel)
    have : sysModules = a := by simpa using hm
    rw [← this] at hsm
    simp at hsm
end
def vS (z : Str) : List Nat := z.cps.toList
theorem sV_vS (z : Str) : sV (vS z) = z := by
  obtain ⟨a⟩ := z
  simp [sV, vS]
def shW (d : PyData) (h : Hq) : Rs := if d.showable = true ∧ d.shown.length ≤ lineN then .ok (.str (vS d.shown)) h else .bad
def bRepr : Fn := fun ws h => match ws with
  | [w] => (match toD h 24 w with
    | some d => shW d h
    | none => (match w with
      | .cell n => (match h[n]? with
        | some (.dk false []) => .ok (.str [123, 125]) h
        | _ => .bad)
      | _ => .bad))
  | _ => .bad
section
variable {g : Gm} {Wx : WX}
theorem repr_S : CallS g Wx (rRepr g.K) bRepr := by
  intro r h H σ ws vs Q R q x
  unfold bRepr at x
  split at x
  · rename_i w
    obtain ⟨v, rfl, q1⟩ := RVs.one_inv q
    refine ⟨v, rfl, ?_⟩
    split at x
    · rename_i d ed
      unfold shW at x
      split at x
      · rename_i hc
        obtain ⟨a1, a2⟩ := toD_shaped 24 w d ed
        exact .inl ⟨d, Dp_of R 24 w v d q1 ed, hc.1, PyData.hasDict_of_canLay d a1, by omega, by rw [lineN_eq]; exact hc.2, x.done R (by simp only [RV, sV_vS])⟩
      · exact x.elim
    · split at x
      · rename_i n
        split at x
        · rename_i en
          obtain ⟨p, o, rfl, rp, hp, ks, lo, rk⟩ := cell_at R q1 en
          have lo : o = .dK ks := lo
          subst lo
          have : ks = [] := rk
          subst this
          exact .inr ⟨p, rfl, hp, x.done R (by simp only [RV]; rfl)⟩
        · exact x.elim
      · exact x.elim
  · exact x.elim
end
end MR
/-! MKw3: classes made by keywords alone; methods told by keywords alone. -/
namespace MR
open PySem PySem.Spec PyProof.Rows L2
section
variable {X : Cx} {g : Gm} {Wx : WX} {a : Expr} {ma mk : M} {pos apos p : Pos} {k : Nat} {kws : List Keyword}
theorem makeK0_ok {x : Str} {cc : Nat} {fa : Addr} {n : Nat} {ks : List Str} {idx : List Nat} {f : Fn} {mw : List W} (hk : Kx X g Wx) (hr : Room (k + 1) X.A) (cm : CalK X.prog X.w g X.mg X.base k fa 1 ks idx n f mw) (maker : Mk g.K (g.ca cc) fa) (cl : Cls g.K (g.ca cc)) (hg : Gl X x) (hm : X.mg x = some (.ref (g.ca cc))) (hkw : PKM X g Wx kws mk)
    (hall : (backToKw pos (keywordEach kws X.env)).all (·.1.isSome) = true := by rfl) (hks : (backToKw pos (keywordEach kws X.env)).filterMap (·.1) = ks := by rfl) (hdb : (x == ("__debug__" : Str)) = false := by decide)
    (hpl : ((backTo pos (starEach [] X.env)).any (·.1) || (backToKw pos (keywordEach kws X.env)).any (·.1.isNone)) = false := by rfl) :
    PEM X g Wx (.Call (.Name x p) [] kws pos) (mMakeK cc n 1 ks.length idx f mw mNil mk) := ⟨fun pn s σ H Q I ⟨r, h, L, A, q⟩ => by
  obtain ⟨fd, ps, mv, mvs, F, hb, hw⟩ := cm.ex
  have M := maker
  rw [← hk.hK] at F hb M
  have q0 : Aft g Wx σ ((mk L h).bindL fun zs h2 => if ([] : List W).length + 1 = 1 ∧ zs.length = ks.length ∧ (pick idx ((W.cell h2.length :: []) ++ mw ++ zs)).length = n then (f (pick idx ((W.cell h2.length :: []) ++ mw ++ zs)) (h2 ++ [.ins cc []])).bind fun x h3 => if isNon x then .ok (.cell h2.length) h3 else .bad else .bad) r H Q := q
  obtain ⟨r2, h2, L2', A2, q2⟩ := tML_step (ma := mk) A q0
  refine wpAny_Call_Name_kw (ld_glob I hg hm ?_ hdb)
  refine PySem.W.callWith_KW0 (h₀ := X.base) I.ok.mod.kin M.kp hall (thn (hkw.pk.run pos pn s σ H _ I ⟨r2, h2, L2', A2, q2⟩) fun wz s2 ⟨zs, H2, I2, rz, r3, h3, ws3, A3, G3, x3, q3⟩ => ⟨I2.kIn, ?_⟩) hpl
  rw [hks]
  split at q3
  · rename_i hc
    obtain ⟨_, c2, c3⟩ := hc
    have l2 : zs.length = ks.length := by rw [← x3.len]; exact c2
    refine makeK_at (us := []) (vs := []) M F hr hb (passAt hk.tk σ) I2 .nil rz rfl l2 fun x dx hx hdx hne => ?_
    have R := A3.rep
    have hx1 : (upd H2 dx (.own x)) x = none := by rw [upd_ne (Ne.symm hne)]; exact hx
    have g2 : Gro r3 (upd H2 dx (.own x)) (r3 ++ [x]) (upd (upd H2 dx (.own x)) x (.ins (g.ca cc) dx [])) := Gro.cell hx1
    have R1 : Rep g r3 h3 (upd H2 dx (.own x)) := R.upd hdx
    have R2 : Rep g (r3 ++ [x]) (h3 ++ [.ins cc []]) (upd (upd H2 dx (.own x)) x (.ins (g.ca cc) dx [])) := R1.cell hx1 ⟨⟨dx, [], rfl, rfl⟩, cl, fun _ hq => by cases hq⟩
    have gg := (Gro.upd (r := r3) hdx).trans g2
    have xx : RVs g.K (r3 ++ [x]) (upd (upd H2 dx (.own x)) x (.ins (g.ca cc) dx [])) ((W.cell h3.length :: []) ++ mw ++ ws3) ((V.ref x :: []) ++ mvs ++ zs) :=
      ((RVs.cons (RV.new R1) RVs.nil).app (hw _ _)).app (RVs.gro gg _ _ x3)
    refine ⟨_, _, _, R2, xx.pick idx, c3, ?_⟩
    cases ef : f (pick idx ((W.cell h3.length :: []) ++ mw ++ ws3)) (h3 ++ [.ins cc []]) with
    | bad => rw [ef] at q3; exact q3.elim
    | ex c fs h4 =>
      rw [ef] at q3
      exact fun r4 H4 cls d G4 R4 x4 => q3 r4 H4 cls d (gg.trans G4) R4 x4
    | ok y h4 =>
      rw [ef] at q3
      intro r4 H4 v G4 R4 q4
      have q3 : Aft g Wx σ (if isNon y then .ok (.cell h3.length) h4 else .bad) r3 H2 Q := q3
      split at q3
      · rename_i hn
        have hv := isNon_at q4
        rw [hn] at hv
        refine ⟨of_decide_eq_true hv.symm, q3 r4 H4 (.ref x) (gg.trans G4) R4 ?_⟩
        simp only [RV]
        exact ⟨x, rfl, G4.at_ (by rw [← R.len]; simp)⟩
      · exact q3.elim
  · exact q3.elim⟩
/-- o.x(k = v, ..), o of the class c -/
def mMethK (c n nk : Nat) (idx : List Nat) (f : Fn) (mw : List W) (ma mk : M) : M := fun L h => (ma L h).bind fun o h1 => match insOf o h1 with
  | some (_, c', _) => if c' = c then (mk L h1).bindL fun zs h2 => if zs.length = nk ∧ (pick idx ([o] ++ mw ++ zs)).length = n then f (pick idx ([o] ++ mw ++ zs)) h2 else .bad else .bad
  | none => .bad
theorem methK_ok {pl : Sem Bool} {x : Str} {c n : Nat} {fa : Addr} {ks : List Str} {idx : List Nat} {f : Fn} {mw : List W} (hk : Kx X g Wx) (hr : Room k X.A) (cm : CalK X.prog X.w g X.mg X.base k fa 1 ks idx n f mw) (mt : Meth g.K (g.ca c) x fa) (ha : PEM X g Wx a ma) (hkw : PKM X g Wx kws mk)
    (hall : (backToKw pos (keywordEach kws X.env)).all (·.1.isSome) = true := by rfl) (hks : (backToKw pos (keywordEach kws X.env)).filterMap (·.1) = ks := by rfl)
    (hpl : ((backTo pos (starEach [] X.env)).any (·.1) || (backToKw pos (keywordEach kws X.env)).any (·.1.isNone)) = false := by rfl)
    (ht : eval (.Call (.Attribute a x apos) [] kws pos) X.env = (do let ov ← eval a X.env; standAt apos.atName; let (fv, first) ← holding [ov] (getMethod ov x pl); callWith pos fv first (backTo pos (starEach [] X.env)) (backToKw pos (keywordEach kws X.env))) := by rfl) :
    PEM X g Wx (.Call (.Attribute a x apos) [] kws pos) (mMethK c n ks.length idx f mw ma mk) := ⟨fun pn s σ H Q I ⟨r, h, L, A, q⟩ => by
  obtain ⟨r0, h0, L0, A0, q0⟩ := tM_step (ma := ma) A q
  refine PySem.W.methodCall_KW (pl := pl) (thn (ha.run pn s σ H _ I ⟨r0, h0, L0, A0, q0⟩) fun u s1 ⟨v, H1, I1, rx, r1, h1, w, A1, G1, x1, q1⟩ => ?_) ht
  cases ei : insOf w h1 with
  | none => rw [ei] at q1; exact q1.elim
  | some z =>
    obtain ⟨nn, c', fs⟩ := z
    rw [ei] at q1
    obtain ⟨pa, dx, gs, rfl, _, hp, h2, h3, h4⟩ := insOf_at A1.rep x1 ei
    cases rx
    by_cases hc : c' = c
    · simp only [if_pos hc] at q1
      subst hc
      obtain ⟨fd, ps, mv, mvs, F, hb, hw⟩ := cm.ex
      have nf := no_fld mt h2 h4
      rw [← hk.hK] at F hb mt h3
      refine getmeth_ok I1 hp h3 mt nf ?_
      obtain ⟨r2, h5, L2, A2, q2⟩ := tML_step (ma := mk) A1 q1
      refine PySem.W.callWith_KW0 (first := [.ref pa]) (h₀ := X.base) I.ok.mod.kin mt.kp hall (thn (hkw.pk.run pos pn s1 σ H1 _ I1 ⟨r2, h5, L2, A2, q2⟩) fun wz s2 ⟨zs, H2, I2, rz, r3, h6, ws, A3, G3, x3, q3⟩ => ⟨I2.kIn, ?_⟩) hpl
      rw [hks]
      split at q3
      · rename_i hl
        obtain ⟨c2, c3⟩ := hl
        have l2 : zs.length = ks.length := by rw [← x3.len]; exact c2
        have l3 : wz.length = ks.length := rz.length.symm.trans l2
        have xx : RVs g.K r3 H2 ([w] ++ mw ++ ws) ([V.ref pa] ++ mvs ++ zs) := ((RVs.cons (RV.gro G3 _ _ x1) RVs.nil).app (hw _ _)).app x3
        have sq : spM g n f (pick idx ([V.ref pa] ++ mvs ++ zs)) H2 Q (WE Wx σ) := ⟨r3, h6, _, A3.rep, xx.pick idx, c3, by
          cases ef : f (pick idx ([w] ++ mw ++ ws)) h6 with
          | ok y h' => rw [ef] at q3; exact q3
          | ex c fs h' => rw [ef] at q3; exact q3
          | bad => rw [ef] at q3; exact q3⟩
        have rr : Vals [V.ref pa] [Value.ref pa] := .cons rfl .nil
        refine wpAny_call (codeAny_mono (F.run X.A X.stack s2 H2 ⟨[Value.ref pa] ++ [], ks.zip wz⟩ _ _ Q (WE Wx σ) hr I2.env0 (hb.to s2 [Value.ref pa] wz I2.kIn rfl l3) (hb.rel rr rz) sq) fun z s' hq => ?_)
        cases z with
        | error y => exact passAt hk.tk σ pn H2 s2 y s' I2 hq
        | ok fl => cases fl with
          | ret u => exact I2.after hq
          | _ => exact hq.elim
      · exact q3.elim
    · simp only [if_neg hc] at q1; exact q1.elim⟩
end
end MR
/-! MHook: a head that also tells the interpreter's own statics (readsIn looks there). -/
namespace MR
open PySem PySem.Spec PyProof.Rows L2
structure SaysY (fa : List He.Fa) (fn : List He.DefD) (ts : List He.Tab) (ex : PySem.W.Frag → Bool) (w : World) (K : PySem.W.Frag) : Prop where
  t : He.SaysT fa fn ts w K
  more : ex K = true
def kY (g : Addr → Option Obj) (n : Nat) : PySem.W.Frag := He.frT g (He.asD g n ++ [cStatics])
def obsY (n : Nat) (fa : List He.Fa) (fn : List He.DefD) (ts : List He.Tab) (ex : PySem.W.Frag → Bool) (g : Addr → Option Obj) : He.AlX := (He.obsT fa fn ts (kY g n), ex (kY g n))
def hookY (n : Nat) (fa : List He.Fa) (fn : List He.DefD) (ts : List He.Tab) (ex : PySem.W.Frag → Bool) : PySem.W.Hook where
  α := He.AlX
  obs := fun s => obsY n fa fn ts ex s.heap.get?
  val := fun w => (He.valT fn ts w, true)
  says := fun w h => ∃ K : PySem.W.Frag, K.In h ∧ SaysY fa fn ts ex w K
  of := fun _ _ e => ⟨_, He.frT_in, ⟨congrArg (fun z : He.AlX => z.1) e, congrArg (fun z : He.AlX => z.2) e⟩⟩
  keeps := fun _ _ _ ⟨K, hK, c⟩ k => ⟨K, PySem.W.Frag.In.keeps hK k, c⟩
theorem obsY_eq {n : Nat} {fa : List He.Fa} {fn : List He.DefD} {ts : List He.Tab} {ex : PySem.W.Frag → Bool} {g : Addr → Option Obj} {s : Shared} (h : ∀ a, g a = s.heap.get? a) : obsY n fa fn ts ex g = (hookY n fa fn ts ex).obs s := by
  have e : g = s.heap.get? := funext h
  subst e
  rfl
end MR
/-! MTry2: except (C1, C2) as n. -/
namespace MR
open PySem PySem.Spec PyProof.Rows L2
/-- an exception that flies stays so where the heap grows -/
theorem fly_keep {B h h' : Heap} {l : List Env} {a : Addr} {Z : Obj → Prop} (k : ∀ b o, h.get? b = some o → h'.get? b = some o) (f : HandSPX.FlyingZ B l a Z h) : HandSPX.FlyingZ B l a Z h' := by
  obtain ⟨f1, f2, f3, oe, vs, T, oT, ts, e1, e2, e3, e4, e5, e6, e7, e8⟩ := f
  exact ⟨fun b o e => k b o (f1 b o e), f2, f3.of_keeps fun b o e _ => ⟨o, k b o e, rfl⟩, oe, vs, T, oT, ts, k _ _ e1, e2, e3, e4, e5, e6, k _ _ e7, e8⟩
def endsU (i : Nat) (D : Ends) : Ends := { nx := fun σ' H' => D.nx (σ'.set i none) H', rt := D.rt, bk := fun σ' H' => D.bk (σ'.set i none) H', ct := fun σ' H' => D.ct (σ'.set i none) H' }
def wAs2 (K : PySem.W.Frag) (c1 c2 : Value) (i : Nat) (ts : Addr → Value → Option Addr → TS) (Wout : WX) (D : Ends) : WX := fun cls d σ H =>
  ∃ b, PySem.W.exmAny K cls [c1, c2] = some b ∧ (b = true → ∀ a, H a = none → ts a cls d (endsU i D) (σ.set i (some (.ref a))) H) ∧ (b = false → Wout cls d σ H)
section
variable {X : Cx} {x1 x2 n : Str} {c1 c2 : Value} {i kk : Nat} {body suite : List Stmt} {b₀ : Stmt} {p1 p2 tp pos pos' : Pos} {tb : WX → TS} {ts : Addr → Value → Option Addr → TS} {Wout : WX}
theorem name_test {x : Str} {c : Value} {np : Pos} {a : Addr} {oe : Obj} {pn : List (Addr × Obj)} {σ : Sl} {H : Hp} {s : Shared} {Q : Value → Shared → Prop} {E : Value → Shared → Prop} (hc : Names X x c) (S : Inv (X.suite a ((a, oe) :: pn)) [] σ H s) (q : Q c s) :
    wpAny (model X.prog X.w) (X.A.mark (some (.ref a))) (eval (.Name x np) X.env) Q E s := by
  obtain ⟨hg, hdbg, hm | ⟨hm, hv, hnn⟩⟩ := hc
  · exact ld_glob (X := X.suite a ((a, oe) :: pn)) S hg hm q hdbg
  · exact ld_blt (X := X.suite a ((a, oe) :: pn)) S hg hm hv q hnn hdbg
theorem ps_tryT (hs : X.stack = X.env :: X.outer) (hf : X.env.frame = some X.env.locals) (hN : X.N.Nodup) (hi : X.N[i]? = some n) (hln : X.env.kindOf n = some .local) (hc1 : Names X x1 c1) (hc2 : Names X x2 c2) (tk : Takes X Wout)
    (hb : ∀ (W : WX) (pn : List (Addr × Obj)) (xe : Value → Shared → Prop), Takes (X.tr pn xe) W → PassesOwn (model X.prog X.w) X.A X.env xe → PSs (X.tr pn xe) body (tb W))
    (hsu : ∀ (a : Addr) (oe : Obj) (cls : Value) (d : Option Addr) (pn : List (Addr × Obj)), Zc cls d oe → (∃ vs, oe.data = .fields vs) → PSs (X.suite a ((a, oe) :: pn)) (b₀ :: suite) (ts a cls d)) :
    PS X (.Try body [.ExceptHandler (some (.Tuple [.Name x1 p1, .Name x2 p2] kk tp)) (some n) (b₀ :: suite) pos'] [] [] pos) (fun D σ H => tb (wAs2 X.K c1 c2 i ts Wout D) D σ H) := by
  refine ⟨fun pins s σ H D I h => ?_⟩
  have ok := I.ok
  have hfr : X.A.frames = some (X.env :: X.outer) := by rw [ok.frames, hs]
  refine wpAny_Try_except (wpAny_mono ((hb (wAs2 X.K c1 c2 i ts Wout D) (X.pn ++ pins) (fun e s₁ => wpAny (model X.prog X.w) X.A (noteFrame e X.env) (fun _ s₂ => wpAny (model X.prog X.w) X.A (setFlight e none) (fun _ s₃ =>
    wpAny (model X.prog X.w) X.A (handleBy e X.env [.ExceptHandler (some (.Tuple [.Name x1 p1, .Name x2 p2] kk tp)) (some n) (b₀ :: suite) pos']) (SP X pins D) X.xe s₃) X.xe s₂) X.xe s₁) (fun u s' xx => ?_) PassesOwn.looking).run [] s σ H D (I.toTry _) h) (fun f s1 hsp => ?_) fun _ _ he => he)
  · obtain ⟨a, B, sI, pins', σ', H', cls, d, rfl, J', nb, up, sky, na, os, ag, b, hb1, hyes, hno⟩ := xx
    have J : Inv X pins σ' H' sI := J'.ofTry ok
    show wpAny (model X.prog X.w) X.A (noteFrame (.ref a) X.env) _ _ _
    refine Sky.land (E₁ := X.xe) (env := X.env) (outer := X.outer) Zc.steady hfr hf (by rw [← hs]; exact sky) fun h3 fl3 up3 => ?_
    have land : ∀ {h4 : Heap}, HandSPX.FlyingZ B (X.env :: X.outer) a (Zc cls d) h4 → sI.heap.UpToSlots h4 → ∃ (oe : Obj) (vs : Array Value), h4.get? a = some oe ∧ Zc cls d oe ∧ oe.data = .fields vs ∧ a ≠ X.env.locals ∧ Inv X pins σ' H' { s' with heap := h4 } ∧ Inv (X.suite a ((a, oe) :: (X.pn ++ pins))) [] σ' H' { s' with heap := h4 } := fun {h4} fl4 up4 => by
      have J4 : Inv X pins σ' H' { s' with heap := h4 } := J.landed nb fl4.1 up4 os ag
      obtain ⟨oe, vs, e1, e2, e3⟩ := fl4.there
      have nfr : a ∉ frs (X.env :: X.outer) := fun hm => by
        obtain ⟨_, o', e', hnf⟩ := fl4.2.2.1.mem hm
        rw [e1] at e'
        cases e'
        exact hnf _ e3
      have nL : a ≠ X.env.locals := fun z => nfr (List.mem_filterMap.mpr ⟨X.env, List.mem_cons_self, by rw [hf, z]⟩)
      exact ⟨oe, vs, e1, e2, e3, nL, J4, J4.suite e1 e3 na nL fun hm => by
        obtain ⟨e, he, q⟩ := List.mem_filterMap.mp hm
        exact nfr (List.mem_filterMap.mpr ⟨e, List.mem_cons_of_mem _ he, q⟩)⟩
    obtain ⟨oe3, vs3, he3, hz3, hd3, nL, J3, S3⟩ := land fl3 (up.trans up3)
    refine wpAny_handleBy_cons (codeAny_handlers_test ?_) (by intro q; cases q)
    -- the tuple of the classes is laid
    have kp : ∀ q o, h3.get? q = some o → (h3.push { cls := .type "tuple", data := .seq [c1, c2].toArray }).get? q = some o := fun _ _ z => Heap.get?_push_of_some _ z
    refine wpAny_Tuple ?_
    refine wpAny_items_cons (name_test hc1 S3 ?_)
    refine wpAny_items_cons (name_test hc2 S3 ?_)
    refine wpAny_items_nil ⟨by size_fits, ?_⟩
    have LT : PySem.W.Looks (model X.prog X.w) (h3.push { cls := .type "tuple", data := .seq [c1, c2].toArray }) (typeOf (.ref a)) cls := fun A Q E s k q => wpAny_typeOf_ref (k _ _ (kp _ _ he3)) (by rw [hz3.1]; exact q)
    refine (PySem.W.exm_tup2 (J3.kIn.keeps kp) LT (Heap.get?_push_size h3 rfl) hb1).here ?_
    have fl5 := fly_keep kp fl3
    have up5 := (up.trans up3).trans (Heap.UpToSlots.of_keeps kp)
    cases b with
    | true =>
      refine codeAny_handlers_suite_as (HandSPX.lands_againZ fl5 fun h4 fl4 up4 => ?_)
      obtain ⟨oe4, vs4, he4, hz4, hd4, _, J4, S4⟩ := land fl4 (up5.trans up4)
      refine store_ok (X := X.suite a ((a, oe4) :: (X.pn ++ pins))) (v := .ref a) S4 hN hi (.inl hln) rfl (fun s5 S5 => ?_) (.inr hln)
      refine wpAny_mono ((hsu a oe4 cls d (X.pn ++ pins) hz4 ⟨_, hd4⟩).run [] s5 _ H' _ S5 (hyes rfl a na)) (fun f s6 hsp => ?_) (fun _ _ z => False.elim z)
      have done : ∀ {σ6 : Sl} {H6 : Hp} {Q : Shared → Prop}, Inv (X.suite a ((a, oe4) :: (X.pn ++ pins))) [] σ6 H6 s6 → (∀ s7, Inv X pins (σ6.set i none) H6 s7 → Q s7) →
          wpAny (model X.prog X.w) X.A (do bindName X.env n .none; unbindBehindTheSuite X.env n pos') (fun _ s7 => Q s7) X.xe s6 := fun S6 hq => gone_ok (S6.unsuite ok) hN hi hln hq
      cases f with
      | next => obtain ⟨σ6, H6, S, q⟩ := hsp; exact done S fun s7 J7 => ⟨_, _, J7, q⟩
      | brk => obtain ⟨σ6, H6, S, q⟩ := hsp; exact done S fun s7 J7 => ⟨_, _, J7, q⟩
      | cont => obtain ⟨σ6, H6, S, q⟩ := hsp; exact done S fun s7 J7 => ⟨_, _, J7, q⟩
      | ret u => obtain ⟨v6, σ6, H6, S, r, q⟩ := hsp; exact done S fun s7 J7 => ⟨_, _, _, J7, r, q⟩
    | false =>
      show wpAny _ X.A (handleBy (.ref a) X.env []) _ _ _
      refine wpAny_handleBy_nil ?_
      obtain ⟨k1, k2, k3, oe, vs, T, oT, ts', he, hz, hd, h1, hr⟩ := id fl5
      unfold PySem.passOn
      refine wpAny_bind (wpAny_field he hd h1 ?_)
      rw [if_neg (show ¬ ((Value.ref T == Value.none) = true) from by simp)]
      have fin : wpAny (model X.prog X.w) X.A (setFlight (.ref a) X.env.frame) (fun _ s4 => wpAny (model X.prog X.w) X.A (throw (.ref a) : Sem Flow) (SP X pins D) X.xe s4) X.xe { s' with heap := h3.push { cls := .type "tuple", data := .seq [c1, c2].toArray } } := by
        rw [hf]
        refine HandSPX.setFlight_upZ fl5 fun h4 hh4 up4 => wpAny_throw (tk _ _ ?_)
        exact ⟨a, B, sI, pins, σ', H', cls, d, rfl, J, nb, up5.trans up4, .inr (.inr (by rw [hs]; exact hh4)), na, os, ag, hno rfl⟩
      first
        | exact wpAny_bind (wpAny_pure (wpAny_bind fin))
        | exact wpAny_bind fin
  · cases f with
    | next => obtain ⟨σ', H', J, q⟩ := hsp; exact wpAny_execs_nil ⟨_, _, J.ofTry ok, q⟩
    | brk => obtain ⟨σ', H', J, q⟩ := hsp; exact ⟨_, _, J.ofTry ok, q⟩
    | cont => obtain ⟨σ', H', J, q⟩ := hsp; exact ⟨_, _, J.ofTry ok, q⟩
    | ret u => obtain ⟨v, σ', H', J, r, q⟩ := hsp; exact ⟨_, _, _, J.ofTry ok, r, q⟩
end
def sTryT (i : Nat) (et : Ext) (T1 T2 : TyN) (sb : MS) (ms : Nat → List (Nat × W) → MS) : MS := fun L h => match sb L h with
  | .ex c fs L1 h1 => (match et.lookup (c, T1), et.lookup (c, T2) with
    | some b1, some b2 => if (b1 || b2) = true then unset i (ms c fs (L1.set i none) h1) else .ex c fs L1 h1
    | _, _ => .bad)
  | x => x
theorem exmAny2 {K : PySem.W.Frag} {cls c1 c2 : Value} {b1 b2 : Bool} (h1 : PySem.W.exmOne K cls c1 = some b1) (h2 : PySem.W.exmOne K cls c2 = some b2) : PySem.W.exmAny K cls [c1, c2] = some (b1 || b2) := by
  simp [PySem.W.exmAny, h1, h2]
section
variable {X : Cx} {g : Gm} {Wx : WX} {pos : Pos}
theorem tryT_ok {i kk : Nat} {x1 x2 n : Str} {T1 T2 : TyN} {et : Ext} {body suite : List Stmt} {b₀ : Stmt} {p1 p2 tp pos' : Pos} {sb : MS} {ms : Nat → List (Nat × W) → MS} (hk : Kx X g Wx) (hE : ExmT g et) (hi : X.N[i]? = some n) (hc1 : Names X x1 (T1.val g)) (hc2 : Names X x2 (T2.val g))
    (hb : ∀ (W : WX) (pn : List (Addr × Obj)) (xe : Value → Shared → Prop), Kx (X.tr pn xe) g W → PassesOwn (model X.prog X.w) X.A X.env xe → PSsM (X.tr pn xe) g W body sb)
    (hsu : ∀ (a : Addr) (oe : Obj) (pn : List (Addr × Obj)) (c : Nat) (fs : List (Nat × W)) (d : Option Addr), Ksu X g a oe pn c fs d i → PSsM (X.suite a ((a, oe) :: pn)) (g.at_ fs d (some (i, a))) noWx (b₀ :: suite) (ms c fs))
    (hun : ∀ a : Addr, (X.A.mark (some (.ref a))).units = X.A.units := by intro _; rfl)
    (hs : X.stack = X.env :: X.outer := by rfl) (hf : X.env.frame = some X.env.locals := by rfl) (hln : X.env.kindOf n = some .local := by rfl) (hsp : g.sp = none := by rfl) :
    PSM X g Wx (.Try body [.ExceptHandler (some (.Tuple [.Name x1 p1, .Name x2 p2] kk tp)) (some n) (b₀ :: suite) pos'] [] [] pos) (sTryT i et T1 T2 sb ms) := by
  refine ps_imp (ps_tryT (tb := fun W => tS g W sb) (ts := fun a cls d => tsX g ms i a cls d) hs hf hk.nd hi hln hc1 hc2 hk.tk
    (fun W pn xe tk hp => hb W pn xe ⟨hk.hK, hk.nd, hk.un, tk⟩ hp) (fun a oe cls d pn hz hd => ⟨fun pins s σ H D I t => ?_⟩)) fun D σ H ⟨r, h, L, A, q⟩ => ⟨r, h, L, A, ?_⟩
  · obtain ⟨c, fs, ec, t⟩ := t
    subst ec
    exact (hsu a oe pn c fs d ⟨⟨hk.hK, hk.nd, by show (X.A.mark (some (.ref a))).units + 200 < cLine; rw [hun]; exact hk.un, fun u s' ⟨_, _, _, _, _, _, _, _, _, _, _, _, _, _, _, _, ff⟩ => ff.elim⟩, hz, hd⟩).run pins s σ H D I t
  · unfold sTryT at q
    cases eb : sb L h with
    | ex c fs L1 h1 =>
      rw [eb] at q
      simp only at q
      intro r' H' σ' cls d G A' x
      obtain ⟨ec, xp⟩ := x
      subst ec
      cases el : et.lookup (c, T1) with
      | none => rw [el] at q; exact q.elim
      | some b1 =>
        cases el2 : et.lookup (c, T2) with
        | none => rw [el, el2] at q; exact q.elim
        | some b2 =>
          rw [el, el2] at q
          have q1 : PySem.W.exmOne g.K (.ref (g.ca c)) (T1.val g) = some b1 := hE _ (lookup_mem el)
          have q2 : PySem.W.exmOne g.K (.ref (g.ca c)) (T2.val g) = some b2 := hE _ (lookup_mem el2)
          have hx := exmAny2 q1 q2
          refine ⟨b1 || b2, by rw [hk.hK]; exact hx, fun e a ha => ?_, fun e => ?_⟩
          · simp only [e, if_true] at q
            refine ⟨c, fs, rfl, r', h1, L1.set i none, ⟨A'.rep.to, A'.loc.hide i _, ⟨A'.px, xp⟩, fun j b e el => ?_⟩, ?_⟩
            · cases e
              have hl : i < L1.length := by
                have := (List.getElem?_eq_some_iff.mp el).1
                simpa using this
              rw [List.getElem?_set_self (by rw [← A'.loc.len]; exact hl)]
            · exact aft_at hsp (AftS.gro G q)
          · simp only [e, Bool.false_eq_true, if_false] at q
            exact q r' H' σ' _ d G A' ⟨rfl, xp⟩
    | nx L h' => rw [eb] at q; exact q
    | rt w h' => rw [eb] at q; exact q
    | bk L h' => rw [eb] at q; exact q
    | ct L h' => rw [eb] at q; exact q
    | bad => rw [eb] at q; exact q
end
end MR
/-! MKdLen: len of a table of the text. -/
namespace MR
open PySem PySem.Spec PyProof.Rows L2
def keyS : Value → Option Str
  | .str x _ => some x
  | _ => none
def kdLenB (K : PySem.W.Frag) (d : Addr) (m : Nat) : Bool := match K.lookup d with
  | some ⟨_, _, .dict es _, _⟩ => decide (es.size = m) && (decide ((es.toList.map fun e => keyS e.key).Nodup) && decide (m < 1000))
  | _ => false
theorem pairs_of {P : Program} {w : World} : ∀ {l : List DictEntry}, (∀ e ∈ l, ∃ x t, e.key = Value.str x t) → ∃ kvs : List (Str × Value), Pairs (PySem.strKind P w) l kvs ∧ kvs.length = l.length ∧ kvs.map (fun q => some q.1) = l.map fun e => keyS e.key
  | [], _ => ⟨[], .nil, rfl, rfl⟩
  | e :: l, h => by
    obtain ⟨x, t, ek⟩ := h e List.mem_cons_self
    obtain ⟨kvs, h1, h2, h3⟩ := pairs_of (P := P) (w := w) (l := l) fun e he => h e (List.mem_cons_of_mem _ he)
    refine ⟨(x, e.val) :: kvs, .cons (by rw [ek]; exact PySem.strKind_is P w x t) rfl h1, congrArg Nat.succ h2, ?_⟩
    rw [List.map_cons, List.map_cons, h3, ek]
    rfl
section
variable {X : Cx} {g : Gm} {Wx : WX} {p pos p2 : Pos}
theorem kdlen_ok {x : Str} {d : Addr} {m : Nat} {l : List (List Nat × W)} (hk : Kx X g Wx) (T : KTab g X.w d l) (hB : kdLenB g.K d m = true) (hgl : Gl X "len") (hml : X.mg "len" = none) (hg : Gl X x) (hm : X.mg x = some (.ref d)) (hd : (x == ("__debug__" : Str)) = false := by decide)
    (he : starEach [.Name x p2] X.env = (false, eval (.Name x p2) X.env) :: starEach [] X.env := by rfl) (hpl : (backTo pos (starEach [] X.env)).any (·.1) = false := by rfl) : PEM X g Wx (.Call (.Name "len" p) [.Name x p2] [] pos) (mC (.int m)) := by
  obtain ⟨es, n, D⟩ := T.dict
  rw [← hk.hK] at D hB
  unfold kdLenB at hB
  rw [D.at_] at hB
  simp only [Bool.and_eq_true, decide_eq_true_eq] at hB
  obtain ⟨h1, h2, h3⟩ := hB
  have hc : CallR X (.builtin "len") (fun xs H Q => xs = [.ref d] ∧ Q (.int m) H) := by
    intro pins s σ H xs us Q I r h
    obtain ⟨rfl, q⟩ := h
    obtain ⟨u, rfl, ru⟩ := vals1 r
    cases ru
    have kl := fun e (he : e ∈ es.toList) => D.lit.all e he
    obtain ⟨kvs, q1, q2, q3⟩ := pairs_of (P := X.prog) (w := X.w) (l := es.toList) fun e he => let ⟨z, t, e1, _⟩ := kl e he; ⟨z, t, e1⟩
    have nd : (kvs.map (·.1)).Nodup := by
      rw [← q3] at h2
      have : (kvs.map fun q => some q.1) = (kvs.map (·.1)).map some := by rw [List.map_map]; rfl
      rw [this] at h2
      exact (List.pairwise_map.mp h2).imp fun hne e => hne (by rw [e])
    have dd : s.heap.DictOf (PySem.strKind X.prog X.w) d kvs := ⟨_, es, n, I.kIn _ _ D.at_, ⟨rfl, rfl, rfl⟩, rfl, fun e he => by
      obtain ⟨z, t, e1, e2⟩ := kl e (Array.mem_toList_iff.mpr he)
      exact ⟨z, by rw [e1]; exact PySem.strKind_is X.prog X.w z t, e2⟩, q1, nd⟩
    have el : kvs.length = m := by rw [q2, Array.length_toList]; exact h1
    refine call_len_dict D.low dd (by rw [el]; omega) ?_
    rw [el]
    exact ⟨.int m, H, I.tok _, ⟨_, rfl⟩, q⟩
  exact pe_imp (pe_callB hc hgl hml rfl (pa_cons (pe_glob (v := .ref d) hg hm rfl hd) pa_nil he) (by decide) (by decide) he hpl) fun σ H Q ⟨r, h, L, A, q⟩ => ⟨rfl, q.done A.rep (by simp only [RV])⟩
end
end MR
namespace K07
open MR
def c_SORTS : W := (.ktup [(.str [114, 105, 110, 103]), (.str [111, 116, 104, 101, 114])])
def kt_ASKED_AGAIN : List (List Nat × W) := [([114, 105, 110, 103], (.ktup [(.int 1), (.int 3), (.int 7), (.int 15)])), ([111, 116, 104, 101, 114], (.ktup [(.int 1), (.int 3), (.int 7), (.int 11), (.int 15)]))]
def kt_ANSWERS : List (List Nat × W) := [([114, 105, 110, 103], (.ktup [(.str [114, 105, 110, 103, 115]), (.str [116, 97, 107, 101, 110]), (.str [110, 111])])), ([111, 116, 104, 101, 114], (.ktup [(.str [100, 111, 110, 101]), (.str [110, 111])]))]
def c_LIFE : W := (.int 16)
def c_QUIET : W := (.int 4)
def c_RINGING : W := (.int 40)
def c_SAID_AGAIN : W := (.ktup [(.int 1), (.int 3), (.int 7), (.int 11), (.int 15)])
def kt_LAST_BEAT : List (List Nat × W) := [([116, 111, 111, 107], (.int 16)), ([116, 111, 108, 100], (.int 16)), ([113, 117, 105, 101, 116], (.int 4))]
def exmT : Ext := [((0, .own 2), false), ((0, .own 3), false), ((2, .own 2), true), ((2, .own 3), false), ((3, .own 2), false), ((3, .own 3), true)]
def isXT : Ext := [((0, .own 2), false), ((0, .own 3), false), ((0, .ty "ValueError"), true), ((2, .own 2), true), ((2, .own 3), false), ((2, .ty "ValueError"), true), ((3, .own 2), false), ((3, .own 3), true), ((3, .ty "ValueError"), true)]
def xcs : List Nat := [2, 3]
def kitT : List ((TyN × TyN) × Bool) := [((.ty "str", .ty "str"), true), ((.ty "str", .own 22), false), ((.ty "str", .own 23), false), ((.ty "str", .ty "ValueError"), false), ((.ty "int", .ty "str"), false), ((.ty "int", .own 22), false), ((.ty "int", .own 23), false), ((.ty "int", .ty "ValueError"), false), ((.ty "bool", .ty "str"), false), ((.ty "bool", .own 22), false), ((.ty "bool", .own 23), false), ((.ty "bool", .ty "ValueError"), false), ((.ty "tuple", .ty "str"), false), ((.ty "tuple", .own 22), false), ((.ty "tuple", .own 23), false), ((.ty "tuple", .ty "ValueError"), false), ((.ty "list", .ty "str"), false), ((.ty "list", .own 22), false), ((.ty "list", .own 23), false), ((.ty "list", .ty "ValueError"), false), ((.ty "dict", .ty "str"), false), ((.ty "dict", .own 22), false), ((.ty "dict", .own 23), false), ((.ty "dict", .ty "ValueError"), false), ((.ty "NoneType", .ty "str"), false), ((.ty "NoneType", .own 22), false), ((.ty "NoneType", .own 23), false), ((.ty "NoneType", .ty "ValueError"), false), ((.own 22, .ty "str"), false), ((.own 22, .own 22), true), ((.own 22, .own 23), false), ((.own 22, .ty "ValueError"), false), ((.own 23, .ty "str"), false), ((.own 23, .own 22), false), ((.own 23, .own 23), true), ((.own 23, .ty "ValueError"), false)]
noncomputable def s_Asker_parts : MS := sRet (mLstC (mCons (mFld 3 (mVar 0)) (mCons (mFld 4 (mVar 0)) (mCons (mFld 5 (mVar 0)) (mCons (mFld 6 (mVar 0)) (mCons (mFld 7 (mVar 0)) (mNil)))))))
noncomputable def m_Asker_parts : Fn := mDef 1 s_Asker_parts
noncomputable def s_Asked_parts : MS := sRet (mLstC (mCons (mFld 3 (mVar 0)) (mCons (mFld 4 (mVar 0)) (mCons (mFld 5 (mVar 0)) (mCons (mFld 6 (mVar 0)) (mCons (mFld 9 (mVar 0)) (mCons (mFld 10 (mVar 0)) (mNil))))))))
noncomputable def m_Asked_parts : Fn := mDef 1 s_Asked_parts
noncomputable abbrev tb_parts : Nat → Option (Nat × Fn × List W) := mtOf [(22, (1, m_Asker_parts, [])), (23, (1, m_Asked_parts, []))]
noncomputable def s_Asker___eq__ : MS := sRet (mAnd (mIsi kitT (.own 22) (mVar 1)) (mBin fEq (mMeth tb_parts (mVar 0) mNil) (mMeth tb_parts (mVar 1) mNil)))
noncomputable def m_Asker___eq__ : Fn := mDef 2 s_Asker___eq__
noncomputable def s_Asked___eq__ : MS := sRet (mAnd (mIsi kitT (.own 23) (mVar 1)) (mBin fEq (mMeth tb_parts (mVar 0) mNil) (mMeth tb_parts (mVar 1) mNil)))
noncomputable def m_Asked___eq__ : Fn := mDef 2 s_Asked___eq__
noncomputable def s__law_pool : MS := sSeq (sSet 2 (mC (.int 0))) (sSeq (sIf (mBin fLt (mVar 1) (mBlt bLen (mCons (mVar 0) (mNil)))) (sSet 2 (mBin fIdx (mVar 0) (mVar 1))) (sPass)) (sSeq (sSet 3 (mBlt bAbs (mCons (mVar 2) (mNil)))) (sSeq (sSet 4 (mBin fMod (mBin fPow (mBin fAdd (mBin fAdd (mBin fAdd (mBin fMod (mVar 2) (mC (.int 2147483629))) (mBin fMulX (mBin fMulX (mC (.int 104729)) (mVar 1)) (mVar 1))) (mBin fMulX (mC (.int 7919)) (mVar 1))) (mC (.int 11))) (mC (.int 3))) (mC (.int 2147483647)))) (sRet (mLstC (mCons (mBin fMulX (mVar 3) (mBlt bInt (mCons (mBin fGe (mVar 3) (mBin fPow (mC (.int 10)) (mC (.int 18)))) (mNil)))) (mCons (mVar 4) (mNil))))))))
noncomputable def m__law_pool : Fn := mDef 5 s__law_pool
noncomputable def s__law_take : MS := sSeq (sIf (mBin fGt (mBin fIdx (mVar 0) (mC (.int 0))) (mC (.int 0))) (sSeq (sSet 2 (mBin fMod (mBin fIdx (mVar 0) (mC (.int 0))) (mVar 1))) (sSeq (sAsgT (tgI (mVar 0) (mC (.int 0))) (mBin fDiv (mBin fIdx (mVar 0) (mC (.int 0))) (mVar 1))) (sRet (mVar 2)))) (sPass)) (sSeq (sAsgT (tgI (mVar 0) (mC (.int 1))) (mBin fMod (mBin fAdd (mBin fMulX (mBin fIdx (mVar 0) (mC (.int 1))) (mC (.int 48271))) (mC (.int 11))) (mC (.int 2147483647)))) (sRet (mBin fMod (mBin fDiv (mBin fMod (mBin fMulX (mBin fIdx (mVar 0) (mC (.int 1))) (mBin fIdx (mVar 0) (mC (.int 1)))) (mC (.int 2147483629))) (mC (.int 64))) (mVar 1))))
noncomputable def m__law_take : Fn := mDef 3 s__law_take
noncomputable def s_look_at_sort : MS := sIf (mOrT (mNotT (mTru (mIsi kitT (.ty "str") (mVar 0)))) (mBin (fIn true) (mVar 0) (mC c_SORTS))) (sRaise1 2 0 (mCons (mVar 0) (mNil))) (sPass)
noncomputable def m_look_at_sort : Fn := mDef 1 s_look_at_sort
noncomputable def s_Asker___init__ : MS := sSeq (sExpr (mCall 1 m_look_at_sort [] (mCons (mVar 1) (mNil)))) (sSeq (sFldSet [22] 3 (mVar 0) (mVar 1)) (sSeq (sFldSet [22] 4 (mVar 0) (mC (.str [99, 97, 108, 108, 115]))) (sSeq (sFldSet [22] 5 (mVar 0) (mC (.int 0))) (sSeq (sFldSet [22] 6 (mVar 0) (mC .non)) (sSeq (sFldSet [22] 7 (mVar 0) (mC (.bl false))) (sFldSet [22] 8 (mVar 0) (mC (.int 0))))))))
noncomputable def m_Asker___init__ : Fn := mDef 2 s_Asker___init__
noncomputable def s_Asker_turn : MS := sSeq (sFldSet [] 4 (mVar 0) (mVar 1)) (sFldSet [] 5 (mVar 0) (mC (.int 0)))
noncomputable def m_Asker_turn : Fn := mDef 2 s_Asker_turn
noncomputable def s_Asked_turn : MS := sSeq (sFldSet [] 4 (mVar 0) (mVar 1)) (sFldSet [] 5 (mVar 0) (mC (.int 0)))
noncomputable def m_Asked_turn : Fn := mDef 2 s_Asked_turn
noncomputable abbrev tb_turn : Nat → Option (Nat × Fn × List W) := mtOf [(22, (2, m_Asker_turn, [])), (23, (2, m_Asked_turn, []))]
noncomputable def s_Asker_stopped : MS := sSeq (sExpr (mMeth tb_turn (mVar 0) (mCons (mC (.str [119, 97, 105, 116, 115])) (mNil)))) (sRet (mLstC (mCons (mC (.str [115, 116, 111, 112])) (mNil))))
noncomputable def m_Asker_stopped : Fn := mDef 1 s_Asker_stopped
noncomputable abbrev tb_stopped : Nat → Option (Nat × Fn × List W) := mtOf [(22, (1, m_Asker_stopped, []))]
noncomputable def s_Asker_give_up : MS := sSeq (sIf (mAndT (mBin fEq (mFld 3 (mVar 0)) (mC (.str [114, 105, 110, 103]))) (mBin fEq (mFld 4 (mVar 0)) (mC (.str [103, 111, 101, 115])))) (sRet (mMeth tb_stopped (mVar 0) mNil)) (sPass)) (sSeq (sIf (mAndT (mBin fEq (mFld 3 (mVar 0)) (mC (.str [114, 105, 110, 103]))) (mBin fEq (mFld 4 (mVar 0)) (mC (.str [99, 97, 108, 108, 115])))) (sFldSet [] 7 (mVar 0) (mC (.bl true))) (sPass)) (sRet (mLstC (mNil))))
noncomputable def m_Asker_give_up : Fn := mDef 1 s_Asker_give_up
noncomputable def s_Asker_finish : MS := sIf (mBin fIsN (mFld 6 (mVar 0)) (mC .non)) (sFldSet [] 6 (mVar 0) (mVar 1)) (sPass)
noncomputable def m_Asker_finish : Fn := mDef 2 s_Asker_finish
noncomputable abbrev tb_finish : Nat → Option (Nat × Fn × List W) := mtOf [(22, (2, m_Asker_finish, []))]
noncomputable def s_Asker_came_late : MS := sSeq (sExpr (mMeth tb_turn (mVar 0) (mCons (mC (.str [111, 118, 101, 114])) (mNil)))) (sSeq (sExpr (mMeth tb_finish (mVar 0) (mCons (mC (.str [108, 97, 116, 101])) (mNil)))) (sRet (mLstC (mCons (mC (.str [108, 97, 116, 101])) (mNil)))))
noncomputable def m_Asker_came_late : Fn := mDef 1 s_Asker_came_late
noncomputable abbrev tb_came_late : Nat → Option (Nat × Fn × List W) := mtOf [(22, (1, m_Asker_came_late, []))]
noncomputable def tbE : EqTb := tbOf [(22, m_Asker___eq__), (23, m_Asked___eq__)]
noncomputable def s_Asker_beat_calling : MS := sSeq (sIf (mBin (fEqA tbE) (mFld 5 (mVar 0)) (mC c_LIFE)) (sRet (mMeth tb_came_late (mVar 0) mNil)) (sPass)) (sRet (mIf (mBin (fIn false) (mFld 5 (mVar 0)) (mKd kt_ASKED_AGAIN (mFld 3 (mVar 0)))) (mLstC (mCons (mC (.str [97, 115, 107])) (mNil))) (mLstC (mNil))))
noncomputable def m_Asker_beat_calling : Fn := mDef 1 s_Asker_beat_calling
noncomputable def s_Asker_beat_last : MS := sSeq (sIf (mBin fEq (mFld 4 (mVar 0)) (mC (.str [119, 97, 105, 116, 115]))) (sRet (mMeth tb_came_late (mVar 0) mNil)) (sPass)) (sSeq (sExpr (mMeth tb_turn (mVar 0) (mCons (mC (.str [111, 118, 101, 114])) (mNil)))) (sRet (mLstC (mNil))))
noncomputable def m_Asker_beat_last : Fn := mDef 1 s_Asker_beat_last
noncomputable abbrev tb_beat_calling : Nat → Option (Nat × Fn × List W) := mtOf [(22, (1, m_Asker_beat_calling, []))]
noncomputable abbrev tb_beat_last : Nat → Option (Nat × Fn × List W) := mtOf [(22, (1, m_Asker_beat_last, []))]
noncomputable def s_Asker_beat : MS := sSeq (sFldAug [] 8 fIAdd (mVar 0) (mC (.int 1))) (sSeq (sIf (mBin fEq (mFld 4 (mVar 0)) (mC (.str [111, 118, 101, 114]))) (sRet (mLstC (mNil))) (sPass)) (sSeq (sFldAug [] 5 fIAdd (mVar 0) (mC (.int 1))) (sSeq (sIf (mBin fEq (mFld 4 (mVar 0)) (mC (.str [99, 97, 108, 108, 115]))) (sRet (mMeth tb_beat_calling (mVar 0) mNil)) (sPass)) (sSeq (sIf (mBin fEq (mFld 4 (mVar 0)) (mC (.str [103, 111, 101, 115]))) (sRet (mIf (mBin (fEqA tbE) (mFld 5 (mVar 0)) (mC c_RINGING)) (mMeth tb_stopped (mVar 0) mNil) (mLstC (mNil)))) (sPass)) (sSeq (sIf (mBin (fEqA tbE) (mFld 5 (mVar 0)) (mIf (mBin fEq (mFld 3 (mVar 0)) (mC (.str [111, 116, 104, 101, 114]))) (mC c_QUIET) (mC c_LIFE))) (sRet (mMeth tb_beat_last (mVar 0) mNil)) (sPass)) (sRet (mLstC (mNil))))))))
noncomputable def m_Asker_beat : Fn := mDef 1 s_Asker_beat
noncomputable def s_Asked_beat : MS := sSeq (sIf (mBin (fIn false) (mFld 4 (mVar 0)) (mTup (mCons (mC (.str [103, 111, 101, 115])) (mCons (mC (.str [111, 118, 101, 114])) (mNil))))) (sRet (mLstC (mNil))) (sPass)) (sSeq (sFldAug [] 5 fIAdd (mVar 0) (mC (.int 1))) (sSeq (sIf (mBin (fEqA tbE) (mFld 5 (mVar 0)) (mKd kt_LAST_BEAT (mFld 4 (mVar 0)))) (sSeq (sExpr (mMeth tb_turn (mVar 0) (mCons (mC (.str [111, 118, 101, 114])) (mNil)))) (sRet (mLstC (mNil)))) (sPass)) (sSeq (sSet 1 (mAnd (mBin fEq (mFld 3 (mVar 0)) (mC (.str [114, 105, 110, 103]))) (mAnd (mBin fEq (mFld 4 (mVar 0)) (mC (.str [116, 111, 108, 100]))) (mBin (fIn false) (mFld 5 (mVar 0)) (mC c_SAID_AGAIN))))) (sRet (mIf (mTru (mVar 1)) (mLstC (mCons (mC (.str [115, 97, 121])) (mNil))) (mLstC (mNil)))))))
noncomputable def m_Asked_beat : Fn := mDef 2 s_Asked_beat
noncomputable def s_Asker_heard_of_ring : MS := sSeq (sIf (mBin fEq (mVar 1) (mC (.str [116, 97, 107, 101, 110]))) (sSeq (sExpr (mMeth tb_turn (mVar 0) (mCons (mC (.str [116, 111, 111, 107])) (mNil)))) (sSeq (sExpr (mMeth tb_finish (mVar 0) (mCons (mC (.str [116, 97, 107, 101, 110])) (mNil)))) (sRet (mLstC (mCons (mC (.str [117, 112])) (mNil)))))) (sPass)) (sSeq (sIf (mBin fEq (mVar 1) (mC (.str [110, 111]))) (sSeq (sExpr (mMeth tb_turn (mVar 0) (mCons (mC (.str [101, 110, 100, 115])) (mNil)))) (sSeq (sExpr (mMeth tb_finish (mVar 0) (mCons (mC (.str [110, 111])) (mNil)))) (sRet (mLstC (mCons (mC (.str [115, 117, 114, 101])) (mCons (mC (.str [117, 112])) (mNil))))))) (sPass)) (sSeq (sIf (mBin fEq (mFld 4 (mVar 0)) (mC (.str [119, 97, 105, 116, 115]))) (sRet (mLstC (mCons (mC (.str [117, 112])) (mNil)))) (sPass)) (sSeq (sExpr (mMeth tb_turn (mVar 0) (mCons (mC (.str [103, 111, 101, 115])) (mNil)))) (sRet (mBin fAddL (mLst (mCons (mC (.str [117, 112])) (mNil))) (mIf (mTru (mFld 7 (mVar 0))) (mMeth tb_stopped (mVar 0) mNil) (mLst (mNil))))))))
noncomputable def m_Asker_heard_of_ring : Fn := mDef 2 s_Asker_heard_of_ring
noncomputable def s_Asker_answered : MS := sSeq (sExpr (mMeth tb_turn (mVar 0) (mCons (mC (.str [101, 110, 100, 115])) (mNil)))) (sSeq (sExpr (mMeth tb_finish (mVar 0) (mCons (mVar 1) (mNil)))) (sRet (mLstC (mCons (mC (.str [117, 112])) (mNil)))))
noncomputable def m_Asker_answered : Fn := mDef 2 s_Asker_answered
noncomputable abbrev tb_answered : Nat → Option (Nat × Fn × List W) := mtOf [(22, (2, m_Asker_answered, []))]
noncomputable abbrev tb_heard_of_ring : Nat → Option (Nat × Fn × List W) := mtOf [(22, (2, m_Asker_heard_of_ring, []))]
noncomputable def s_Asker_hear : MS := sSeq (sIf (mOrT (mNotT (mTru (mIsi kitT (.ty "str") (mVar 1)))) (mBin (fIn true) (mVar 1) (mKd kt_ANSWERS (mFld 3 (mVar 0))))) (sRaise1 3 0 (mCons (mVar 1) (mNil))) (sPass)) (sSeq (sIf (mBin fEq (mFld 3 (mVar 0)) (mC (.str [111, 116, 104, 101, 114]))) (sRet (mIf (mBin fEq (mFld 4 (mVar 0)) (mC (.str [99, 97, 108, 108, 115]))) (mMeth tb_answered (mVar 0) (mCons (mVar 1) (mNil))) (mLstC (mNil)))) (sPass)) (sSeq (sIf (mBin (fIn false) (mFld 4 (mVar 0)) (mTup (mCons (mC (.str [116, 111, 111, 107])) (mCons (mC (.str [101, 110, 100, 115])) (mNil))))) (sRet (mBM "dict" fGet2 (mDictT [(mTup (mCons (mC (.str [116, 111, 111, 107])) (mCons (mC (.str [116, 97, 107, 101, 110])) (mNil))), mLstC (mCons (mC (.str [117, 112])) (mNil))), (mTup (mCons (mC (.str [101, 110, 100, 115])) (mCons (mC (.str [110, 111])) (mNil))), mLstC (mCons (mC (.str [115, 117, 114, 101])) (mNil)))]) (mCons (mTup (mCons (mFld 4 (mVar 0)) (mCons (mVar 1) (mNil)))) (mCons (mLstC (mNil)) (mNil))))) (sPass)) (sSeq (sIf (mBin fEq (mFld 4 (mVar 0)) (mC (.str [111, 118, 101, 114]))) (sRet (mLstC (mNil))) (sPass)) (sRet (mMeth tb_heard_of_ring (mVar 0) (mCons (mVar 1) (mNil)))))))
noncomputable def m_Asker_hear : Fn := mDef 2 s_Asker_hear
noncomputable abbrev tb_beat : Nat → Option (Nat × Fn × List W) := mtOf [(22, (1, m_Asker_beat, [])), (23, (1, m_Asked_beat, []))]
noncomputable abbrev tb_give_up : Nat → Option (Nat × Fn × List W) := mtOf [(22, (1, m_Asker_give_up, []))]
noncomputable abbrev tb_hear : Nat → Option (Nat × Fn × List W) := mtOf [(22, (2, m_Asker_hear, []))]
noncomputable def b__law_to_state_1 : MS := sIf (mOrT (mBin fEq (mVar 1) (mC (.str [114, 105, 110, 103]))) (mBin fEq (mVar 3) (mC (.str [110, 111])))) (sExpr (mMeth tb_hear (mVar 2) (mCons (mVar 3) (mNil)))) (sPass)
noncomputable def b__law_to_state_2 : MS := sExpr (mMeth tb_beat (mVar 2) mNil)
noncomputable def s__law_to_state : MS := sSeq (sSet 2 (mMake 22 2 m_Asker___init__ [] (mCons (mVar 1) (mNil)))) (sSeq (sForQ (mBin fIdx (mLst (mCons (mLst (mNil)) (mCons (mLst (mCons (mC (.str [114, 105, 110, 103, 115])) (mNil))) (mCons (mLst (mCons (mC (.str [116, 97, 107, 101, 110])) (mNil))) (mCons (mLst (mCons (mC (.str [110, 111])) (mNil))) (mCons (mLst (mCons (mC (.str [114, 105, 110, 103, 115])) (mCons (mC (.str [110, 111])) (mNil)))) (mNil))))))) (mCall 2 m__law_take [] (mCons (mVar 0) (mCons (mC (.int 5)) (mNil))))) (tgN 3) (b__law_to_state_1)) (sSeq (sIf (mBin fEq (mCall 2 m__law_take [] (mCons (mVar 0) (mCons (mC (.int 2)) (mNil)))) (mC (.int 0))) (sExpr (mMeth tb_give_up (mVar 2) mNil)) (sPass)) (sSeq (sForR1 (mCons (mCall 2 m__law_take [] (mCons (mVar 0) (mCons (mC (.int 20)) (mNil)))) (mNil)) (tgN 4) (b__law_to_state_2)) (sRet (mVar 2)))))
noncomputable def m__law_to_state : Fn := mDef 5 s__law_to_state
noncomputable def s_Asker_twin : MS := sSeq (sSet 1 (mMake 22 2 m_Asker___init__ [] (mCons (mFld 3 (mVar 0)) (mNil)))) (sSeq (sAsgT (tgT 3 (tgsCons (tgF [] 4 (mVar 1)) (tgsCons (tgF [] 5 (mVar 1)) (tgsCons (tgF [] 6 (mVar 1)) (tgsNil))))) (mTup (mCons (mFld 4 (mVar 0)) (mCons (mFld 5 (mVar 0)) (mCons (mFld 6 (mVar 0)) (mNil)))))) (sSeq (sAsgT (tgT 2 (tgsCons (tgF [] 7 (mVar 1)) (tgsCons (tgF [] 8 (mVar 1)) (tgsNil)))) (mTup (mCons (mFld 7 (mVar 0)) (mCons (mFld 8 (mVar 0)) (mNil))))) (sRet (mVar 1))))
noncomputable def m_Asker_twin : Fn := mDef 2 s_Asker_twin
noncomputable def s_Asked___init__ : MS := sSeq (sExpr (mCall 1 m_look_at_sort [] (mCons (mVar 1) (mNil)))) (sSeq (sFldSet [23] 3 (mVar 0) (mVar 1)) (sSeq (sFldSet [23] 4 (mVar 0) (mC (.str [103, 111, 101, 115]))) (sSeq (sFldSet [23] 5 (mVar 0) (mC (.int 0))) (sSeq (sFldSet [23] 6 (mVar 0) (mC .non)) (sSeq (sFldSet [23] 9 (mVar 0) (mC (.bl false))) (sFldSet [23] 10 (mVar 0) (mC (.bl false))))))))
noncomputable def m_Asked___init__ : Fn := mDef 2 s_Asked___init__
noncomputable def s_Asked_twin : MS := sSeq (sSet 1 (mMake 23 2 m_Asked___init__ [] (mCons (mFld 3 (mVar 0)) (mNil)))) (sSeq (sAsgT (tgT 3 (tgsCons (tgF [] 4 (mVar 1)) (tgsCons (tgF [] 5 (mVar 1)) (tgsCons (tgF [] 6 (mVar 1)) (tgsNil))))) (mTup (mCons (mFld 4 (mVar 0)) (mCons (mFld 5 (mVar 0)) (mCons (mFld 6 (mVar 0)) (mNil)))))) (sSeq (sAsgT (tgT 2 (tgsCons (tgF [] 9 (mVar 1)) (tgsCons (tgF [] 10 (mVar 1)) (tgsNil)))) (mTup (mCons (mFld 9 (mVar 0)) (mCons (mFld 10 (mVar 0)) (mNil))))) (sRet (mVar 1))))
noncomputable def m_Asked_twin : Fn := mDef 2 s_Asked_twin
noncomputable def s__law_odd_words : MS := sSeq (sSet 2 (mLst (mCons (mC .non) (mCons (mC (.int 0)) (mCons (mC (.bl true)) (mCons (mC (.str [])) (mCons (mC (.str [82, 105, 110, 103, 115])) (mCons (mC (.str [115, 117, 114, 101])) (mCons (mC (.str [97, 115, 107])) (mCons (mLst (mCons (mC (.str [110, 111])) (mNil))) (mCons (mTup (mCons (mC (.str [110, 111])) (mNil))) (mCons (mDict0) (mCons (mC (.str [110, 111, 32])) (mCons (mC (.str [108, 97, 116, 101])) (mCons (mC (.str [117, 112])) (mNil)))))))))))))))) (sSeq (sSet 3 (mSlice false (mSlice false (mVar 2) (some (mCall 2 m__law_take [] (mCons (mVar 0) (mCons (mC (.int 13)) (mNil))))) none) none (some (mC (.int 3))))) (sRet (mBin fAdd (mVar 3) (mBin fIdx (mLst (mCons (mLst (mCons (mC (.str [100, 111, 110, 101])) (mCons (mC (.int 1)) (mNil)))) (mCons (mLst (mCons (mC (.str [114, 105, 110, 103, 115])) (mCons (mC (.str [116, 97, 107, 101, 110])) (mNil)))) (mNil)))) (mBlt bInt (mCons (mBin fEq (mVar 1) (mC (.str [111, 116, 104, 101, 114]))) (mNil)))))))
noncomputable def m__law_odd_words : Fn := mDef 4 s__law_odd_words
noncomputable def s_Asked_say : MS := sSeq (sIf (mOrT (mNotT (mTru (mIsi kitT (.ty "str") (mVar 1)))) (mBin (fIn true) (mVar 1) (mKd kt_ANSWERS (mFld 3 (mVar 0))))) (sRaise1 3 0 (mCons (mVar 1) (mNil))) (sPass)) (sSeq (sIf (mBin fEq (mFld 4 (mVar 0)) (mC (.str [116, 111, 111, 107]))) (sRet (mIf (mBin fEq (mVar 1) (mC (.str [116, 97, 107, 101, 110]))) (mLstC (mCons (mC (.str [115, 97, 121])) (mNil))) (mLstC (mNil)))) (sPass)) (sSeq (sIf (mBin fNe (mFld 4 (mVar 0)) (mC (.str [103, 111, 101, 115]))) (sRet (mLstC (mNil))) (sPass)) (sSeq (sFldSet [] 9 (mVar 0) (mC (.bl true))) (sSeq (sIf (mBin fNe (mVar 1) (mC (.str [114, 105, 110, 103, 115]))) (sSeq (sFldSet [] 6 (mVar 0) (mVar 1)) (sExpr (mMeth tb_turn (mVar 0) (mCons (mIf (mBin fEq (mVar 1) (mC (.str [116, 97, 107, 101, 110]))) (mC (.str [116, 111, 111, 107])) (mC (.str [116, 111, 108, 100]))) (mNil))))) (sPass)) (sRet (mLstC (mCons (mC (.str [115, 97, 121])) (mNil))))))))
noncomputable def m_Asked_say : Fn := mDef 2 s_Asked_say
noncomputable abbrev tb_say : Nat → Option (Nat × Fn × List W) := mtOf [(23, (2, m_Asked_say, []))]
noncomputable def s__law_none : MS := sSeq (sTryT 3 exmT (.own 2) (.own 3) (sIf (mBin fEq (mVar 0) (mC (.int 0))) (sExpr (mMake 22 2 m_Asker___init__ [] (mCons (mVar 2) (mNil)))) (sIf (mBin fEq (mVar 0) (mC (.int 1))) (sExpr (mMake 23 2 m_Asked___init__ [] (mCons (mVar 2) (mNil)))) (sIf (mBin fEq (mVar 0) (mC (.int 2))) (sExpr (mMeth tb_hear (mVar 1) (mCons (mVar 2) (mNil)))) (sExpr (mMeth tb_say (mVar 1) (mCons (mVar 2) (mNil))))))) (fun c fs => sRet (mLst (mCons (mIsX 3 isXT c fs (.own 2)) (mCons (mIsX 3 isXT c fs (.own 3)) (mCons (mIsX 3 isXT c fs (.ty "ValueError")) (mCons (mBlt bRepr (mCons (mXfT 3 xcs c fs 0) (mNil))) (mNil)))))))) (sRet (mC .non))
noncomputable def m__law_none : Fn := mDef 4 s__law_none
noncomputable def s_Asker_manner : MS := sRet (mFld 3 (mVar 0))
noncomputable def m_Asker_manner : Fn := mDef 1 s_Asker_manner
noncomputable def s_Asked_manner : MS := sRet (mFld 3 (mVar 0))
noncomputable def m_Asked_manner : Fn := mDef 1 s_Asked_manner
noncomputable def s_Asker_state : MS := sRet (mFld 4 (mVar 0))
noncomputable def m_Asker_state : Fn := mDef 1 s_Asker_state
noncomputable def s_Asked_state : MS := sRet (mFld 4 (mVar 0))
noncomputable def m_Asked_state : Fn := mDef 1 s_Asked_state
noncomputable def s_Asker_end : MS := sRet (mFld 6 (mVar 0))
noncomputable def m_Asker_end : Fn := mDef 1 s_Asker_end
noncomputable def s_Asked_end : MS := sRet (mFld 6 (mVar 0))
noncomputable def m_Asked_end : Fn := mDef 1 s_Asked_end
noncomputable def s_Asker_beats : MS := sRet (mFld 8 (mVar 0))
noncomputable def m_Asker_beats : Fn := mDef 1 s_Asker_beats
noncomputable abbrev tb_end : Nat → Option (Nat × Fn × List W) := mtOf [(22, (1, m_Asker_end, [])), (23, (1, m_Asked_end, []))]
noncomputable abbrev tb_manner : Nat → Option (Nat × Fn × List W) := mtOf [(22, (1, m_Asker_manner, [])), (23, (1, m_Asked_manner, []))]
noncomputable abbrev tb_state : Nat → Option (Nat × Fn × List W) := mtOf [(22, (1, m_Asker_state, [])), (23, (1, m_Asked_state, []))]
noncomputable abbrev tb_twin : Nat → Option (Nat × Fn × List W) := mtOf [(22, (1, m_Asker_twin, [])), (23, (1, m_Asked_twin, []))]
noncomputable abbrev tb_beats : Nat → Option (Nat × Fn × List W) := mtOf [(22, (1, m_Asker_beats, []))]
noncomputable def b_law_1 : MS := sIf (mBin fNe (mCall 3 m__law_none [] (mCons (mVar 4) (mCons (mC .non) (mCons (mVar 3) (mNil))))) (mLst (mCons (mC (.bl true)) (mCons (mC (.bl false)) (mCons (mC (.bl true)) (mCons (mBlt bRepr (mCons (mVar 3) (mNil))) (mNil))))))) (sRet (mC (.bl false))) (sPass)
noncomputable def b_law_2 : MS := sSeq (sExpr (mMeth tb_say (mVar 9) (mCons (mC (.str [110, 111])) (mNil)))) (sExpr (mMeth tb_say (mVar 10) (mCons (mC (.str [110, 111])) (mNil))))
noncomputable def b_law_3 : MS := sIf (mBin fNe (mCall 3 m__law_none [] (mCons (mVar 4) (mCons (mVar 14) (mCons (mVar 12) (mNil))))) (mLst (mCons (mC (.bl false)) (mCons (mC (.bl true)) (mCons (mC (.bl true)) (mCons (mBlt bRepr (mCons (mVar 12) (mNil))) (mNil))))))) (sRet (mC (.bl false))) (sPass)
noncomputable def b_law_4 : MS := sForQ (mLst (mCons (mTup (mCons (mC (.int 2)) (mCons (mVar 6) (mNil)))) (mCons (mTup (mCons (mC (.int 3)) (mCons (mVar 9) (mNil)))) (mNil)))) (tgT 2 (tgsCons (tgN 4) (tgsCons (tgN 14) (tgsNil)))) (b_law_3)
noncomputable def b_law_5 : MS := sSeq (sSet 6 (mCall 2 m__law_to_state [] (mCons (mVar 2) (mCons (mVar 5) (mNil))))) (sSeq (sSet 7 (mLst (mCons (mMeth tb_manner (mVar 6) mNil) (mCons (mMeth tb_state (mVar 6) mNil) (mCons (mMeth tb_end (mVar 6) mNil) (mCons (mMeth tb_beats (mVar 6) mNil) (mNil))))))) (sSeq (sSet 8 (mMeth tb_twin (mVar 6) mNil)) (sSeq (sSet 9 (mMake 23 2 m_Asked___init__ [] (mCons (mVar 5) (mNil)))) (sSeq (sSet 10 (mMake 23 2 m_Asked___init__ [] (mCons (mVar 5) (mNil)))) (sSeq (sForR1 (mCons (mCall 2 m__law_take [] (mCons (mVar 2) (mCons (mC (.int 3)) (mNil)))) (mNil)) (tgN 11) (b_law_2)) (sSeq (sForQ (mCall 2 m__law_odd_words [] (mCons (mVar 2) (mCons (mVar 5) (mNil)))) (tgN 12) (b_law_4)) (sSeq (sIf (mBin fNe (mLst (mCons (mMeth tb_manner (mVar 6) mNil) (mCons (mMeth tb_state (mVar 6) mNil) (mCons (mMeth tb_end (mVar 6) mNil) (mCons (mMeth tb_beats (mVar 6) mNil) (mNil)))))) (mVar 7)) (sRet (mC (.bl false))) (sPass)) (sSeq (sIf (mOrT (mNotT (mBin (fEqA tbE) (mVar 6) (mVar 8))) (mBin (fNeA tbE) (mVar 9) (mVar 10))) (sRet (mC (.bl false))) (sPass)) (sSeq (sExpr (mMeth tb_give_up (mVar 6) mNil)) (sSeq (sSet 13 (mBin fIdx (mLst (mCons (mLst (mCons (mC (.str [115, 117, 114, 101])) (mCons (mC (.str [117, 112])) (mNil)))) (mCons (mLst (mCons (mC (.str [117, 112])) (mNil))) (mNil)))) (mBlt bInt (mCons (mBin fEq (mVar 5) (mC (.str [111, 116, 104, 101, 114]))) (mNil))))) (sSeq (sIf (mBin fNe (mMethK 23 2 1 [0, 1] m_Asked_say [] (mMakeK 23 2 1 1 [0, 1] m_Asked___init__ [] mNil (mCons (mVar 5) (mNil))) (mCons (mC (.str [110, 111])) (mNil))) (mLst (mCons (mC (.str [115, 97, 121])) (mNil)))) (sRet (mC (.bl false))) (sPass)) (sIf (mOrT (mBin fNe (mMeth tb_give_up (mVar 6) mNil) (mLst (mNil))) (mBin (fNeA tbE) (mMethK 22 2 1 [0, 1] m_Asker_hear [] (mMakeK 22 2 1 1 [0, 1] m_Asker___init__ [] mNil (mCons (mVar 5) (mNil))) (mCons (mC (.str [110, 111])) (mNil))) (mVar 13))) (sRet (mC (.bl false))) (sPass)))))))))))))
noncomputable def b_law_6 : MS := sSeq (sSet 2 (mCall 2 m__law_pool [] (mCons (mVar 0) (mCons (mVar 1) (mNil))))) (sSeq (sSet 3 (mBin fIdx (mLst (mCons (mC .non) (mCons (mC (.int 0)) (mCons (mC (.bl true)) (mCons (mC (.str [])) (mCons (mC (.str [82, 105, 110, 103])) (mCons (mC (.str [114, 105, 110, 103, 32])) (mCons (mC (.str [110, 111])) (mCons (mLst (mCons (mC (.str [114, 105, 110, 103])) (mNil))) (mCons (mTup (mCons (mC (.str [111, 116, 104, 101, 114])) (mNil))) (mCons (mDict0) (mCons (mBin fPow (mC (.int 10)) (mC (.int 20))) (mNil))))))))))))) (mCall 2 m__law_take [] (mCons (mVar 2) (mCons (mC (.int 11)) (mNil)))))) (sSeq (sForR1 (mCons (mC (.int 2)) (mNil)) (tgN 4) (b_law_1)) (sForQ (mLst (mCons (mC (.str [114, 105, 110, 103])) (mCons (mC (.str [111, 116, 104, 101, 114])) (mNil)))) (tgN 5) (b_law_5))))
noncomputable def s_law : MS := sSeq (sIf (mOrT (mBin fNe (mBlt (bList false) (mCons (mC c_SORTS) (mNil))) (mLst (mCons (mC (.str [114, 105, 110, 103])) (mCons (mC (.str [111, 116, 104, 101, 114])) (mNil))))) (mBin fNe (mLst (mCons (mC c_LIFE) (mCons (mC c_QUIET) (mCons (mC c_RINGING) (mNil))))) (mLst (mCons (mC (.int 16)) (mCons (mC (.int 4)) (mCons (mC (.int 40)) (mNil))))))) (sRet (mC (.bl false))) (sPass)) (sSeq (sIf (mOrT (mBin fNe (mKd kt_ANSWERS (mC (.str [114, 105, 110, 103]))) (mTup (mCons (mC (.str [114, 105, 110, 103, 115])) (mCons (mC (.str [116, 97, 107, 101, 110])) (mCons (mC (.str [110, 111])) (mNil)))))) (mOrT (mBin fNe (mKd kt_ANSWERS (mC (.str [111, 116, 104, 101, 114]))) (mTup (mCons (mC (.str [100, 111, 110, 101])) (mCons (mC (.str [110, 111])) (mNil))))) (mBin fNe (mC (.int 2)) (mC (.int 2))))) (sRet (mC (.bl false))) (sPass)) (sSeq (sForR1 (mCons (mBlt bMax (mCons (mC (.int 1)) (mCons (mBlt bMin (mCons (mBlt bLen (mCons (mVar 0) (mNil))) (mCons (mC (.int 12)) (mNil)))) (mNil)))) (mNil)) (tgN 1) (b_law_6)) (sRet (mC (.bl true)))))
noncomputable def m_law : Fn := mDef 15 s_law
end K07
namespace K07
open PySem PySem.Spec PyProof.Rows L2 MR
def top (i : Nat) : Stmt := PySem.Challenge.pw_ringingcalls_k07_askers_refuse.main.body.getD i (.Pass ⟨0, 0, 0, 0⟩)
abbrev st__wall : Stmt := top 0
def d__wall : He.DefD := ⟨("_wall", none), "_wall", "_wall", defArgs st__wall, defBody st__wall, defScope st__wall, [], []⟩
abbrev st_NoSort___init__ : Stmt := inClass (top 3) 0
def d_NoSort___init__ : He.DefD := ⟨("NoSort", some "__init__"), "__init__", "NoSort.__init__", defArgs st_NoSort___init__, defBody st_NoSort___init__, defScope st_NoSort___init__, [], []⟩
abbrev st_NoWord___init__ : Stmt := inClass (top 4) 0
def d_NoWord___init__ : He.DefD := ⟨("NoWord", some "__init__"), "__init__", "NoWord.__init__", defArgs st_NoWord___init__, defBody st_NoWord___init__, defScope st_NoWord___init__, [], []⟩
abbrev st_look_at_sort : Stmt := top 12
def d_look_at_sort : He.DefD := ⟨("look_at_sort", none), "look_at_sort", "look_at_sort", defArgs st_look_at_sort, defBody st_look_at_sort, defScope st_look_at_sort, [], []⟩
abbrev st_Asker___init__ : Stmt := inClass (top 13) 0
def d_Asker___init__ : He.DefD := ⟨("Asker", some "__init__"), "__init__", "Asker.__init__", defArgs st_Asker___init__, defBody st_Asker___init__, defScope st_Asker___init__, [], []⟩
abbrev st_Asker_turn : Stmt := inClass (top 13) 1
def d_Asker_turn : He.DefD := ⟨("Asker", some "turn"), "turn", "Asker.turn", defArgs st_Asker_turn, defBody st_Asker_turn, defScope st_Asker_turn, [], []⟩
abbrev st_Asker_finish : Stmt := inClass (top 13) 2
def d_Asker_finish : He.DefD := ⟨("Asker", some "finish"), "finish", "Asker.finish", defArgs st_Asker_finish, defBody st_Asker_finish, defScope st_Asker_finish, [], []⟩
abbrev st_Asker_beat : Stmt := inClass (top 13) 3
def d_Asker_beat : He.DefD := ⟨("Asker", some "beat"), "beat", "Asker.beat", defArgs st_Asker_beat, defBody st_Asker_beat, defScope st_Asker_beat, [], []⟩
abbrev st_Asker_beat_calling : Stmt := inClass (top 13) 4
def d_Asker_beat_calling : He.DefD := ⟨("Asker", some "beat_calling"), "beat_calling", "Asker.beat_calling", defArgs st_Asker_beat_calling, defBody st_Asker_beat_calling, defScope st_Asker_beat_calling, [], []⟩
abbrev st_Asker_beat_last : Stmt := inClass (top 13) 5
def d_Asker_beat_last : He.DefD := ⟨("Asker", some "beat_last"), "beat_last", "Asker.beat_last", defArgs st_Asker_beat_last, defBody st_Asker_beat_last, defScope st_Asker_beat_last, [], []⟩
abbrev st_Asker_came_late : Stmt := inClass (top 13) 6
def d_Asker_came_late : He.DefD := ⟨("Asker", some "came_late"), "came_late", "Asker.came_late", defArgs st_Asker_came_late, defBody st_Asker_came_late, defScope st_Asker_came_late, [], []⟩
abbrev st_Asker_stopped : Stmt := inClass (top 13) 7
def d_Asker_stopped : He.DefD := ⟨("Asker", some "stopped"), "stopped", "Asker.stopped", defArgs st_Asker_stopped, defBody st_Asker_stopped, defScope st_Asker_stopped, [], []⟩
abbrev st_Asker_hear : Stmt := inClass (top 13) 8
def d_Asker_hear : He.DefD := ⟨("Asker", some "hear"), "hear", "Asker.hear", defArgs st_Asker_hear, defBody st_Asker_hear, defScope st_Asker_hear, [], []⟩
abbrev st_Asker_answered : Stmt := inClass (top 13) 9
def d_Asker_answered : He.DefD := ⟨("Asker", some "answered"), "answered", "Asker.answered", defArgs st_Asker_answered, defBody st_Asker_answered, defScope st_Asker_answered, [], []⟩
abbrev st_Asker_heard_of_ring : Stmt := inClass (top 13) 10
def d_Asker_heard_of_ring : He.DefD := ⟨("Asker", some "heard_of_ring"), "heard_of_ring", "Asker.heard_of_ring", defArgs st_Asker_heard_of_ring, defBody st_Asker_heard_of_ring, defScope st_Asker_heard_of_ring, [], []⟩
abbrev st_Asker_give_up : Stmt := inClass (top 13) 11
def d_Asker_give_up : He.DefD := ⟨("Asker", some "give_up"), "give_up", "Asker.give_up", defArgs st_Asker_give_up, defBody st_Asker_give_up, defScope st_Asker_give_up, [], []⟩
abbrev st_Asker_manner : Stmt := inClass (top 13) 12
def d_Asker_manner : He.DefD := ⟨("Asker", some "manner"), "manner", "Asker.manner", defArgs st_Asker_manner, defBody st_Asker_manner, defScope st_Asker_manner, [], []⟩
abbrev st_Asker_state : Stmt := inClass (top 13) 13
def d_Asker_state : He.DefD := ⟨("Asker", some "state"), "state", "Asker.state", defArgs st_Asker_state, defBody st_Asker_state, defScope st_Asker_state, [], []⟩
abbrev st_Asker_end : Stmt := inClass (top 13) 14
def d_Asker_end : He.DefD := ⟨("Asker", some "end"), "end", "Asker.end", defArgs st_Asker_end, defBody st_Asker_end, defScope st_Asker_end, [], []⟩
abbrev st_Asker_beats : Stmt := inClass (top 13) 15
def d_Asker_beats : He.DefD := ⟨("Asker", some "beats"), "beats", "Asker.beats", defArgs st_Asker_beats, defBody st_Asker_beats, defScope st_Asker_beats, [], []⟩
abbrev st_Asker_parts : Stmt := inClass (top 13) 16
def d_Asker_parts : He.DefD := ⟨("Asker", some "parts"), "parts", "Asker.parts", defArgs st_Asker_parts, defBody st_Asker_parts, defScope st_Asker_parts, [], []⟩
abbrev st_Asker_twin : Stmt := inClass (top 13) 17
def d_Asker_twin : He.DefD := ⟨("Asker", some "twin"), "twin", "Asker.twin", defArgs st_Asker_twin, defBody st_Asker_twin, defScope st_Asker_twin, [], []⟩
abbrev st_Asker___eq__ : Stmt := inClass (top 13) 18
def d_Asker___eq__ : He.DefD := ⟨("Asker", some "__eq__"), "__eq__", "Asker.__eq__", defArgs st_Asker___eq__, defBody st_Asker___eq__, defScope st_Asker___eq__, [], []⟩
abbrev st_Asked___init__ : Stmt := inClass (top 17) 0
def d_Asked___init__ : He.DefD := ⟨("Asked", some "__init__"), "__init__", "Asked.__init__", defArgs st_Asked___init__, defBody st_Asked___init__, defScope st_Asked___init__, [], []⟩
abbrev st_Asked_turn : Stmt := inClass (top 17) 1
def d_Asked_turn : He.DefD := ⟨("Asked", some "turn"), "turn", "Asked.turn", defArgs st_Asked_turn, defBody st_Asked_turn, defScope st_Asked_turn, [], []⟩
abbrev st_Asked_say : Stmt := inClass (top 17) 2
def d_Asked_say : He.DefD := ⟨("Asked", some "say"), "say", "Asked.say", defArgs st_Asked_say, defBody st_Asked_say, defScope st_Asked_say, [], []⟩
abbrev st_Asked_hear_again : Stmt := inClass (top 17) 3
def d_Asked_hear_again : He.DefD := ⟨("Asked", some "hear_again"), "hear_again", "Asked.hear_again", defArgs st_Asked_hear_again, defBody st_Asked_hear_again, defScope st_Asked_hear_again, [], []⟩
abbrev st_Asked_hear_sure : Stmt := inClass (top 17) 4
def d_Asked_hear_sure : He.DefD := ⟨("Asked", some "hear_sure"), "hear_sure", "Asked.hear_sure", defArgs st_Asked_hear_sure, defBody st_Asked_hear_sure, defScope st_Asked_hear_sure, [], []⟩
abbrev st_Asked_beat : Stmt := inClass (top 17) 5
def d_Asked_beat : He.DefD := ⟨("Asked", some "beat"), "beat", "Asked.beat", defArgs st_Asked_beat, defBody st_Asked_beat, defScope st_Asked_beat, [], []⟩
abbrev st_Asked_manner : Stmt := inClass (top 17) 6
def d_Asked_manner : He.DefD := ⟨("Asked", some "manner"), "manner", "Asked.manner", defArgs st_Asked_manner, defBody st_Asked_manner, defScope st_Asked_manner, [], []⟩
abbrev st_Asked_state : Stmt := inClass (top 17) 7
def d_Asked_state : He.DefD := ⟨("Asked", some "state"), "state", "Asked.state", defArgs st_Asked_state, defBody st_Asked_state, defScope st_Asked_state, [], []⟩
abbrev st_Asked_end : Stmt := inClass (top 17) 8
def d_Asked_end : He.DefD := ⟨("Asked", some "end"), "end", "Asked.end", defArgs st_Asked_end, defBody st_Asked_end, defScope st_Asked_end, [], []⟩
abbrev st_Asked_is_sure : Stmt := inClass (top 17) 9
def d_Asked_is_sure : He.DefD := ⟨("Asked", some "is_sure"), "is_sure", "Asked.is_sure", defArgs st_Asked_is_sure, defBody st_Asked_is_sure, defScope st_Asked_is_sure, [], []⟩
abbrev st_Asked_parts : Stmt := inClass (top 17) 10
def d_Asked_parts : He.DefD := ⟨("Asked", some "parts"), "parts", "Asked.parts", defArgs st_Asked_parts, defBody st_Asked_parts, defScope st_Asked_parts, [], []⟩
abbrev st_Asked_twin : Stmt := inClass (top 17) 11
def d_Asked_twin : He.DefD := ⟨("Asked", some "twin"), "twin", "Asked.twin", defArgs st_Asked_twin, defBody st_Asked_twin, defScope st_Asked_twin, [], []⟩
abbrev st_Asked___eq__ : Stmt := inClass (top 17) 12
def d_Asked___eq__ : He.DefD := ⟨("Asked", some "__eq__"), "__eq__", "Asked.__eq__", defArgs st_Asked___eq__, defBody st_Asked___eq__, defScope st_Asked___eq__, [], []⟩
abbrev st__law_pool : Stmt := top 19
def d__law_pool : He.DefD := ⟨("_law_pool", none), "_law_pool", "_law_pool", defArgs st__law_pool, defBody st__law_pool, defScope st__law_pool, [], []⟩
abbrev st__law_take : Stmt := top 20
def d__law_take : He.DefD := ⟨("_law_take", none), "_law_take", "_law_take", defArgs st__law_take, defBody st__law_take, defScope st__law_take, [], []⟩
abbrev st__law_none : Stmt := top 21
def d__law_none : He.DefD := ⟨("_law_none", none), "_law_none", "_law_none", defArgs st__law_none, defBody st__law_none, defScope st__law_none, [], []⟩
abbrev st__law_to_state : Stmt := top 22
def d__law_to_state : He.DefD := ⟨("_law_to_state", none), "_law_to_state", "_law_to_state", defArgs st__law_to_state, defBody st__law_to_state, defScope st__law_to_state, [], []⟩
abbrev st__law_odd_words : Stmt := top 23
def d__law_odd_words : He.DefD := ⟨("_law_odd_words", none), "_law_odd_words", "_law_odd_words", defArgs st__law_odd_words, defBody st__law_odd_words, defScope st__law_odd_words, [], []⟩
abbrev st_law : Stmt := top 24
def d_law : He.DefD := ⟨("law", none), "law", "law", defArgs st_law, defBody st_law, defScope st_law, [], []⟩
def fn : List He.DefD := [d__wall, d_NoSort___init__, d_NoWord___init__, d_look_at_sort, d_Asker___init__, d_Asker_turn, d_Asker_finish, d_Asker_beat, d_Asker_beat_calling, d_Asker_beat_last, d_Asker_came_late, d_Asker_stopped, d_Asker_hear, d_Asker_answered, d_Asker_heard_of_ring, d_Asker_give_up, d_Asker_manner, d_Asker_state, d_Asker_end, d_Asker_beats, d_Asker_parts, d_Asker_twin, d_Asker___eq__, d_Asked___init__, d_Asked_turn, d_Asked_say, d_Asked_hear_again, d_Asked_hear_sure, d_Asked_beat, d_Asked_manner, d_Asked_state, d_Asked_end, d_Asked_is_sure, d_Asked_parts, d_Asked_twin, d_Asked___eq__, d__law_pool, d__law_take, d__law_none, d__law_to_state, d__law_odd_words, d_law]
def fa : List He.Fa := [.glo "_wall", .glo "look_at_sort", .glo "_law_pool", .glo "_law_take", .glo "_law_none", .glo "_law_to_state", .glo "_law_odd_words", .glo "law", .free "ValueError", .free "abs", .free "int", .free "isinstance", .free "len", .free "list", .free "max", .free "min", .free "range", .free "repr", .free "str", .glo "RingError", .glo "NoSort", .glo "NoWord", .glo "Asker", .cls "Asker", .mkr "Asker", .noat "Asker" "own_sort", .noat "Asker" "own_state", .noat "Asker" "in_state", .noat "Asker" "own_end", .noat "Asker" "is_given", .noat "Asker" "many_beats", .meth "Asker" "__init__", .meth "Asker" "turn", .meth "Asker" "finish", .meth "Asker" "beat", .meth "Asker" "beat_calling", .meth "Asker" "beat_last", .meth "Asker" "came_late", .meth "Asker" "stopped", .meth "Asker" "hear", .meth "Asker" "answered", .meth "Asker" "heard_of_ring", .meth "Asker" "give_up", .meth "Asker" "manner", .meth "Asker" "state", .meth "Asker" "end", .meth "Asker" "beats", .meth "Asker" "parts", .meth "Asker" "twin", .meth "Asker" "__eq__", .glo "Asked", .cls "Asked", .mkr "Asked", .noat "Asked" "own_sort", .noat "Asked" "own_state", .noat "Asked" "in_state", .noat "Asked" "own_end", .noat "Asked" "has_said", .noat "Asked" "was_sure", .meth "Asked" "__init__", .meth "Asked" "turn", .meth "Asked" "say", .meth "Asked" "hear_again", .meth "Asked" "hear_sure", .meth "Asked" "beat", .meth "Asked" "manner", .meth "Asked" "state", .meth "Asked" "end", .meth "Asked" "is_sure", .meth "Asked" "parts", .meth "Asked" "twin", .meth "Asked" "__eq__", .glo "ASKED_AGAIN", .glo "ANSWERS", .glo "LAST_BEAT"]
def clN : List Str := (["RingError", "NoNames", "NoSort", "NoWord", "NoNumber", "NoGroups", "NoTarget", "NoRank", "NoRole", "NoTruth", "NoWorld", "NoDeed", "NoLetter", "NoRule", "NoText", "NoRow", "NoName", "NoCall", "NoRing", "NoTalk", "TooMany", "Busy", "Asker", "Asked", "Pair"] : List Str) ++ (["Fork", "Places", "Talk", "End", "Device", "House", "World", "Desk"] : List Str)
def fdN : List Str := (["thing", "row", "many", "own_sort", "own_state", "in_state", "own_end", "is_given", "many_beats", "has_said", "was_sure", "own_asker", "own_asked", "own_letters", "own_lost", "has_rung", "own_beats", "own_groups", "many_groups", "own_ends", "has_begun", "is_closed", "has_told", "own_places", "own_role"] : List Str) ++ (["own_changes", "own_number", "heard_number", "asked_text", "later_text", "later_beats", "left_out", "own_name", "next_asking", "own_askers", "sent", "meant", "own_askeds", "kinds", "own_said", "end_now", "next_call", "many_taken", "own_calls", "own_rings", "own_talks", "ways", "own_stays", "own_forks", "own_numbers"] : List Str) ++ (["fork_beats", "own_devices", "own_houses", "asked_kinds", "next_letter", "own_worlds"] : List Str)
def gm (K : PySem.W.Frag) : Gm := ⟨K, fun n => He.ga K (clN.getD n ""), fdT fdN, fdT_inj (by decide +kernel) (by decide +kernel), fun _ => True, fun _ _ h => h, none⟩
def ts : List He.Tab := [((fun K => He.ga K "ASKED_AGAIN"), ["ring", "other"]), ((fun K => He.ga K "ANSWERS"), ["ring", "other"]), ((fun K => He.ga K "LAST_BEAT"), ["took", "told", "quiet"])]
def exL (K : PySem.W.Frag) : List Bool := [constB K "SORTS" c_SORTS, constB K "LIFE" c_LIFE, constB K "QUIET" c_QUIET, constB K "RINGING" c_RINGING, constB K "SAID_AGAIN" c_SAID_AGAIN, tabB K (He.ga K "ASKED_AGAIN") kt_ASKED_AGAIN, tabB K (He.ga K "ANSWERS") kt_ANSWERS, tabB K (He.ga K "LAST_BEAT") kt_LAST_BEAT, kitTB (gm K) kitT, eqXB (gm K) [22, 23], exmTB (gm K) exmT, isxTB (gm K) isXT, xfTB (gm K) xcs "thing", kdLenB K (He.ga K "ANSWERS") 2, xiB K ((gm K).ca 2) (He.fAd K d_NoSort___init__.at_) ((gm K).ca 0) ((gm K).fd 0), xiB K ((gm K).ca 3) (He.fAd K d_NoWord___init__.at_) ((gm K).ca 0) ((gm K).fd 0)]
def ex (K : PySem.W.Frag) : Bool := (exL K).all id
abbrev R : PySem.W.OpenRow := PySem.W.OpenLaw.row PySem.Challenge.rw_ringingcalls_k07_askers_refuse
abbrev hkx : PySem.W.Hook := hookY 5 fa fn ts ex
def ob (s : PySem.W.SharedT) : He.AlX := obsY 5 fa fn ts ex (HandSHeadRun.getT s)
theorem ob_eq (s : PySem.W.SharedT) : ob s = hkx.obs s.abs := obsY_eq (HandSHeadRun.getT_eq s)
def loose : List PySem.Str := (["_wall", "RingError", "NoSort", "NoWord", "SORTS", "ASKED_AGAIN", "ANSWERS", "LIFE", "QUIET", "RINGING", "look_at_sort", "Asker", "SAID_AGAIN", "LAST_BEAT", "Asked", "_law_pool", "_law_take", "_law_none", "_law_to_state", "_law_odd_words"] : List PySem.Str)
theorem run (w : World) : HandSHeadRun.RunEq R (PySem.W.view R.prog [24]) hkx ob 6000 loose w :=
  PySem.W.byRow2 "special-get-raises" (P := fun w => HandSHeadRun.RunEq R (PySem.W.view R.prog [24]) hkx ob 6000 loose w) (fun w os => by kernel_rfl) (fun w os => by kernel_rfl) w
/-- what the text has, at hand -/
structure Tx (w : World) (K : PySem.W.Frag) (mg : Str → Option Value) : Prop where
  s : He.SaysT fa fn ts w K
  more : ex K = true
  at_ : ∃ h : Heap, K.In h ∧ h.Ns mainGlobals mg
section
variable {w : World} {K : PySem.W.Frag} {mg : Str → Option Value}
theorem Tx.d (t : Tx w K mg) : He.SaysD fa fn K := t.s.d
theorem Tx.exi (t : Tx w K mg) (i : Nat) {b : Bool} (h : (exL K)[i]? = some b) : b = true := List.all_eq_true.mp t.more b (List.mem_of_getElem? h)
theorem Tx.glo__wall (t : Tx w K mg) : mg "_wall" = some (.ref (He.ga K "_wall")) := let ⟨_, X, G⟩ := t.at_; He.glo_ok X G (t.d.fact 0 (f := .glo "_wall") rfl)
theorem Tx.glo_look_at_sort (t : Tx w K mg) : mg "look_at_sort" = some (.ref (He.ga K "look_at_sort")) := let ⟨_, X, G⟩ := t.at_; He.glo_ok X G (t.d.fact 1 (f := .glo "look_at_sort") rfl)
theorem Tx.glo__law_pool (t : Tx w K mg) : mg "_law_pool" = some (.ref (He.ga K "_law_pool")) := let ⟨_, X, G⟩ := t.at_; He.glo_ok X G (t.d.fact 2 (f := .glo "_law_pool") rfl)
theorem Tx.glo__law_take (t : Tx w K mg) : mg "_law_take" = some (.ref (He.ga K "_law_take")) := let ⟨_, X, G⟩ := t.at_; He.glo_ok X G (t.d.fact 3 (f := .glo "_law_take") rfl)
theorem Tx.glo__law_none (t : Tx w K mg) : mg "_law_none" = some (.ref (He.ga K "_law_none")) := let ⟨_, X, G⟩ := t.at_; He.glo_ok X G (t.d.fact 4 (f := .glo "_law_none") rfl)
theorem Tx.glo__law_to_state (t : Tx w K mg) : mg "_law_to_state" = some (.ref (He.ga K "_law_to_state")) := let ⟨_, X, G⟩ := t.at_; He.glo_ok X G (t.d.fact 5 (f := .glo "_law_to_state") rfl)
theorem Tx.glo__law_odd_words (t : Tx w K mg) : mg "_law_odd_words" = some (.ref (He.ga K "_law_odd_words")) := let ⟨_, X, G⟩ := t.at_; He.glo_ok X G (t.d.fact 6 (f := .glo "_law_odd_words") rfl)
theorem Tx.glo_law (t : Tx w K mg) : mg "law" = some (.ref (He.ga K "law")) := let ⟨_, X, G⟩ := t.at_; He.glo_ok X G (t.d.fact 7 (f := .glo "law") rfl)
theorem Tx.glo_RingError (t : Tx w K mg) : mg "RingError" = some (.ref (He.ga K "RingError")) := let ⟨_, X, G⟩ := t.at_; He.glo_ok X G (t.d.fact 19 (f := .glo "RingError") rfl)
theorem Tx.glo_NoSort (t : Tx w K mg) : mg "NoSort" = some (.ref (He.ga K "NoSort")) := let ⟨_, X, G⟩ := t.at_; He.glo_ok X G (t.d.fact 20 (f := .glo "NoSort") rfl)
theorem Tx.glo_NoWord (t : Tx w K mg) : mg "NoWord" = some (.ref (He.ga K "NoWord")) := let ⟨_, X, G⟩ := t.at_; He.glo_ok X G (t.d.fact 21 (f := .glo "NoWord") rfl)
theorem Tx.glo_Asker (t : Tx w K mg) : mg "Asker" = some (.ref (He.ga K "Asker")) := let ⟨_, X, G⟩ := t.at_; He.glo_ok X G (t.d.fact 22 (f := .glo "Asker") rfl)
theorem Tx.glo_Asked (t : Tx w K mg) : mg "Asked" = some (.ref (He.ga K "Asked")) := let ⟨_, X, G⟩ := t.at_; He.glo_ok X G (t.d.fact 50 (f := .glo "Asked") rfl)
theorem Tx.glo_ASKED_AGAIN (t : Tx w K mg) : mg "ASKED_AGAIN" = some (.ref (He.ga K "ASKED_AGAIN")) := let ⟨_, X, G⟩ := t.at_; He.glo_ok X G (t.d.fact 72 (f := .glo "ASKED_AGAIN") rfl)
theorem Tx.glo_ANSWERS (t : Tx w K mg) : mg "ANSWERS" = some (.ref (He.ga K "ANSWERS")) := let ⟨_, X, G⟩ := t.at_; He.glo_ok X G (t.d.fact 73 (f := .glo "ANSWERS") rfl)
theorem Tx.glo_LAST_BEAT (t : Tx w K mg) : mg "LAST_BEAT" = some (.ref (He.ga K "LAST_BEAT")) := let ⟨_, X, G⟩ := t.at_; He.glo_ok X G (t.d.fact 74 (f := .glo "LAST_BEAT") rfl)
theorem Tx.free_ValueError (t : Tx w K mg) : mg "ValueError" = none := let ⟨_, X, G⟩ := t.at_; He.free_ok X G (t.d.fact 8 (f := .free "ValueError") rfl)
theorem Tx.free_abs (t : Tx w K mg) : mg "abs" = none := let ⟨_, X, G⟩ := t.at_; He.free_ok X G (t.d.fact 9 (f := .free "abs") rfl)
theorem Tx.free_int (t : Tx w K mg) : mg "int" = none := let ⟨_, X, G⟩ := t.at_; He.free_ok X G (t.d.fact 10 (f := .free "int") rfl)
theorem Tx.free_isinstance (t : Tx w K mg) : mg "isinstance" = none := let ⟨_, X, G⟩ := t.at_; He.free_ok X G (t.d.fact 11 (f := .free "isinstance") rfl)
theorem Tx.free_len (t : Tx w K mg) : mg "len" = none := let ⟨_, X, G⟩ := t.at_; He.free_ok X G (t.d.fact 12 (f := .free "len") rfl)
theorem Tx.free_list (t : Tx w K mg) : mg "list" = none := let ⟨_, X, G⟩ := t.at_; He.free_ok X G (t.d.fact 13 (f := .free "list") rfl)
theorem Tx.free_max (t : Tx w K mg) : mg "max" = none := let ⟨_, X, G⟩ := t.at_; He.free_ok X G (t.d.fact 14 (f := .free "max") rfl)
theorem Tx.free_min (t : Tx w K mg) : mg "min" = none := let ⟨_, X, G⟩ := t.at_; He.free_ok X G (t.d.fact 15 (f := .free "min") rfl)
theorem Tx.free_range (t : Tx w K mg) : mg "range" = none := let ⟨_, X, G⟩ := t.at_; He.free_ok X G (t.d.fact 16 (f := .free "range") rfl)
theorem Tx.free_repr (t : Tx w K mg) : mg "repr" = none := let ⟨_, X, G⟩ := t.at_; He.free_ok X G (t.d.fact 17 (f := .free "repr") rfl)
theorem Tx.free_str (t : Tx w K mg) : mg "str" = none := let ⟨_, X, G⟩ := t.at_; He.free_ok X G (t.d.fact 18 (f := .free "str") rfl)
theorem Tx.cls_Asker (t : Tx w K mg) : Cls K ((gm K).ca 22) := He.cls_ok (t.d.fact 23 (f := .cls "Asker") rfl)
theorem Tx.mkr_Asker (t : Tx w K mg) : Mk K ((gm K).ca 22) (He.fAd K ("Asker", some "__init__")) := He.mkr_ok (t.d.fact 24 (f := .mkr "Asker") rfl)
theorem Tx.noat_Asker_own_sort (t : Tx w K mg) : NoAttr K ((gm K).ca 22) ((gm K).fd 3) := He.noat_ok (t.d.fact 25 (f := .noat "Asker" "own_sort") rfl)
theorem Tx.noat_Asker_own_state (t : Tx w K mg) : NoAttr K ((gm K).ca 22) ((gm K).fd 4) := He.noat_ok (t.d.fact 26 (f := .noat "Asker" "own_state") rfl)
theorem Tx.noat_Asker_in_state (t : Tx w K mg) : NoAttr K ((gm K).ca 22) ((gm K).fd 5) := He.noat_ok (t.d.fact 27 (f := .noat "Asker" "in_state") rfl)
theorem Tx.noat_Asker_own_end (t : Tx w K mg) : NoAttr K ((gm K).ca 22) ((gm K).fd 6) := He.noat_ok (t.d.fact 28 (f := .noat "Asker" "own_end") rfl)
theorem Tx.noat_Asker_is_given (t : Tx w K mg) : NoAttr K ((gm K).ca 22) ((gm K).fd 7) := He.noat_ok (t.d.fact 29 (f := .noat "Asker" "is_given") rfl)
theorem Tx.noat_Asker_many_beats (t : Tx w K mg) : NoAttr K ((gm K).ca 22) ((gm K).fd 8) := He.noat_ok (t.d.fact 30 (f := .noat "Asker" "many_beats") rfl)
theorem Tx.meth_Asker___init__ (t : Tx w K mg) : Meth K ((gm K).ca 22) "__init__" (He.fAd K d_Asker___init__.at_) := He.meth_ok (t.d.fact 31 (f := .meth "Asker" "__init__") rfl)
theorem Tx.meth_Asker_turn (t : Tx w K mg) : Meth K ((gm K).ca 22) "turn" (He.fAd K d_Asker_turn.at_) := He.meth_ok (t.d.fact 32 (f := .meth "Asker" "turn") rfl)
theorem Tx.meth_Asker_finish (t : Tx w K mg) : Meth K ((gm K).ca 22) "finish" (He.fAd K d_Asker_finish.at_) := He.meth_ok (t.d.fact 33 (f := .meth "Asker" "finish") rfl)
theorem Tx.meth_Asker_beat (t : Tx w K mg) : Meth K ((gm K).ca 22) "beat" (He.fAd K d_Asker_beat.at_) := He.meth_ok (t.d.fact 34 (f := .meth "Asker" "beat") rfl)
theorem Tx.meth_Asker_beat_calling (t : Tx w K mg) : Meth K ((gm K).ca 22) "beat_calling" (He.fAd K d_Asker_beat_calling.at_) := He.meth_ok (t.d.fact 35 (f := .meth "Asker" "beat_calling") rfl)
theorem Tx.meth_Asker_beat_last (t : Tx w K mg) : Meth K ((gm K).ca 22) "beat_last" (He.fAd K d_Asker_beat_last.at_) := He.meth_ok (t.d.fact 36 (f := .meth "Asker" "beat_last") rfl)
theorem Tx.meth_Asker_came_late (t : Tx w K mg) : Meth K ((gm K).ca 22) "came_late" (He.fAd K d_Asker_came_late.at_) := He.meth_ok (t.d.fact 37 (f := .meth "Asker" "came_late") rfl)
theorem Tx.meth_Asker_stopped (t : Tx w K mg) : Meth K ((gm K).ca 22) "stopped" (He.fAd K d_Asker_stopped.at_) := He.meth_ok (t.d.fact 38 (f := .meth "Asker" "stopped") rfl)
theorem Tx.meth_Asker_hear (t : Tx w K mg) : Meth K ((gm K).ca 22) "hear" (He.fAd K d_Asker_hear.at_) := He.meth_ok (t.d.fact 39 (f := .meth "Asker" "hear") rfl)
theorem Tx.meth_Asker_answered (t : Tx w K mg) : Meth K ((gm K).ca 22) "answered" (He.fAd K d_Asker_answered.at_) := He.meth_ok (t.d.fact 40 (f := .meth "Asker" "answered") rfl)
theorem Tx.meth_Asker_heard_of_ring (t : Tx w K mg) : Meth K ((gm K).ca 22) "heard_of_ring" (He.fAd K d_Asker_heard_of_ring.at_) := He.meth_ok (t.d.fact 41 (f := .meth "Asker" "heard_of_ring") rfl)
theorem Tx.meth_Asker_give_up (t : Tx w K mg) : Meth K ((gm K).ca 22) "give_up" (He.fAd K d_Asker_give_up.at_) := He.meth_ok (t.d.fact 42 (f := .meth "Asker" "give_up") rfl)
theorem Tx.meth_Asker_manner (t : Tx w K mg) : Meth K ((gm K).ca 22) "manner" (He.fAd K d_Asker_manner.at_) := He.meth_ok (t.d.fact 43 (f := .meth "Asker" "manner") rfl)
theorem Tx.meth_Asker_state (t : Tx w K mg) : Meth K ((gm K).ca 22) "state" (He.fAd K d_Asker_state.at_) := He.meth_ok (t.d.fact 44 (f := .meth "Asker" "state") rfl)
theorem Tx.meth_Asker_end (t : Tx w K mg) : Meth K ((gm K).ca 22) "end" (He.fAd K d_Asker_end.at_) := He.meth_ok (t.d.fact 45 (f := .meth "Asker" "end") rfl)
theorem Tx.meth_Asker_beats (t : Tx w K mg) : Meth K ((gm K).ca 22) "beats" (He.fAd K d_Asker_beats.at_) := He.meth_ok (t.d.fact 46 (f := .meth "Asker" "beats") rfl)
theorem Tx.meth_Asker_parts (t : Tx w K mg) : Meth K ((gm K).ca 22) "parts" (He.fAd K d_Asker_parts.at_) := He.meth_ok (t.d.fact 47 (f := .meth "Asker" "parts") rfl)
theorem Tx.meth_Asker_twin (t : Tx w K mg) : Meth K ((gm K).ca 22) "twin" (He.fAd K d_Asker_twin.at_) := He.meth_ok (t.d.fact 48 (f := .meth "Asker" "twin") rfl)
theorem Tx.meth_Asker___eq__ (t : Tx w K mg) : Meth K ((gm K).ca 22) "__eq__" (He.fAd K d_Asker___eq__.at_) := He.meth_ok (t.d.fact 49 (f := .meth "Asker" "__eq__") rfl)
theorem Tx.cls_Asked (t : Tx w K mg) : Cls K ((gm K).ca 23) := He.cls_ok (t.d.fact 51 (f := .cls "Asked") rfl)
theorem Tx.mkr_Asked (t : Tx w K mg) : Mk K ((gm K).ca 23) (He.fAd K ("Asked", some "__init__")) := He.mkr_ok (t.d.fact 52 (f := .mkr "Asked") rfl)
theorem Tx.noat_Asked_own_sort (t : Tx w K mg) : NoAttr K ((gm K).ca 23) ((gm K).fd 3) := He.noat_ok (t.d.fact 53 (f := .noat "Asked" "own_sort") rfl)
theorem Tx.noat_Asked_own_state (t : Tx w K mg) : NoAttr K ((gm K).ca 23) ((gm K).fd 4) := He.noat_ok (t.d.fact 54 (f := .noat "Asked" "own_state") rfl)
theorem Tx.noat_Asked_in_state (t : Tx w K mg) : NoAttr K ((gm K).ca 23) ((gm K).fd 5) := He.noat_ok (t.d.fact 55 (f := .noat "Asked" "in_state") rfl)
theorem Tx.noat_Asked_own_end (t : Tx w K mg) : NoAttr K ((gm K).ca 23) ((gm K).fd 6) := He.noat_ok (t.d.fact 56 (f := .noat "Asked" "own_end") rfl)
theorem Tx.noat_Asked_has_said (t : Tx w K mg) : NoAttr K ((gm K).ca 23) ((gm K).fd 9) := He.noat_ok (t.d.fact 57 (f := .noat "Asked" "has_said") rfl)
theorem Tx.noat_Asked_was_sure (t : Tx w K mg) : NoAttr K ((gm K).ca 23) ((gm K).fd 10) := He.noat_ok (t.d.fact 58 (f := .noat "Asked" "was_sure") rfl)
theorem Tx.meth_Asked___init__ (t : Tx w K mg) : Meth K ((gm K).ca 23) "__init__" (He.fAd K d_Asked___init__.at_) := He.meth_ok (t.d.fact 59 (f := .meth "Asked" "__init__") rfl)
theorem Tx.meth_Asked_turn (t : Tx w K mg) : Meth K ((gm K).ca 23) "turn" (He.fAd K d_Asked_turn.at_) := He.meth_ok (t.d.fact 60 (f := .meth "Asked" "turn") rfl)
theorem Tx.meth_Asked_say (t : Tx w K mg) : Meth K ((gm K).ca 23) "say" (He.fAd K d_Asked_say.at_) := He.meth_ok (t.d.fact 61 (f := .meth "Asked" "say") rfl)
theorem Tx.meth_Asked_hear_again (t : Tx w K mg) : Meth K ((gm K).ca 23) "hear_again" (He.fAd K d_Asked_hear_again.at_) := He.meth_ok (t.d.fact 62 (f := .meth "Asked" "hear_again") rfl)
theorem Tx.meth_Asked_hear_sure (t : Tx w K mg) : Meth K ((gm K).ca 23) "hear_sure" (He.fAd K d_Asked_hear_sure.at_) := He.meth_ok (t.d.fact 63 (f := .meth "Asked" "hear_sure") rfl)
theorem Tx.meth_Asked_beat (t : Tx w K mg) : Meth K ((gm K).ca 23) "beat" (He.fAd K d_Asked_beat.at_) := He.meth_ok (t.d.fact 64 (f := .meth "Asked" "beat") rfl)
theorem Tx.meth_Asked_manner (t : Tx w K mg) : Meth K ((gm K).ca 23) "manner" (He.fAd K d_Asked_manner.at_) := He.meth_ok (t.d.fact 65 (f := .meth "Asked" "manner") rfl)
theorem Tx.meth_Asked_state (t : Tx w K mg) : Meth K ((gm K).ca 23) "state" (He.fAd K d_Asked_state.at_) := He.meth_ok (t.d.fact 66 (f := .meth "Asked" "state") rfl)
theorem Tx.meth_Asked_end (t : Tx w K mg) : Meth K ((gm K).ca 23) "end" (He.fAd K d_Asked_end.at_) := He.meth_ok (t.d.fact 67 (f := .meth "Asked" "end") rfl)
theorem Tx.meth_Asked_is_sure (t : Tx w K mg) : Meth K ((gm K).ca 23) "is_sure" (He.fAd K d_Asked_is_sure.at_) := He.meth_ok (t.d.fact 68 (f := .meth "Asked" "is_sure") rfl)
theorem Tx.meth_Asked_parts (t : Tx w K mg) : Meth K ((gm K).ca 23) "parts" (He.fAd K d_Asked_parts.at_) := He.meth_ok (t.d.fact 69 (f := .meth "Asked" "parts") rfl)
theorem Tx.meth_Asked_twin (t : Tx w K mg) : Meth K ((gm K).ca 23) "twin" (He.fAd K d_Asked_twin.at_) := He.meth_ok (t.d.fact 70 (f := .meth "Asked" "twin") rfl)
theorem Tx.meth_Asked___eq__ (t : Tx w K mg) : Meth K ((gm K).ca 23) "__eq__" (He.fAd K d_Asked___eq__.at_) := He.meth_ok (t.d.fact 71 (f := .meth "Asked" "__eq__") rfl)
theorem Tx.con_SORTS (t : Tx w K mg) : Con1 (gm K) mg "SORTS" c_SORTS := let ⟨_, X, G⟩ := t.at_; constB_ok (g := gm K) X G (t.exi 0 rfl)
theorem Tx.con_LIFE (t : Tx w K mg) : Con1 (gm K) mg "LIFE" c_LIFE := let ⟨_, X, G⟩ := t.at_; constB_ok (g := gm K) X G (t.exi 1 rfl)
theorem Tx.con_QUIET (t : Tx w K mg) : Con1 (gm K) mg "QUIET" c_QUIET := let ⟨_, X, G⟩ := t.at_; constB_ok (g := gm K) X G (t.exi 2 rfl)
theorem Tx.con_RINGING (t : Tx w K mg) : Con1 (gm K) mg "RINGING" c_RINGING := let ⟨_, X, G⟩ := t.at_; constB_ok (g := gm K) X G (t.exi 3 rfl)
theorem Tx.con_SAID_AGAIN (t : Tx w K mg) : Con1 (gm K) mg "SAID_AGAIN" c_SAID_AGAIN := let ⟨_, X, G⟩ := t.at_; constB_ok (g := gm K) X G (t.exi 4 rfl)
theorem Tx.tab_ASKED_AGAIN (t : Tx w K mg) : KTab (gm K) w (He.ga K "ASKED_AGAIN") kt_ASKED_AGAIN := tab_ok (g := gm K) (t.s.tab 0 rfl) (t.exi 5 rfl)
theorem Tx.tab_ANSWERS (t : Tx w K mg) : KTab (gm K) w (He.ga K "ANSWERS") kt_ANSWERS := tab_ok (g := gm K) (t.s.tab 1 rfl) (t.exi 6 rfl)
theorem Tx.tab_LAST_BEAT (t : Tx w K mg) : KTab (gm K) w (He.ga K "LAST_BEAT") kt_LAST_BEAT := tab_ok (g := gm K) (t.s.tab 2 rfl) (t.exi 7 rfl)
theorem Tx.kit (t : Tx w K mg) : KitT (gm K) kitT := kitTB_ok (t.exi 8 rfl)
theorem Tx.eqx (t : Tx w K mg) : eqXB (gm K) [22, 23] = true := t.exi 9 rfl
theorem Tx.exm (t : Tx w K mg) : ExmT (gm K) exmT := exmTB_ok (t.exi 10 rfl)
theorem Tx.isx (t : Tx w K mg) : IsxT (gm K) isXT := isxTB_ok (t.exi 11 rfl)
theorem Tx.xf_thing (t : Tx w K mg) : XfT (gm K) xcs "thing" := xfTB_ok (t.exi 12 rfl)
theorem Tx.kdl_ANSWERS (t : Tx w K mg) : kdLenB (gm K).K (He.ga K "ANSWERS") 2 = true := t.exi 13 rfl
theorem Tx.xib_NoSort (t : Tx w K mg) : xiB K ((gm K).ca 2) (He.fAd K d_NoSort___init__.at_) ((gm K).ca 0) ((gm K).fd 0) = true := t.exi 14 rfl
theorem Tx.xib_NoWord (t : Tx w K mg) : xiB K ((gm K).ca 3) (He.fAd K d_NoWord___init__.at_) ((gm K).ca 0) ((gm K).fd 0) = true := t.exi 15 rfl
end
end K07
namespace K07
open PySem PySem.Spec PyProof.Rows L2 MR
theorem sc_NoSort___init__ : FnScope ["self", "thing"] ["self", "thing"] d_NoSort___init__.scope := ⟨rfl, rfl, rfl, by decide +kernel, rfl, by decide +kernel, by decide +kernel⟩
theorem Tx.xi_NoSort {P : Program} {w : World} {K : PySem.W.Frag} {mg : Str → Option Value} {base : Heap} (t : Tx w K mg) : XiOk P w (gm K).K mg base ((gm K).ca 2) ((gm K).fd 0) := by
  obtain ⟨fd, F⟩ := t.d.def_ 1 (d := d_NoSort___init__) rfl
  exact xi_ok (d := d_NoSort___init__) (ps := ["self", "thing"]) (x0 := "self") (x1 := "thing") (m := "refused") t.xib_NoSort F sc_NoSort___init__ rfl (fun _ _ _ _ _ _ us hl => match us, hl with | [_, _], _ => rfl) (fun hB cdv A outer sh H E => pss_xi (x0 := "self") (x1 := "thing") (xb := "RingError") rfl rfl (by first | exact Or.inl rfl | exact Or.inr (Or.inl rfl) | exact Or.inr (Or.inr rfl)) (by first | exact Or.inl rfl | exact Or.inr (Or.inl rfl) | exact Or.inr (Or.inr rfl)) rfl t.glo_RingError hB)
theorem sc_NoWord___init__ : FnScope ["self", "thing"] ["self", "thing"] d_NoWord___init__.scope := ⟨rfl, rfl, rfl, by decide +kernel, rfl, by decide +kernel, by decide +kernel⟩
theorem Tx.xi_NoWord {P : Program} {w : World} {K : PySem.W.Frag} {mg : Str → Option Value} {base : Heap} (t : Tx w K mg) : XiOk P w (gm K).K mg base ((gm K).ca 3) ((gm K).fd 0) := by
  obtain ⟨fd, F⟩ := t.d.def_ 2 (d := d_NoWord___init__) rfl
  exact xi_ok (d := d_NoWord___init__) (ps := ["self", "thing"]) (x0 := "self") (x1 := "thing") (m := "refused") t.xib_NoWord F sc_NoWord___init__ rfl (fun _ _ _ _ _ _ us hl => match us, hl with | [_, _], _ => rfl) (fun hB cdv A outer sh H E => pss_xi (x0 := "self") (x1 := "thing") (xb := "RingError") rfl rfl (by first | exact Or.inl rfl | exact Or.inr (Or.inl rfl) | exact Or.inr (Or.inr rfl)) (by first | exact Or.inl rfl | exact Or.inr (Or.inl rfl) | exact Or.inr (Or.inr rfl)) rfl t.glo_RingError hB)
theorem sc_Asker_parts : FnScope ["self"] ["self"] d_Asker_parts.scope := ⟨rfl, rfl, rfl, by decide +kernel, rfl, by decide +kernel, by decide +kernel⟩
theorem ok_Asker_parts {P : Program} {w : World} {K : PySem.W.Frag} {mg : Str → Option Value} {base : Heap} (t : Tx w K mg) : Cal P w (gm K) mg base 1 (He.fAd K d_Asker_parts.at_) 1 m_Asker_parts [] := by
  obtain ⟨fd, F⟩ := t.d.def_ 20 (d := d_Asker_parts) rfl
  exact cal_of (g := gm K) (d := d_Asker_parts) (N := ["self"]) (s := s_Asker_parts) ⟨fun _ => trivial, rfl⟩ F sc_Asker_parts rfl (fun _ _ _ _ _ _ us hl => match us, hl with | [_], _ => rfl) (fun cdv A outer sh H E hr hk hp => (by exact (by exact (last_ok (by exact (ret_ok (by exact (lstC_ok (by exact (by exact (cons_ok (by exact (fld_ok hk (by exact (var_ok (i := 0) rfl (by first | exact Or.inl rfl | exact Or.inr (Or.inl rfl) | exact Or.inr (Or.inr rfl)))) rfl rfl)) (by exact (cons_ok (by exact (fld_ok hk (by exact (var_ok (i := 0) rfl (by first | exact Or.inl rfl | exact Or.inr (Or.inl rfl) | exact Or.inr (Or.inr rfl)))) rfl rfl)) (by exact (cons_ok (by exact (fld_ok hk (by exact (var_ok (i := 0) rfl (by first | exact Or.inl rfl | exact Or.inr (Or.inl rfl) | exact Or.inr (Or.inr rfl)))) rfl rfl)) (by exact (cons_ok (by exact (fld_ok hk (by exact (var_ok (i := 0) rfl (by first | exact Or.inl rfl | exact Or.inr (Or.inl rfl) | exact Or.inr (Or.inr rfl)))) rfl rfl)) (by exact (cons_ok (by exact (fld_ok hk (by exact (var_ok (i := 0) rfl (by first | exact Or.inl rfl | exact Or.inr (Or.inl rfl) | exact Or.inr (Or.inr rfl)))) rfl rfl)) nil_ok)))))))))))))))))))
theorem sc_Asked_parts : FnScope ["self"] ["self"] d_Asked_parts.scope := ⟨rfl, rfl, rfl, by decide +kernel, rfl, by decide +kernel, by decide +kernel⟩
theorem ok_Asked_parts {P : Program} {w : World} {K : PySem.W.Frag} {mg : Str → Option Value} {base : Heap} (t : Tx w K mg) : Cal P w (gm K) mg base 1 (He.fAd K d_Asked_parts.at_) 1 m_Asked_parts [] := by
  obtain ⟨fd, F⟩ := t.d.def_ 33 (d := d_Asked_parts) rfl
  exact cal_of (g := gm K) (d := d_Asked_parts) (N := ["self"]) (s := s_Asked_parts) ⟨fun _ => trivial, rfl⟩ F sc_Asked_parts rfl (fun _ _ _ _ _ _ us hl => match us, hl with | [_], _ => rfl) (fun cdv A outer sh H E hr hk hp => (by exact (by exact (last_ok (by exact (ret_ok (by exact (lstC_ok (by exact (by exact (cons_ok (by exact (fld_ok hk (by exact (var_ok (i := 0) rfl (by first | exact Or.inl rfl | exact Or.inr (Or.inl rfl) | exact Or.inr (Or.inr rfl)))) rfl rfl)) (by exact (cons_ok (by exact (fld_ok hk (by exact (var_ok (i := 0) rfl (by first | exact Or.inl rfl | exact Or.inr (Or.inl rfl) | exact Or.inr (Or.inr rfl)))) rfl rfl)) (by exact (cons_ok (by exact (fld_ok hk (by exact (var_ok (i := 0) rfl (by first | exact Or.inl rfl | exact Or.inr (Or.inl rfl) | exact Or.inr (Or.inr rfl)))) rfl rfl)) (by exact (cons_ok (by exact (fld_ok hk (by exact (var_ok (i := 0) rfl (by first | exact Or.inl rfl | exact Or.inr (Or.inl rfl) | exact Or.inr (Or.inr rfl)))) rfl rfl)) (by exact (cons_ok (by exact (fld_ok hk (by exact (var_ok (i := 0) rfl (by first | exact Or.inl rfl | exact Or.inr (Or.inl rfl) | exact Or.inr (Or.inr rfl)))) rfl rfl)) (by exact (cons_ok (by exact (fld_ok hk (by exact (var_ok (i := 0) rfl (by first | exact Or.inl rfl | exact Or.inr (Or.inl rfl) | exact Or.inr (Or.inr rfl)))) rfl rfl)) nil_ok)))))))))))))))))))))
theorem Tx.mts_parts {P : Program} {w : World} {K : PySem.W.Frag} {mg : Str → Option Value} {base : Heap} (t : Tx w K mg) : MtsOk P w (gm K) mg base 1 "parts" [(22, (1, m_Asker_parts, [])), (23, (1, m_Asked_parts, []))] := (mts_cons ⟨(ok_Asker_parts t).mono (by decide), t.meth_Asker_parts⟩ (mts_cons ⟨(ok_Asked_parts t).mono (by decide), t.meth_Asked_parts⟩ mts_nil))
theorem sc_Asker___eq__ : FnScope ["self", "other"] ["self", "other"] d_Asker___eq__.scope := ⟨rfl, rfl, rfl, by decide +kernel, rfl, by decide +kernel, by decide +kernel⟩
theorem ok_Asker___eq__ {P : Program} {w : World} {K : PySem.W.Frag} {mg : Str → Option Value} {base : Heap} (t : Tx w K mg) : Cal P w (gm K) mg base 2 (He.fAd K d_Asker___eq__.at_) 2 m_Asker___eq__ [] := by
  obtain ⟨fd, F⟩ := t.d.def_ 22 (d := d_Asker___eq__) rfl
  exact cal_of (g := gm K) (d := d_Asker___eq__) (N := ["self", "other"]) (s := s_Asker___eq__) ⟨fun _ => trivial, rfl⟩ F sc_Asker___eq__ rfl (fun _ _ _ _ _ _ us hl => match us, hl with | [_, _], _ => rfl) (fun cdv A outer sh H E hr hk hp => (by exact (by exact (last_ok (by exact (ret_ok (by exact (by exact (and_ok hk (by exact (isi_ok hk t.kit rfl t.free_isinstance (by exact (var_ok (i := 1) rfl (by first | exact Or.inl rfl | exact Or.inr (Or.inl rfl) | exact Or.inr (Or.inr rfl)))) (by exact (clsOwn (x := "Asker") (c := 22) rfl t.glo_Asker)))) (by exact (one_ok (by exact (cmp_ok (op_eqD (by have := hk.un; omega)) eq_S (by exact (meth0_ok hk (hr.mono (by decide)) (t.mts_parts).ct (by exact (var_ok (i := 0) rfl (by first | exact Or.inl rfl | exact Or.inr (Or.inl rfl) | exact Or.inr (Or.inr rfl)))))) (by exact (meth0_ok hk (hr.mono (by decide)) (t.mts_parts).ct (by exact (var_ok (i := 1) rfl (by first | exact Or.inl rfl | exact Or.inr (Or.inl rfl) | exact Or.inr (Or.inr rfl)))))) (nomark _))))))))))))))
theorem sc_Asked___eq__ : FnScope ["self", "other"] ["self", "other"] d_Asked___eq__.scope := ⟨rfl, rfl, rfl, by decide +kernel, rfl, by decide +kernel, by decide +kernel⟩
theorem ok_Asked___eq__ {P : Program} {w : World} {K : PySem.W.Frag} {mg : Str → Option Value} {base : Heap} (t : Tx w K mg) : Cal P w (gm K) mg base 2 (He.fAd K d_Asked___eq__.at_) 2 m_Asked___eq__ [] := by
  obtain ⟨fd, F⟩ := t.d.def_ 35 (d := d_Asked___eq__) rfl
  exact cal_of (g := gm K) (d := d_Asked___eq__) (N := ["self", "other"]) (s := s_Asked___eq__) ⟨fun _ => trivial, rfl⟩ F sc_Asked___eq__ rfl (fun _ _ _ _ _ _ us hl => match us, hl with | [_, _], _ => rfl) (fun cdv A outer sh H E hr hk hp => (by exact (by exact (last_ok (by exact (ret_ok (by exact (by exact (and_ok hk (by exact (isi_ok hk t.kit rfl t.free_isinstance (by exact (var_ok (i := 1) rfl (by first | exact Or.inl rfl | exact Or.inr (Or.inl rfl) | exact Or.inr (Or.inr rfl)))) (by exact (clsOwn (x := "Asked") (c := 23) rfl t.glo_Asked)))) (by exact (one_ok (by exact (cmp_ok (op_eqD (by have := hk.un; omega)) eq_S (by exact (meth0_ok hk (hr.mono (by decide)) (t.mts_parts).ct (by exact (var_ok (i := 0) rfl (by first | exact Or.inl rfl | exact Or.inr (Or.inl rfl) | exact Or.inr (Or.inr rfl)))))) (by exact (meth0_ok hk (hr.mono (by decide)) (t.mts_parts).ct (by exact (var_ok (i := 1) rfl (by first | exact Or.inl rfl | exact Or.inr (Or.inl rfl) | exact Or.inr (Or.inr rfl)))))) (nomark _))))))))))))))
theorem sc__law_pool : FnScope ["_law_script", "_law_k", "_law_cell", "_law_size", "_law_seed"] ["_law_script", "_law_k"] d__law_pool.scope := ⟨rfl, rfl, rfl, by decide +kernel, rfl, by decide +kernel, by decide +kernel⟩
theorem ok__law_pool {P : Program} {w : World} {K : PySem.W.Frag} {mg : Str → Option Value} {base : Heap} (t : Tx w K mg) : Cal P w (gm K) mg base 1 (He.fAd K d__law_pool.at_) 2 m__law_pool [] := by
  obtain ⟨fd, F⟩ := t.d.def_ 36 (d := d__law_pool) rfl
  exact cal_of (g := gm K) (d := d__law_pool) (N := ["_law_script", "_law_k", "_law_cell", "_law_size", "_law_seed"]) (s := s__law_pool) ⟨fun _ => trivial, rfl⟩ F sc__law_pool rfl (fun _ _ _ _ _ _ us hl => match us, hl with | [_, _], _ => rfl) (fun cdv A outer sh H E hr hk hp => (by exact (by exact (seq_ok (by exact (set_ok (i := 2) hk rfl (by first | exact Or.inl rfl | exact Or.inr rfl) int_ok)) (by exact (seq_ok (by exact (if_ok (by exact (cmpT_ok op_lt (cmpI_S _) (by exact (var_ok (i := 1) rfl (by first | exact Or.inl rfl | exact Or.inr (Or.inl rfl) | exact Or.inr (Or.inr rfl)))) (by exact (bltB_ok (x := "len") call_lenA len_S rfl t.free_len rfl (by exact (by exact (cons_ok (by exact (var_ok (i := 0) rfl (by first | exact Or.inl rfl | exact Or.inr (Or.inl rfl) | exact Or.inr (Or.inr rfl)))) nil_ok))))) (nomark _))) (by exact (by exact (last_ok (by exact (set_ok (i := 2) hk rfl (by first | exact Or.inl rfl | exact Or.inr rfl) (by exact (idx_ok hk (by exact (var_ok (i := 0) rfl (by first | exact Or.inl rfl | exact Or.inr (Or.inl rfl) | exact Or.inr (Or.inr rfl)))) (by exact (var_ok (i := 1) rfl (by first | exact Or.inl rfl | exact Or.inr (Or.inl rfl) | exact Or.inr (Or.inr rfl)))) (fun _ _ => rfl)))))))) nil_S)) (by exact (seq_ok (by exact (set_ok (i := 3) hk rfl (by first | exact Or.inl rfl | exact Or.inr rfl) (by exact (bltB_ok (x := "abs") call_abs abs_S rfl t.free_abs rfl (by exact (by exact (cons_ok (by exact (var_ok (i := 2) rfl (by first | exact Or.inl rfl | exact Or.inr (Or.inl rfl) | exact Or.inr (Or.inr rfl)))) nil_ok))))))) (by exact (seq_ok (by exact (set_ok (i := 4) hk rfl (by first | exact Or.inl rfl | exact Or.inr rfl) (by exact (bin_ok op_mod mod_S (by exact (bin_ok op_pow pow_S (by exact (bin_ok op_addA add_S (by exact (bin_ok op_addA add_S (by exact (bin_ok op_addA add_S (by exact (bin_ok op_mod mod_S (by exact (var_ok (i := 2) rfl (by first | exact Or.inl rfl | exact Or.inr (Or.inl rfl) | exact Or.inr (Or.inr rfl)))) int_ok)) (by exact (bin_ok op_mulSA mulX_S (by exact (bin_ok op_mulSA mulX_S int_ok (by exact (var_ok (i := 1) rfl (by first | exact Or.inl rfl | exact Or.inr (Or.inl rfl) | exact Or.inr (Or.inr rfl)))))) (by exact (var_ok (i := 1) rfl (by first | exact Or.inl rfl | exact Or.inr (Or.inl rfl) | exact Or.inr (Or.inr rfl)))))))) (by exact (bin_ok op_mulSA mulX_S int_ok (by exact (var_ok (i := 1) rfl (by first | exact Or.inl rfl | exact Or.inr (Or.inl rfl) | exact Or.inr (Or.inr rfl)))))))) int_ok)) int_ok)) int_ok)))) (by exact (last_ok (by exact (ret_ok (by exact (lstC_ok (by exact (by exact (cons_ok (by exact (bin_ok op_mulSA mulX_S (by exact (var_ok (i := 3) rfl (by first | exact Or.inl rfl | exact Or.inr (Or.inl rfl) | exact Or.inr (Or.inr rfl)))) (by exact (bltT_ok (x := "int") call_int1 int_S rfl t.free_int rfl (by exact (by exact (cons_ok (by exact (cmp_ok op_ge (cmpI_S _) (by exact (var_ok (i := 3) rfl (by first | exact Or.inl rfl | exact Or.inr (Or.inl rfl) | exact Or.inr (Or.inr rfl)))) (by exact (bin_ok op_pow pow_S int_ok int_ok)) (nomark _))) nil_ok))))))) (by exact (cons_ok (by exact (var_ok (i := 4) rfl (by first | exact Or.inl rfl | exact Or.inr (Or.inl rfl) | exact Or.inr (Or.inr rfl)))) nil_ok)))))))))))))))))))))
theorem sc__law_take : FnScope ["_law_pool_here", "_law_many", "_law_found"] ["_law_pool_here", "_law_many"] d__law_take.scope := ⟨rfl, rfl, rfl, by decide +kernel, rfl, by decide +kernel, by decide +kernel⟩
theorem ok__law_take {P : Program} {w : World} {K : PySem.W.Frag} {mg : Str → Option Value} {base : Heap} (t : Tx w K mg) : Cal P w (gm K) mg base 1 (He.fAd K d__law_take.at_) 2 m__law_take [] := by
  obtain ⟨fd, F⟩ := t.d.def_ 37 (d := d__law_take) rfl
  exact cal_of (g := gm K) (d := d__law_take) (N := ["_law_pool_here", "_law_many", "_law_found"]) (s := s__law_take) ⟨fun _ => trivial, rfl⟩ F sc__law_take rfl (fun _ _ _ _ _ _ us hl => match us, hl with | [_, _], _ => rfl) (fun cdv A outer sh H E hr hk hp => (by exact (by exact (seq_ok (by exact (if_ok (by exact (cmpT_ok op_gt (cmpI_S _) (by exact (idx_ok hk (by exact (var_ok (i := 0) rfl (by first | exact Or.inl rfl | exact Or.inr (Or.inl rfl) | exact Or.inr (Or.inr rfl)))) int_ok (fun _ _ => rfl))) int_ok (nomark _))) (by exact (by exact (seq_ok (by exact (set_ok (i := 2) hk rfl (by first | exact Or.inl rfl | exact Or.inr rfl) (by exact (bin_ok op_mod mod_S (by exact (idx_ok hk (by exact (var_ok (i := 0) rfl (by first | exact Or.inl rfl | exact Or.inr (Or.inl rfl) | exact Or.inr (Or.inr rfl)))) int_ok (fun _ _ => rfl))) (by exact (var_ok (i := 1) rfl (by first | exact Or.inl rfl | exact Or.inr (Or.inl rfl) | exact Or.inr (Or.inr rfl)))))))) (by exact (seq_ok (by exact (asg_ok (by exact (bin_ok op_fdiv div_S (by exact (idx_ok hk (by exact (var_ok (i := 0) rfl (by first | exact Or.inl rfl | exact Or.inr (Or.inl rfl) | exact Or.inr (Or.inr rfl)))) int_ok (fun _ _ => rfl))) (by exact (var_ok (i := 1) rfl (by first | exact Or.inl rfl | exact Or.inr (Or.inl rfl) | exact Or.inr (Or.inr rfl)))))) (by exact (tgI_ok hk (by exact (var_ok (i := 0) rfl (by first | exact Or.inl rfl | exact Or.inr (Or.inl rfl) | exact Or.inr (Or.inr rfl)))) int_ok)))) (by exact (last_ok (by exact (ret_ok (by exact (var_ok (i := 2) rfl (by first | exact Or.inl rfl | exact Or.inr (Or.inl rfl) | exact Or.inr (Or.inr rfl))))))))))))) nil_S)) (by exact (seq_ok (by exact (asg_ok (by exact (bin_ok op_mod mod_S (by exact (bin_ok op_addA add_S (by exact (bin_ok op_mulSA mulX_S (by exact (idx_ok hk (by exact (var_ok (i := 0) rfl (by first | exact Or.inl rfl | exact Or.inr (Or.inl rfl) | exact Or.inr (Or.inr rfl)))) int_ok (fun _ _ => rfl))) int_ok)) int_ok)) int_ok)) (by exact (tgI_ok hk (by exact (var_ok (i := 0) rfl (by first | exact Or.inl rfl | exact Or.inr (Or.inl rfl) | exact Or.inr (Or.inr rfl)))) int_ok)))) (by exact (last_ok (by exact (ret_ok (by exact (bin_ok op_mod mod_S (by exact (bin_ok op_fdiv div_S (by exact (bin_ok op_mod mod_S (by exact (bin_ok op_mulSA mulX_S (by exact (idx_ok hk (by exact (var_ok (i := 0) rfl (by first | exact Or.inl rfl | exact Or.inr (Or.inl rfl) | exact Or.inr (Or.inr rfl)))) int_ok (fun _ _ => rfl))) (by exact (idx_ok hk (by exact (var_ok (i := 0) rfl (by first | exact Or.inl rfl | exact Or.inr (Or.inl rfl) | exact Or.inr (Or.inr rfl)))) int_ok (fun _ _ => rfl))))) int_ok)) int_ok)) (by exact (var_ok (i := 1) rfl (by first | exact Or.inl rfl | exact Or.inr (Or.inl rfl) | exact Or.inr (Or.inr rfl))))))))))))))))
theorem sc_look_at_sort : FnScope ["thing"] ["thing"] d_look_at_sort.scope := ⟨rfl, rfl, rfl, by decide +kernel, rfl, by decide +kernel, by decide +kernel⟩
theorem ok_look_at_sort {P : Program} {w : World} {K : PySem.W.Frag} {mg : Str → Option Value} {base : Heap} (t : Tx w K mg) : Cal P w (gm K) mg base 3 (He.fAd K d_look_at_sort.at_) 1 m_look_at_sort [] := by
  obtain ⟨fd, F⟩ := t.d.def_ 3 (d := d_look_at_sort) rfl
  exact cal_of (g := gm K) (d := d_look_at_sort) (N := ["thing"]) (s := s_look_at_sort) ⟨fun _ => trivial, rfl⟩ F sc_look_at_sort rfl (fun _ _ _ _ _ _ us hl => match us, hl with | [_], _ => rfl) (fun cdv A outer sh H E hr hk hp => (by exact (by exact (last_ok (by exact (if_ok (by exact (PW.pt (by exact (by exact (orT_ok (by exact (notT_ok (by exact (truth_ok hk (by exact (isi_ok hk t.kit rfl t.free_isinstance (by exact (var_ok (i := 0) rfl (by first | exact Or.inl rfl | exact Or.inr (Or.inl rfl) | exact Or.inr (Or.inr rfl)))) (by exact (clsTy (x := "str") rfl t.free_str rfl)))))))) (by exact (or1T_ok (by exact (cmpT_ok (op_notinA (by have := hk.un; omega)) (in_S true) (by exact (var_ok (i := 0) rfl (by first | exact Or.inl rfl | exact Or.inr (Or.inl rfl) | exact Or.inr (Or.inr rfl)))) (by exact (con_ok (x := "SORTS") (t.con_SORTS) rfl)) (by with_unfolding_all rfl)))))))))) (by exact (by exact (last_ok (by exact (raise1_ok (x := "NoSort") hk (hr.mono (by decide)) (t.xi_NoSort) rfl t.glo_NoSort (by exact (by exact (cons_ok (by exact (var_ok (i := 0) rfl (by first | exact Or.inl rfl | exact Or.inr (Or.inl rfl) | exact Or.inr (Or.inr rfl)))) nil_ok)))))))) nil_S))))))
theorem sc_Asker___init__ : FnScope ["self", "sort"] ["self", "sort"] d_Asker___init__.scope := ⟨rfl, rfl, rfl, by decide +kernel, rfl, by decide +kernel, by decide +kernel⟩
theorem ok_Asker___init__ {P : Program} {w : World} {K : PySem.W.Frag} {mg : Str → Option Value} {base : Heap} (t : Tx w K mg) : Cal P w (gm K) mg base 4 (He.fAd K d_Asker___init__.at_) 2 m_Asker___init__ [] := by
  obtain ⟨fd, F⟩ := t.d.def_ 4 (d := d_Asker___init__) rfl
  exact cal_of (g := gm K) (d := d_Asker___init__) (N := ["self", "sort"]) (s := s_Asker___init__) ⟨fun _ => trivial, rfl⟩ F sc_Asker___init__ rfl (fun _ _ _ _ _ _ us hl => match us, hl with | [_, _], _ => rfl) (fun cdv A outer sh H E hr hk hp => (by exact (by exact (seq_ok (by exact (expr_ok (by exact (call_ok (x := "look_at_sort") hk (hr.mono (by decide)) (ok_look_at_sort t) rfl t.glo_look_at_sort (by exact (by exact (cons_ok (by exact (var_ok (i := 1) rfl (by first | exact Or.inl rfl | exact Or.inr (Or.inl rfl) | exact Or.inr (Or.inr rfl)))) nil_ok))))))) (by exact (seq_ok (by exact (fldSet_ok hk rfl (one_cs (t.noat_Asker_own_sort)) (by exact (var_ok (i := 0) rfl (by first | exact Or.inl rfl | exact Or.inr (Or.inl rfl) | exact Or.inr (Or.inr rfl)))) (by exact (var_ok (i := 1) rfl (by first | exact Or.inl rfl | exact Or.inr (Or.inl rfl) | exact Or.inr (Or.inr rfl)))))) (by exact (seq_ok (by exact (fldSet_ok hk rfl (one_cs (t.noat_Asker_own_state)) (by exact (var_ok (i := 0) rfl (by first | exact Or.inl rfl | exact Or.inr (Or.inl rfl) | exact Or.inr (Or.inr rfl)))) (by exact (str_ok (by kernel_rfl))))) (by exact (seq_ok (by exact (fldSet_ok hk rfl (one_cs (t.noat_Asker_in_state)) (by exact (var_ok (i := 0) rfl (by first | exact Or.inl rfl | exact Or.inr (Or.inl rfl) | exact Or.inr (Or.inr rfl)))) int_ok)) (by exact (seq_ok (by exact (fldSet_ok hk rfl (one_cs (t.noat_Asker_own_end)) (by exact (var_ok (i := 0) rfl (by first | exact Or.inl rfl | exact Or.inr (Or.inl rfl) | exact Or.inr (Or.inr rfl)))) non_ok)) (by exact (seq_ok (by exact (fldSet_ok hk rfl (one_cs (t.noat_Asker_is_given)) (by exact (var_ok (i := 0) rfl (by first | exact Or.inl rfl | exact Or.inr (Or.inl rfl) | exact Or.inr (Or.inr rfl)))) bl_ok)) (by exact (last_ok (by exact (fldSet_ok hk rfl (one_cs (t.noat_Asker_many_beats)) (by exact (var_ok (i := 0) rfl (by first | exact Or.inl rfl | exact Or.inr (Or.inl rfl) | exact Or.inr (Or.inr rfl)))) int_ok))))))))))))))))))
theorem okK_Asker___init___1_sort {P : Program} {w : World} {K : PySem.W.Frag} {mg : Str → Option Value} {base : Heap} (t : Tx w K mg) : CalK P w (gm K) mg base 4 (He.fAd K d_Asker___init__.at_) 1 ["sort"] [0, 1] 2 m_Asker___init__ [] := by
  obtain ⟨fd, F⟩ := t.d.def_ 4 (d := d_Asker___init__) rfl
  exact calK_no (g := gm K) (d := d_Asker___init__) (N := ["self", "sort"]) (ks := ["sort"]) (idx := [0, 1]) (s := s_Asker___init__) ⟨fun _ => trivial, rfl⟩ F sc_Asker___init__ rfl (fun _ _ _ _ _ _ us ws h1 h2 => match us, ws, h1, h2 with | [_], [_], _, _ => rfl) (fun cdv A outer sh H E hr hk hp => (by exact (by exact (seq_ok (by exact (expr_ok (by exact (call_ok (x := "look_at_sort") hk (hr.mono (by decide)) (ok_look_at_sort t) rfl t.glo_look_at_sort (by exact (by exact (cons_ok (by exact (var_ok (i := 1) rfl (by first | exact Or.inl rfl | exact Or.inr (Or.inl rfl) | exact Or.inr (Or.inr rfl)))) nil_ok))))))) (by exact (seq_ok (by exact (fldSet_ok hk rfl (one_cs (t.noat_Asker_own_sort)) (by exact (var_ok (i := 0) rfl (by first | exact Or.inl rfl | exact Or.inr (Or.inl rfl) | exact Or.inr (Or.inr rfl)))) (by exact (var_ok (i := 1) rfl (by first | exact Or.inl rfl | exact Or.inr (Or.inl rfl) | exact Or.inr (Or.inr rfl)))))) (by exact (seq_ok (by exact (fldSet_ok hk rfl (one_cs (t.noat_Asker_own_state)) (by exact (var_ok (i := 0) rfl (by first | exact Or.inl rfl | exact Or.inr (Or.inl rfl) | exact Or.inr (Or.inr rfl)))) (by exact (str_ok (by kernel_rfl))))) (by exact (seq_ok (by exact (fldSet_ok hk rfl (one_cs (t.noat_Asker_in_state)) (by exact (var_ok (i := 0) rfl (by first | exact Or.inl rfl | exact Or.inr (Or.inl rfl) | exact Or.inr (Or.inr rfl)))) int_ok)) (by exact (seq_ok (by exact (fldSet_ok hk rfl (one_cs (t.noat_Asker_own_end)) (by exact (var_ok (i := 0) rfl (by first | exact Or.inl rfl | exact Or.inr (Or.inl rfl) | exact Or.inr (Or.inr rfl)))) non_ok)) (by exact (seq_ok (by exact (fldSet_ok hk rfl (one_cs (t.noat_Asker_is_given)) (by exact (var_ok (i := 0) rfl (by first | exact Or.inl rfl | exact Or.inr (Or.inl rfl) | exact Or.inr (Or.inr rfl)))) bl_ok)) (by exact (last_ok (by exact (fldSet_ok hk rfl (one_cs (t.noat_Asker_many_beats)) (by exact (var_ok (i := 0) rfl (by first | exact Or.inl rfl | exact Or.inr (Or.inl rfl) | exact Or.inr (Or.inr rfl)))) int_ok))))))))))))))))))
theorem sc_Asker_turn : FnScope ["self", "state"] ["self", "state"] d_Asker_turn.scope := ⟨rfl, rfl, rfl, by decide +kernel, rfl, by decide +kernel, by decide +kernel⟩
theorem ok_Asker_turn {P : Program} {w : World} {K : PySem.W.Frag} {mg : Str → Option Value} {base : Heap} (t : Tx w K mg) : Cal P w (gm K) mg base 1 (He.fAd K d_Asker_turn.at_) 2 m_Asker_turn [] := by
  obtain ⟨fd, F⟩ := t.d.def_ 5 (d := d_Asker_turn) rfl
  exact cal_of (g := gm K) (d := d_Asker_turn) (N := ["self", "state"]) (s := s_Asker_turn) ⟨fun _ => trivial, rfl⟩ F sc_Asker_turn rfl (fun _ _ _ _ _ _ us hl => match us, hl with | [_, _], _ => rfl) (fun cdv A outer sh H E hr hk hp => (by exact (by exact (seq_ok (by exact (fldSet_ok hk rfl no_cs (by exact (var_ok (i := 0) rfl (by first | exact Or.inl rfl | exact Or.inr (Or.inl rfl) | exact Or.inr (Or.inr rfl)))) (by exact (var_ok (i := 1) rfl (by first | exact Or.inl rfl | exact Or.inr (Or.inl rfl) | exact Or.inr (Or.inr rfl)))))) (by exact (last_ok (by exact (fldSet_ok hk rfl no_cs (by exact (var_ok (i := 0) rfl (by first | exact Or.inl rfl | exact Or.inr (Or.inl rfl) | exact Or.inr (Or.inr rfl)))) int_ok))))))))
theorem sc_Asked_turn : FnScope ["self", "state"] ["self", "state"] d_Asked_turn.scope := ⟨rfl, rfl, rfl, by decide +kernel, rfl, by decide +kernel, by decide +kernel⟩
theorem ok_Asked_turn {P : Program} {w : World} {K : PySem.W.Frag} {mg : Str → Option Value} {base : Heap} (t : Tx w K mg) : Cal P w (gm K) mg base 1 (He.fAd K d_Asked_turn.at_) 2 m_Asked_turn [] := by
  obtain ⟨fd, F⟩ := t.d.def_ 24 (d := d_Asked_turn) rfl
  exact cal_of (g := gm K) (d := d_Asked_turn) (N := ["self", "state"]) (s := s_Asked_turn) ⟨fun _ => trivial, rfl⟩ F sc_Asked_turn rfl (fun _ _ _ _ _ _ us hl => match us, hl with | [_, _], _ => rfl) (fun cdv A outer sh H E hr hk hp => (by exact (by exact (seq_ok (by exact (fldSet_ok hk rfl no_cs (by exact (var_ok (i := 0) rfl (by first | exact Or.inl rfl | exact Or.inr (Or.inl rfl) | exact Or.inr (Or.inr rfl)))) (by exact (var_ok (i := 1) rfl (by first | exact Or.inl rfl | exact Or.inr (Or.inl rfl) | exact Or.inr (Or.inr rfl)))))) (by exact (last_ok (by exact (fldSet_ok hk rfl no_cs (by exact (var_ok (i := 0) rfl (by first | exact Or.inl rfl | exact Or.inr (Or.inl rfl) | exact Or.inr (Or.inr rfl)))) int_ok))))))))
theorem Tx.mts_turn {P : Program} {w : World} {K : PySem.W.Frag} {mg : Str → Option Value} {base : Heap} (t : Tx w K mg) : MtsOk P w (gm K) mg base 1 "turn" [(22, (2, m_Asker_turn, [])), (23, (2, m_Asked_turn, []))] := (mts_cons ⟨(ok_Asker_turn t).mono (by decide), t.meth_Asker_turn⟩ (mts_cons ⟨(ok_Asked_turn t).mono (by decide), t.meth_Asked_turn⟩ mts_nil))
theorem sc_Asker_stopped : FnScope ["self"] ["self"] d_Asker_stopped.scope := ⟨rfl, rfl, rfl, by decide +kernel, rfl, by decide +kernel, by decide +kernel⟩
theorem ok_Asker_stopped {P : Program} {w : World} {K : PySem.W.Frag} {mg : Str → Option Value} {base : Heap} (t : Tx w K mg) : Cal P w (gm K) mg base 2 (He.fAd K d_Asker_stopped.at_) 1 m_Asker_stopped [] := by
  obtain ⟨fd, F⟩ := t.d.def_ 11 (d := d_Asker_stopped) rfl
  exact cal_of (g := gm K) (d := d_Asker_stopped) (N := ["self"]) (s := s_Asker_stopped) ⟨fun _ => trivial, rfl⟩ F sc_Asker_stopped rfl (fun _ _ _ _ _ _ us hl => match us, hl with | [_], _ => rfl) (fun cdv A outer sh H E hr hk hp => (by exact (by exact (seq_ok (by exact (expr_ok (by exact (meth_ok hk (hr.mono (by decide)) (t.mts_turn).ct (by exact (var_ok (i := 0) rfl (by first | exact Or.inl rfl | exact Or.inr (Or.inl rfl) | exact Or.inr (Or.inr rfl)))) (by exact (by exact (cons_ok (by exact (str_ok (by kernel_rfl))) nil_ok))))))) (by exact (last_ok (by exact (ret_ok (by exact (lstC_ok (by exact (by exact (cons_ok (by exact (str_ok (by kernel_rfl))) nil_ok)))))))))))))
theorem Tx.mts_stopped {P : Program} {w : World} {K : PySem.W.Frag} {mg : Str → Option Value} {base : Heap} (t : Tx w K mg) : MtsOk P w (gm K) mg base 2 "stopped" [(22, (1, m_Asker_stopped, []))] := (mts_cons ⟨(ok_Asker_stopped t).mono (by decide), t.meth_Asker_stopped⟩ mts_nil)
theorem sc_Asker_give_up : FnScope ["self"] ["self"] d_Asker_give_up.scope := ⟨rfl, rfl, rfl, by decide +kernel, rfl, by decide +kernel, by decide +kernel⟩
theorem ok_Asker_give_up {P : Program} {w : World} {K : PySem.W.Frag} {mg : Str → Option Value} {base : Heap} (t : Tx w K mg) : Cal P w (gm K) mg base 3 (He.fAd K d_Asker_give_up.at_) 1 m_Asker_give_up [] := by
  obtain ⟨fd, F⟩ := t.d.def_ 15 (d := d_Asker_give_up) rfl
  exact cal_of (g := gm K) (d := d_Asker_give_up) (N := ["self"]) (s := s_Asker_give_up) ⟨fun _ => trivial, rfl⟩ F sc_Asker_give_up rfl (fun _ _ _ _ _ _ us hl => match us, hl with | [_], _ => rfl) (fun cdv A outer sh H E hr hk hp => (by exact (by exact (seq_ok (by exact (if_ok (by exact (PW.pt (by exact (by exact (andT_ok (by exact (cmpT_ok (op_eqD (by have := hk.un; omega)) eq_S (by exact (fld_ok hk (by exact (var_ok (i := 0) rfl (by first | exact Or.inl rfl | exact Or.inr (Or.inl rfl) | exact Or.inr (Or.inr rfl)))) rfl rfl)) (by exact (str_ok (by kernel_rfl))) (nomark _))) (by exact (and1T_ok (by exact (cmpT_ok (op_eqD (by have := hk.un; omega)) eq_S (by exact (fld_ok hk (by exact (var_ok (i := 0) rfl (by first | exact Or.inl rfl | exact Or.inr (Or.inl rfl) | exact Or.inr (Or.inr rfl)))) rfl rfl)) (by exact (str_ok (by kernel_rfl))) (nomark _)))))))))) (by exact (by exact (last_ok (by exact (ret_ok (by exact (meth0_ok hk (hr.mono (by decide)) (t.mts_stopped).ct (by exact (var_ok (i := 0) rfl (by first | exact Or.inl rfl | exact Or.inr (Or.inl rfl) | exact Or.inr (Or.inr rfl))))))))))) nil_S)) (by exact (seq_ok (by exact (if_ok (by exact (PW.pt (by exact (by exact (andT_ok (by exact (cmpT_ok (op_eqD (by have := hk.un; omega)) eq_S (by exact (fld_ok hk (by exact (var_ok (i := 0) rfl (by first | exact Or.inl rfl | exact Or.inr (Or.inl rfl) | exact Or.inr (Or.inr rfl)))) rfl rfl)) (by exact (str_ok (by kernel_rfl))) (nomark _))) (by exact (and1T_ok (by exact (cmpT_ok (op_eqD (by have := hk.un; omega)) eq_S (by exact (fld_ok hk (by exact (var_ok (i := 0) rfl (by first | exact Or.inl rfl | exact Or.inr (Or.inl rfl) | exact Or.inr (Or.inr rfl)))) rfl rfl)) (by exact (str_ok (by kernel_rfl))) (nomark _)))))))))) (by exact (by exact (last_ok (by exact (fldSet_ok hk rfl no_cs (by exact (var_ok (i := 0) rfl (by first | exact Or.inl rfl | exact Or.inr (Or.inl rfl) | exact Or.inr (Or.inr rfl)))) bl_ok))))) nil_S)) (by exact (last_ok (by exact (ret_ok (by exact (lstC_ok nil_ok))))))))))))
theorem sc_Asker_finish : FnScope ["self", "end"] ["self", "end"] d_Asker_finish.scope := ⟨rfl, rfl, rfl, by decide +kernel, rfl, by decide +kernel, by decide +kernel⟩
theorem ok_Asker_finish {P : Program} {w : World} {K : PySem.W.Frag} {mg : Str → Option Value} {base : Heap} (t : Tx w K mg) : Cal P w (gm K) mg base 1 (He.fAd K d_Asker_finish.at_) 2 m_Asker_finish [] := by
  obtain ⟨fd, F⟩ := t.d.def_ 6 (d := d_Asker_finish) rfl
  exact cal_of (g := gm K) (d := d_Asker_finish) (N := ["self", "end"]) (s := s_Asker_finish) ⟨fun _ => trivial, rfl⟩ F sc_Asker_finish rfl (fun _ _ _ _ _ _ us hl => match us, hl with | [_, _], _ => rfl) (fun cdv A outer sh H E hr hk hp => (by exact (by exact (last_ok (by exact (if_ok (by exact (cmpT_ok op_isN isN_S (by exact (fld_ok hk (by exact (var_ok (i := 0) rfl (by first | exact Or.inl rfl | exact Or.inr (Or.inl rfl) | exact Or.inr (Or.inr rfl)))) rfl rfl)) non_ok (nomark _))) (by exact (by exact (last_ok (by exact (fldSet_ok hk rfl no_cs (by exact (var_ok (i := 0) rfl (by first | exact Or.inl rfl | exact Or.inr (Or.inl rfl) | exact Or.inr (Or.inr rfl)))) (by exact (var_ok (i := 1) rfl (by first | exact Or.inl rfl | exact Or.inr (Or.inl rfl) | exact Or.inr (Or.inr rfl))))))))) nil_S))))))
theorem Tx.mts_finish {P : Program} {w : World} {K : PySem.W.Frag} {mg : Str → Option Value} {base : Heap} (t : Tx w K mg) : MtsOk P w (gm K) mg base 1 "finish" [(22, (2, m_Asker_finish, []))] := (mts_cons ⟨(ok_Asker_finish t).mono (by decide), t.meth_Asker_finish⟩ mts_nil)
theorem sc_Asker_came_late : FnScope ["self"] ["self"] d_Asker_came_late.scope := ⟨rfl, rfl, rfl, by decide +kernel, rfl, by decide +kernel, by decide +kernel⟩
theorem ok_Asker_came_late {P : Program} {w : World} {K : PySem.W.Frag} {mg : Str → Option Value} {base : Heap} (t : Tx w K mg) : Cal P w (gm K) mg base 2 (He.fAd K d_Asker_came_late.at_) 1 m_Asker_came_late [] := by
  obtain ⟨fd, F⟩ := t.d.def_ 10 (d := d_Asker_came_late) rfl
  exact cal_of (g := gm K) (d := d_Asker_came_late) (N := ["self"]) (s := s_Asker_came_late) ⟨fun _ => trivial, rfl⟩ F sc_Asker_came_late rfl (fun _ _ _ _ _ _ us hl => match us, hl with | [_], _ => rfl) (fun cdv A outer sh H E hr hk hp => (by exact (by exact (seq_ok (by exact (expr_ok (by exact (meth_ok hk (hr.mono (by decide)) (t.mts_turn).ct (by exact (var_ok (i := 0) rfl (by first | exact Or.inl rfl | exact Or.inr (Or.inl rfl) | exact Or.inr (Or.inr rfl)))) (by exact (by exact (cons_ok (by exact (str_ok (by kernel_rfl))) nil_ok))))))) (by exact (seq_ok (by exact (expr_ok (by exact (meth_ok hk (hr.mono (by decide)) (t.mts_finish).ct (by exact (var_ok (i := 0) rfl (by first | exact Or.inl rfl | exact Or.inr (Or.inl rfl) | exact Or.inr (Or.inr rfl)))) (by exact (by exact (cons_ok (by exact (str_ok (by kernel_rfl))) nil_ok))))))) (by exact (last_ok (by exact (ret_ok (by exact (lstC_ok (by exact (by exact (cons_ok (by exact (str_ok (by kernel_rfl))) nil_ok)))))))))))))))
theorem Tx.mts_came_late {P : Program} {w : World} {K : PySem.W.Frag} {mg : Str → Option Value} {base : Heap} (t : Tx w K mg) : MtsOk P w (gm K) mg base 2 "came_late" [(22, (1, m_Asker_came_late, []))] := (mts_cons ⟨(ok_Asker_came_late t).mono (by decide), t.meth_Asker_came_late⟩ mts_nil)
theorem Tx.eqs {P : Program} {w : World} {K : PySem.W.Frag} {mg : Str → Option Value} {base : Heap} (t : Tx w K mg) : EqAll P w (gm K) mg base 2 tbE := eqAll_ok t.eqx (fun x hx => by
  rcases List.mem_cons.mp hx with e | hx
  · subst e; exact ⟨_, ⟨(ok_Asker___eq__ t).mono (by decide), t.meth_Asker___eq__⟩⟩
  rcases List.mem_cons.mp hx with e | hx
  · subst e; exact ⟨_, ⟨(ok_Asked___eq__ t).mono (by decide), t.meth_Asked___eq__⟩⟩
  cases hx)
theorem sc_Asker_beat_calling : FnScope ["self"] ["self"] d_Asker_beat_calling.scope := ⟨rfl, rfl, rfl, by decide +kernel, rfl, by decide +kernel, by decide +kernel⟩
theorem ok_Asker_beat_calling {P : Program} {w : World} {K : PySem.W.Frag} {mg : Str → Option Value} {base : Heap} (t : Tx w K mg) : Cal P w (gm K) mg base 3 (He.fAd K d_Asker_beat_calling.at_) 1 m_Asker_beat_calling [] := by
  obtain ⟨fd, F⟩ := t.d.def_ 8 (d := d_Asker_beat_calling) rfl
  exact cal_of (g := gm K) (d := d_Asker_beat_calling) (N := ["self"]) (s := s_Asker_beat_calling) ⟨fun _ => trivial, rfl⟩ F sc_Asker_beat_calling rfl (fun _ _ _ _ _ _ us hl => match us, hl with | [_], _ => rfl) (fun cdv A outer sh H E hr hk hp => (by exact (by exact (seq_ok (by exact (if_ok (by exact (cmpT_ok (op_eqA rfl (hr.mono (by decide)) (t.eqs)) (rM_S fEqA_noEx) (by exact (fld_ok hk (by exact (var_ok (i := 0) rfl (by first | exact Or.inl rfl | exact Or.inr (Or.inl rfl) | exact Or.inr (Or.inr rfl)))) rfl rfl)) (by exact (con_ok (x := "LIFE") (t.con_LIFE) rfl)) (nomark _))) (by exact (by exact (last_ok (by exact (ret_ok (by exact (meth0_ok hk (hr.mono (by decide)) (t.mts_came_late).ct (by exact (var_ok (i := 0) rfl (by first | exact Or.inl rfl | exact Or.inr (Or.inl rfl) | exact Or.inr (Or.inr rfl))))))))))) nil_S)) (by exact (last_ok (by exact (ret_ok (by exact (ife_ok (by exact (cmpT_ok (op_inA (by have := hk.un; omega)) (in_S false) (by exact (fld_ok hk (by exact (var_ok (i := 0) rfl (by first | exact Or.inl rfl | exact Or.inr (Or.inl rfl) | exact Or.inr (Or.inr rfl)))) rfl rfl)) (by exact (kd_ok (x := "ASKED_AGAIN") hk t.tab_ASKED_AGAIN rfl t.glo_ASKED_AGAIN (by exact (fld_ok hk (by exact (var_ok (i := 0) rfl (by first | exact Or.inl rfl | exact Or.inr (Or.inl rfl) | exact Or.inr (Or.inr rfl)))) rfl rfl)) (fun _ _ => rfl))) (by with_unfolding_all rfl))) (by exact (lstC_ok (by exact (by exact (cons_ok (by exact (str_ok (by kernel_rfl))) nil_ok))))) (by exact (lstC_ok nil_ok))))))))))))
theorem sc_Asker_beat_last : FnScope ["self"] ["self"] d_Asker_beat_last.scope := ⟨rfl, rfl, rfl, by decide +kernel, rfl, by decide +kernel, by decide +kernel⟩
theorem ok_Asker_beat_last {P : Program} {w : World} {K : PySem.W.Frag} {mg : Str → Option Value} {base : Heap} (t : Tx w K mg) : Cal P w (gm K) mg base 3 (He.fAd K d_Asker_beat_last.at_) 1 m_Asker_beat_last [] := by
  obtain ⟨fd, F⟩ := t.d.def_ 9 (d := d_Asker_beat_last) rfl
  exact cal_of (g := gm K) (d := d_Asker_beat_last) (N := ["self"]) (s := s_Asker_beat_last) ⟨fun _ => trivial, rfl⟩ F sc_Asker_beat_last rfl (fun _ _ _ _ _ _ us hl => match us, hl with | [_], _ => rfl) (fun cdv A outer sh H E hr hk hp => (by exact (by exact (seq_ok (by exact (if_ok (by exact (cmpT_ok (op_eqD (by have := hk.un; omega)) eq_S (by exact (fld_ok hk (by exact (var_ok (i := 0) rfl (by first | exact Or.inl rfl | exact Or.inr (Or.inl rfl) | exact Or.inr (Or.inr rfl)))) rfl rfl)) (by exact (str_ok (by kernel_rfl))) (nomark _))) (by exact (by exact (last_ok (by exact (ret_ok (by exact (meth0_ok hk (hr.mono (by decide)) (t.mts_came_late).ct (by exact (var_ok (i := 0) rfl (by first | exact Or.inl rfl | exact Or.inr (Or.inl rfl) | exact Or.inr (Or.inr rfl))))))))))) nil_S)) (by exact (seq_ok (by exact (expr_ok (by exact (meth_ok hk (hr.mono (by decide)) (t.mts_turn).ct (by exact (var_ok (i := 0) rfl (by first | exact Or.inl rfl | exact Or.inr (Or.inl rfl) | exact Or.inr (Or.inr rfl)))) (by exact (by exact (cons_ok (by exact (str_ok (by kernel_rfl))) nil_ok))))))) (by exact (last_ok (by exact (ret_ok (by exact (lstC_ok nil_ok))))))))))))
theorem Tx.mts_beat_calling {P : Program} {w : World} {K : PySem.W.Frag} {mg : Str → Option Value} {base : Heap} (t : Tx w K mg) : MtsOk P w (gm K) mg base 3 "beat_calling" [(22, (1, m_Asker_beat_calling, []))] := (mts_cons ⟨(ok_Asker_beat_calling t).mono (by decide), t.meth_Asker_beat_calling⟩ mts_nil)
theorem Tx.mts_beat_last {P : Program} {w : World} {K : PySem.W.Frag} {mg : Str → Option Value} {base : Heap} (t : Tx w K mg) : MtsOk P w (gm K) mg base 3 "beat_last" [(22, (1, m_Asker_beat_last, []))] := (mts_cons ⟨(ok_Asker_beat_last t).mono (by decide), t.meth_Asker_beat_last⟩ mts_nil)
theorem sc_Asker_beat : FnScope ["self"] ["self"] d_Asker_beat.scope := ⟨rfl, rfl, rfl, by decide +kernel, rfl, by decide +kernel, by decide +kernel⟩
theorem ok_Asker_beat {P : Program} {w : World} {K : PySem.W.Frag} {mg : Str → Option Value} {base : Heap} (t : Tx w K mg) : Cal P w (gm K) mg base 4 (He.fAd K d_Asker_beat.at_) 1 m_Asker_beat [] := by
  obtain ⟨fd, F⟩ := t.d.def_ 7 (d := d_Asker_beat) rfl
  exact cal_of (g := gm K) (d := d_Asker_beat) (N := ["self"]) (s := s_Asker_beat) ⟨fun _ => trivial, rfl⟩ F sc_Asker_beat rfl (fun _ _ _ _ _ _ us hl => match us, hl with | [_], _ => rfl) (fun cdv A outer sh H E hr hk hp => (by exact (by exact (seq_ok (by exact (fldAug_ok hk rfl no_cs iop_addA iadd_S (by exact (var_ok (i := 0) rfl (by first | exact Or.inl rfl | exact Or.inr (Or.inl rfl) | exact Or.inr (Or.inr rfl)))) int_ok)) (by exact (seq_ok (by exact (if_ok (by exact (cmpT_ok (op_eqD (by have := hk.un; omega)) eq_S (by exact (fld_ok hk (by exact (var_ok (i := 0) rfl (by first | exact Or.inl rfl | exact Or.inr (Or.inl rfl) | exact Or.inr (Or.inr rfl)))) rfl rfl)) (by exact (str_ok (by kernel_rfl))) (nomark _))) (by exact (by exact (last_ok (by exact (ret_ok (by exact (lstC_ok nil_ok))))))) nil_S)) (by exact (seq_ok (by exact (fldAug_ok hk rfl no_cs iop_addA iadd_S (by exact (var_ok (i := 0) rfl (by first | exact Or.inl rfl | exact Or.inr (Or.inl rfl) | exact Or.inr (Or.inr rfl)))) int_ok)) (by exact (seq_ok (by exact (if_ok (by exact (cmpT_ok (op_eqD (by have := hk.un; omega)) eq_S (by exact (fld_ok hk (by exact (var_ok (i := 0) rfl (by first | exact Or.inl rfl | exact Or.inr (Or.inl rfl) | exact Or.inr (Or.inr rfl)))) rfl rfl)) (by exact (str_ok (by kernel_rfl))) (nomark _))) (by exact (by exact (last_ok (by exact (ret_ok (by exact (meth0_ok hk (hr.mono (by decide)) (t.mts_beat_calling).ct (by exact (var_ok (i := 0) rfl (by first | exact Or.inl rfl | exact Or.inr (Or.inl rfl) | exact Or.inr (Or.inr rfl))))))))))) nil_S)) (by exact (seq_ok (by exact (if_ok (by exact (cmpT_ok (op_eqD (by have := hk.un; omega)) eq_S (by exact (fld_ok hk (by exact (var_ok (i := 0) rfl (by first | exact Or.inl rfl | exact Or.inr (Or.inl rfl) | exact Or.inr (Or.inr rfl)))) rfl rfl)) (by exact (str_ok (by kernel_rfl))) (nomark _))) (by exact (by exact (last_ok (by exact (ret_ok (by exact (ife_ok (by exact (cmpT_ok (op_eqA rfl (hr.mono (by decide)) (t.eqs)) (rM_S fEqA_noEx) (by exact (fld_ok hk (by exact (var_ok (i := 0) rfl (by first | exact Or.inl rfl | exact Or.inr (Or.inl rfl) | exact Or.inr (Or.inr rfl)))) rfl rfl)) (by exact (con_ok (x := "RINGING") (t.con_RINGING) rfl)) (nomark _))) (by exact (meth0_ok hk (hr.mono (by decide)) (t.mts_stopped).ct (by exact (var_ok (i := 0) rfl (by first | exact Or.inl rfl | exact Or.inr (Or.inl rfl) | exact Or.inr (Or.inr rfl)))))) (by exact (lstC_ok nil_ok))))))))) nil_S)) (by exact (seq_ok (by exact (if_ok (by exact (cmpT_ok (op_eqA rfl (hr.mono (by decide)) (t.eqs)) (rM_S fEqA_noEx) (by exact (fld_ok hk (by exact (var_ok (i := 0) rfl (by first | exact Or.inl rfl | exact Or.inr (Or.inl rfl) | exact Or.inr (Or.inr rfl)))) rfl rfl)) (by exact (ife_ok (by exact (cmpT_ok (op_eqD (by have := hk.un; omega)) eq_S (by exact (fld_ok hk (by exact (var_ok (i := 0) rfl (by first | exact Or.inl rfl | exact Or.inr (Or.inl rfl) | exact Or.inr (Or.inr rfl)))) rfl rfl)) (by exact (str_ok (by kernel_rfl))) (nomark _))) (by exact (con_ok (x := "QUIET") (t.con_QUIET) rfl)) (by exact (con_ok (x := "LIFE") (t.con_LIFE) rfl)))) (nomark _))) (by exact (by exact (last_ok (by exact (ret_ok (by exact (meth0_ok hk (hr.mono (by decide)) (t.mts_beat_last).ct (by exact (var_ok (i := 0) rfl (by first | exact Or.inl rfl | exact Or.inr (Or.inl rfl) | exact Or.inr (Or.inr rfl))))))))))) nil_S)) (by exact (last_ok (by exact (ret_ok (by exact (lstC_ok nil_ok))))))))))))))))))))
theorem sc_Asked_beat : FnScope ["self", "again"] ["self"] d_Asked_beat.scope := ⟨rfl, rfl, rfl, by decide +kernel, rfl, by decide +kernel, by decide +kernel⟩
theorem ok_Asked_beat {P : Program} {w : World} {K : PySem.W.Frag} {mg : Str → Option Value} {base : Heap} (t : Tx w K mg) : Cal P w (gm K) mg base 3 (He.fAd K d_Asked_beat.at_) 1 m_Asked_beat [] := by
  obtain ⟨fd, F⟩ := t.d.def_ 28 (d := d_Asked_beat) rfl
  exact cal_of (g := gm K) (d := d_Asked_beat) (N := ["self", "again"]) (s := s_Asked_beat) ⟨fun _ => trivial, rfl⟩ F sc_Asked_beat rfl (fun _ _ _ _ _ _ us hl => match us, hl with | [_], _ => rfl) (fun cdv A outer sh H E hr hk hp => (by exact (by exact (seq_ok (by exact (if_ok (by exact (cmpT_ok (op_inA (by have := hk.un; omega)) (in_S false) (by exact (fld_ok hk (by exact (var_ok (i := 0) rfl (by first | exact Or.inl rfl | exact Or.inr (Or.inl rfl) | exact Or.inr (Or.inr rfl)))) rfl rfl)) (by exact (tup_ok (by exact (by exact (cons_ok (by exact (str_ok (by kernel_rfl))) (by exact (cons_ok (by exact (str_ok (by kernel_rfl))) nil_ok))))))) (by with_unfolding_all rfl))) (by exact (by exact (last_ok (by exact (ret_ok (by exact (lstC_ok nil_ok))))))) nil_S)) (by exact (seq_ok (by exact (fldAug_ok hk rfl no_cs iop_addA iadd_S (by exact (var_ok (i := 0) rfl (by first | exact Or.inl rfl | exact Or.inr (Or.inl rfl) | exact Or.inr (Or.inr rfl)))) int_ok)) (by exact (seq_ok (by exact (if_ok (by exact (cmpT_ok (op_eqA rfl (hr.mono (by decide)) (t.eqs)) (rM_S fEqA_noEx) (by exact (fld_ok hk (by exact (var_ok (i := 0) rfl (by first | exact Or.inl rfl | exact Or.inr (Or.inl rfl) | exact Or.inr (Or.inr rfl)))) rfl rfl)) (by exact (kd_ok (x := "LAST_BEAT") hk t.tab_LAST_BEAT rfl t.glo_LAST_BEAT (by exact (fld_ok hk (by exact (var_ok (i := 0) rfl (by first | exact Or.inl rfl | exact Or.inr (Or.inl rfl) | exact Or.inr (Or.inr rfl)))) rfl rfl)) (fun _ _ => rfl))) (nomark _))) (by exact (by exact (seq_ok (by exact (expr_ok (by exact (meth_ok hk (hr.mono (by decide)) (t.mts_turn).ct (by exact (var_ok (i := 0) rfl (by first | exact Or.inl rfl | exact Or.inr (Or.inl rfl) | exact Or.inr (Or.inr rfl)))) (by exact (by exact (cons_ok (by exact (str_ok (by kernel_rfl))) nil_ok))))))) (by exact (last_ok (by exact (ret_ok (by exact (lstC_ok nil_ok))))))))) nil_S)) (by exact (seq_ok (by exact (set_ok (i := 1) hk rfl (by first | exact Or.inl rfl | exact Or.inr rfl) (by exact (by exact (and_ok hk (by exact (cmp_ok (op_eqD (by have := hk.un; omega)) eq_S (by exact (fld_ok hk (by exact (var_ok (i := 0) rfl (by first | exact Or.inl rfl | exact Or.inr (Or.inl rfl) | exact Or.inr (Or.inr rfl)))) rfl rfl)) (by exact (str_ok (by kernel_rfl))) (nomark _))) (by exact (and_ok hk (by exact (cmp_ok (op_eqD (by have := hk.un; omega)) eq_S (by exact (fld_ok hk (by exact (var_ok (i := 0) rfl (by first | exact Or.inl rfl | exact Or.inr (Or.inl rfl) | exact Or.inr (Or.inr rfl)))) rfl rfl)) (by exact (str_ok (by kernel_rfl))) (nomark _))) (by exact (one_ok (by exact (cmp_ok (op_inA (by have := hk.un; omega)) (in_S false) (by exact (fld_ok hk (by exact (var_ok (i := 0) rfl (by first | exact Or.inl rfl | exact Or.inr (Or.inl rfl) | exact Or.inr (Or.inr rfl)))) rfl rfl)) (by exact (con_ok (x := "SAID_AGAIN") (t.con_SAID_AGAIN) rfl)) (by with_unfolding_all rfl)))))))))))) (by exact (last_ok (by exact (ret_ok (by exact (ife_ok (by exact (truth_ok hk (by exact (var_ok (i := 1) rfl (by first | exact Or.inl rfl | exact Or.inr (Or.inl rfl) | exact Or.inr (Or.inr rfl)))))) (by exact (lstC_ok (by exact (by exact (cons_ok (by exact (str_ok (by kernel_rfl))) nil_ok))))) (by exact (lstC_ok nil_ok))))))))))))))))))
theorem sc_Asker_heard_of_ring : FnScope ["self", "word"] ["self", "word"] d_Asker_heard_of_ring.scope := ⟨rfl, rfl, rfl, by decide +kernel, rfl, by decide +kernel, by decide +kernel⟩
theorem ok_Asker_heard_of_ring {P : Program} {w : World} {K : PySem.W.Frag} {mg : Str → Option Value} {base : Heap} (t : Tx w K mg) : Cal P w (gm K) mg base 3 (He.fAd K d_Asker_heard_of_ring.at_) 2 m_Asker_heard_of_ring [] := by
  obtain ⟨fd, F⟩ := t.d.def_ 14 (d := d_Asker_heard_of_ring) rfl
  exact cal_of (g := gm K) (d := d_Asker_heard_of_ring) (N := ["self", "word"]) (s := s_Asker_heard_of_ring) ⟨fun _ => trivial, rfl⟩ F sc_Asker_heard_of_ring rfl (fun _ _ _ _ _ _ us hl => match us, hl with | [_, _], _ => rfl) (fun cdv A outer sh H E hr hk hp => (by exact (by exact (seq_ok (by exact (if_ok (by exact (cmpT_ok (op_eqD (by have := hk.un; omega)) eq_S (by exact (var_ok (i := 1) rfl (by first | exact Or.inl rfl | exact Or.inr (Or.inl rfl) | exact Or.inr (Or.inr rfl)))) (by exact (str_ok (by kernel_rfl))) (nomark _))) (by exact (by exact (seq_ok (by exact (expr_ok (by exact (meth_ok hk (hr.mono (by decide)) (t.mts_turn).ct (by exact (var_ok (i := 0) rfl (by first | exact Or.inl rfl | exact Or.inr (Or.inl rfl) | exact Or.inr (Or.inr rfl)))) (by exact (by exact (cons_ok (by exact (str_ok (by kernel_rfl))) nil_ok))))))) (by exact (seq_ok (by exact (expr_ok (by exact (meth_ok hk (hr.mono (by decide)) (t.mts_finish).ct (by exact (var_ok (i := 0) rfl (by first | exact Or.inl rfl | exact Or.inr (Or.inl rfl) | exact Or.inr (Or.inr rfl)))) (by exact (by exact (cons_ok (by exact (str_ok (by kernel_rfl))) nil_ok))))))) (by exact (last_ok (by exact (ret_ok (by exact (lstC_ok (by exact (by exact (cons_ok (by exact (str_ok (by kernel_rfl))) nil_ok)))))))))))))) nil_S)) (by exact (seq_ok (by exact (if_ok (by exact (cmpT_ok (op_eqD (by have := hk.un; omega)) eq_S (by exact (var_ok (i := 1) rfl (by first | exact Or.inl rfl | exact Or.inr (Or.inl rfl) | exact Or.inr (Or.inr rfl)))) (by exact (str_ok (by kernel_rfl))) (nomark _))) (by exact (by exact (seq_ok (by exact (expr_ok (by exact (meth_ok hk (hr.mono (by decide)) (t.mts_turn).ct (by exact (var_ok (i := 0) rfl (by first | exact Or.inl rfl | exact Or.inr (Or.inl rfl) | exact Or.inr (Or.inr rfl)))) (by exact (by exact (cons_ok (by exact (str_ok (by kernel_rfl))) nil_ok))))))) (by exact (seq_ok (by exact (expr_ok (by exact (meth_ok hk (hr.mono (by decide)) (t.mts_finish).ct (by exact (var_ok (i := 0) rfl (by first | exact Or.inl rfl | exact Or.inr (Or.inl rfl) | exact Or.inr (Or.inr rfl)))) (by exact (by exact (cons_ok (by exact (str_ok (by kernel_rfl))) nil_ok))))))) (by exact (last_ok (by exact (ret_ok (by exact (lstC_ok (by exact (by exact (cons_ok (by exact (str_ok (by kernel_rfl))) (by exact (cons_ok (by exact (str_ok (by kernel_rfl))) nil_ok)))))))))))))))) nil_S)) (by exact (seq_ok (by exact (if_ok (by exact (cmpT_ok (op_eqD (by have := hk.un; omega)) eq_S (by exact (fld_ok hk (by exact (var_ok (i := 0) rfl (by first | exact Or.inl rfl | exact Or.inr (Or.inl rfl) | exact Or.inr (Or.inr rfl)))) rfl rfl)) (by exact (str_ok (by kernel_rfl))) (nomark _))) (by exact (by exact (last_ok (by exact (ret_ok (by exact (lstC_ok (by exact (by exact (cons_ok (by exact (str_ok (by kernel_rfl))) nil_ok)))))))))) nil_S)) (by exact (seq_ok (by exact (expr_ok (by exact (meth_ok hk (hr.mono (by decide)) (t.mts_turn).ct (by exact (var_ok (i := 0) rfl (by first | exact Or.inl rfl | exact Or.inr (Or.inl rfl) | exact Or.inr (Or.inr rfl)))) (by exact (by exact (cons_ok (by exact (str_ok (by kernel_rfl))) nil_ok))))))) (by exact (last_ok (by exact (ret_ok (by exact (bin_ok op_addA addL_S (by exact (lst_ok (by exact (by exact (cons_ok (by exact (str_ok (by kernel_rfl))) nil_ok))))) (by exact (ife_ok (by exact (truth_ok hk (by exact (fld_ok hk (by exact (var_ok (i := 0) rfl (by first | exact Or.inl rfl | exact Or.inr (Or.inl rfl) | exact Or.inr (Or.inr rfl)))) rfl rfl)))) (by exact (meth0_ok hk (hr.mono (by decide)) (t.mts_stopped).ct (by exact (var_ok (i := 0) rfl (by first | exact Or.inl rfl | exact Or.inr (Or.inl rfl) | exact Or.inr (Or.inr rfl)))))) (by exact (lst_ok nil_ok))))))))))))))))))))
theorem sc_Asker_answered : FnScope ["self", "word"] ["self", "word"] d_Asker_answered.scope := ⟨rfl, rfl, rfl, by decide +kernel, rfl, by decide +kernel, by decide +kernel⟩
theorem ok_Asker_answered {P : Program} {w : World} {K : PySem.W.Frag} {mg : Str → Option Value} {base : Heap} (t : Tx w K mg) : Cal P w (gm K) mg base 2 (He.fAd K d_Asker_answered.at_) 2 m_Asker_answered [] := by
  obtain ⟨fd, F⟩ := t.d.def_ 13 (d := d_Asker_answered) rfl
  exact cal_of (g := gm K) (d := d_Asker_answered) (N := ["self", "word"]) (s := s_Asker_answered) ⟨fun _ => trivial, rfl⟩ F sc_Asker_answered rfl (fun _ _ _ _ _ _ us hl => match us, hl with | [_, _], _ => rfl) (fun cdv A outer sh H E hr hk hp => (by exact (by exact (seq_ok (by exact (expr_ok (by exact (meth_ok hk (hr.mono (by decide)) (t.mts_turn).ct (by exact (var_ok (i := 0) rfl (by first | exact Or.inl rfl | exact Or.inr (Or.inl rfl) | exact Or.inr (Or.inr rfl)))) (by exact (by exact (cons_ok (by exact (str_ok (by kernel_rfl))) nil_ok))))))) (by exact (seq_ok (by exact (expr_ok (by exact (meth_ok hk (hr.mono (by decide)) (t.mts_finish).ct (by exact (var_ok (i := 0) rfl (by first | exact Or.inl rfl | exact Or.inr (Or.inl rfl) | exact Or.inr (Or.inr rfl)))) (by exact (by exact (cons_ok (by exact (var_ok (i := 1) rfl (by first | exact Or.inl rfl | exact Or.inr (Or.inl rfl) | exact Or.inr (Or.inr rfl)))) nil_ok))))))) (by exact (last_ok (by exact (ret_ok (by exact (lstC_ok (by exact (by exact (cons_ok (by exact (str_ok (by kernel_rfl))) nil_ok)))))))))))))))
theorem Tx.mts_answered {P : Program} {w : World} {K : PySem.W.Frag} {mg : Str → Option Value} {base : Heap} (t : Tx w K mg) : MtsOk P w (gm K) mg base 2 "answered" [(22, (2, m_Asker_answered, []))] := (mts_cons ⟨(ok_Asker_answered t).mono (by decide), t.meth_Asker_answered⟩ mts_nil)
theorem Tx.mts_heard_of_ring {P : Program} {w : World} {K : PySem.W.Frag} {mg : Str → Option Value} {base : Heap} (t : Tx w K mg) : MtsOk P w (gm K) mg base 3 "heard_of_ring" [(22, (2, m_Asker_heard_of_ring, []))] := (mts_cons ⟨(ok_Asker_heard_of_ring t).mono (by decide), t.meth_Asker_heard_of_ring⟩ mts_nil)
theorem sc_Asker_hear : FnScope ["self", "word"] ["self", "word"] d_Asker_hear.scope := ⟨rfl, rfl, rfl, by decide +kernel, rfl, by decide +kernel, by decide +kernel⟩
theorem ok_Asker_hear {P : Program} {w : World} {K : PySem.W.Frag} {mg : Str → Option Value} {base : Heap} (t : Tx w K mg) : Cal P w (gm K) mg base 4 (He.fAd K d_Asker_hear.at_) 2 m_Asker_hear [] := by
  obtain ⟨fd, F⟩ := t.d.def_ 12 (d := d_Asker_hear) rfl
  exact cal_of (g := gm K) (d := d_Asker_hear) (N := ["self", "word"]) (s := s_Asker_hear) ⟨fun _ => trivial, rfl⟩ F sc_Asker_hear rfl (fun _ _ _ _ _ _ us hl => match us, hl with | [_, _], _ => rfl) (fun cdv A outer sh H E hr hk hp => (by exact (by exact (seq_ok (by exact (if_ok (by exact (PW.pt (by exact (by exact (orT_ok (by exact (notT_ok (by exact (truth_ok hk (by exact (isi_ok hk t.kit rfl t.free_isinstance (by exact (var_ok (i := 1) rfl (by first | exact Or.inl rfl | exact Or.inr (Or.inl rfl) | exact Or.inr (Or.inr rfl)))) (by exact (clsTy (x := "str") rfl t.free_str rfl)))))))) (by exact (or1T_ok (by exact (cmpT_ok (op_notinA (by have := hk.un; omega)) (in_S true) (by exact (var_ok (i := 1) rfl (by first | exact Or.inl rfl | exact Or.inr (Or.inl rfl) | exact Or.inr (Or.inr rfl)))) (by exact (kd_ok (x := "ANSWERS") hk t.tab_ANSWERS rfl t.glo_ANSWERS (by exact (fld_ok hk (by exact (var_ok (i := 0) rfl (by first | exact Or.inl rfl | exact Or.inr (Or.inl rfl) | exact Or.inr (Or.inr rfl)))) rfl rfl)) (fun _ _ => rfl))) (by with_unfolding_all rfl)))))))))) (by exact (by exact (last_ok (by exact (raise1_ok (x := "NoWord") hk (hr.mono (by decide)) (t.xi_NoWord) rfl t.glo_NoWord (by exact (by exact (cons_ok (by exact (var_ok (i := 1) rfl (by first | exact Or.inl rfl | exact Or.inr (Or.inl rfl) | exact Or.inr (Or.inr rfl)))) nil_ok)))))))) nil_S)) (by exact (seq_ok (by exact (if_ok (by exact (cmpT_ok (op_eqD (by have := hk.un; omega)) eq_S (by exact (fld_ok hk (by exact (var_ok (i := 0) rfl (by first | exact Or.inl rfl | exact Or.inr (Or.inl rfl) | exact Or.inr (Or.inr rfl)))) rfl rfl)) (by exact (str_ok (by kernel_rfl))) (nomark _))) (by exact (by exact (last_ok (by exact (ret_ok (by exact (ife_ok (by exact (cmpT_ok (op_eqD (by have := hk.un; omega)) eq_S (by exact (fld_ok hk (by exact (var_ok (i := 0) rfl (by first | exact Or.inl rfl | exact Or.inr (Or.inl rfl) | exact Or.inr (Or.inr rfl)))) rfl rfl)) (by exact (str_ok (by kernel_rfl))) (nomark _))) (by exact (meth_ok hk (hr.mono (by decide)) (t.mts_answered).ct (by exact (var_ok (i := 0) rfl (by first | exact Or.inl rfl | exact Or.inr (Or.inl rfl) | exact Or.inr (Or.inr rfl)))) (by exact (by exact (cons_ok (by exact (var_ok (i := 1) rfl (by first | exact Or.inl rfl | exact Or.inr (Or.inl rfl) | exact Or.inr (Or.inr rfl)))) nil_ok))))) (by exact (lstC_ok nil_ok))))))))) nil_S)) (by exact (seq_ok (by exact (if_ok (by exact (cmpT_ok (op_inA (by have := hk.un; omega)) (in_S false) (by exact (fld_ok hk (by exact (var_ok (i := 0) rfl (by first | exact Or.inl rfl | exact Or.inr (Or.inl rfl) | exact Or.inr (Or.inr rfl)))) rfl rfl)) (by exact (tup_ok (by exact (by exact (cons_ok (by exact (str_ok (by kernel_rfl))) (by exact (cons_ok (by exact (str_ok (by kernel_rfl))) nil_ok))))))) (by with_unfolding_all rfl))) (by exact (by exact (last_ok (by exact (ret_ok (by exact (bm_ok hk PySem.F.plainAttrs_dict PySem.F.slot_dict_get PySem.F.type_dict_get (mt_get2 (by have := hk.un; omega)) get2_S (by exact (dispT_ok hk (by exact (ppm_cons (by exact (tup_ok (by exact (by exact (cons_ok (by exact (str_ok (by kernel_rfl))) (by exact (cons_ok (by exact (str_ok (by kernel_rfl))) nil_ok))))))) (by exact (lstC_ok (by exact (by exact (cons_ok (by exact (str_ok (by kernel_rfl))) nil_ok))))) (by exact (ppm_cons (by exact (tup_ok (by exact (by exact (cons_ok (by exact (str_ok (by kernel_rfl))) (by exact (cons_ok (by exact (str_ok (by kernel_rfl))) nil_ok))))))) (by exact (lstC_ok (by exact (by exact (cons_ok (by exact (str_ok (by kernel_rfl))) nil_ok))))) ppm_nil)))) rfl rfl (by decide) (by decide) (by decide))) (by exact (by exact (cons_ok (by exact (tup_ok (by exact (by exact (cons_ok (by exact (fld_ok hk (by exact (var_ok (i := 0) rfl (by first | exact Or.inl rfl | exact Or.inr (Or.inl rfl) | exact Or.inr (Or.inr rfl)))) rfl rfl)) (by exact (cons_ok (by exact (var_ok (i := 1) rfl (by first | exact Or.inl rfl | exact Or.inr (Or.inl rfl) | exact Or.inr (Or.inr rfl)))) nil_ok))))))) (by exact (cons_ok (by exact (lstC_ok nil_ok)) nil_ok)))))))))))) nil_S)) (by exact (seq_ok (by exact (if_ok (by exact (cmpT_ok (op_eqD (by have := hk.un; omega)) eq_S (by exact (fld_ok hk (by exact (var_ok (i := 0) rfl (by first | exact Or.inl rfl | exact Or.inr (Or.inl rfl) | exact Or.inr (Or.inr rfl)))) rfl rfl)) (by exact (str_ok (by kernel_rfl))) (nomark _))) (by exact (by exact (last_ok (by exact (ret_ok (by exact (lstC_ok nil_ok))))))) nil_S)) (by exact (last_ok (by exact (ret_ok (by exact (meth_ok hk (hr.mono (by decide)) (t.mts_heard_of_ring).ct (by exact (var_ok (i := 0) rfl (by first | exact Or.inl rfl | exact Or.inr (Or.inl rfl) | exact Or.inr (Or.inr rfl)))) (by exact (by exact (cons_ok (by exact (var_ok (i := 1) rfl (by first | exact Or.inl rfl | exact Or.inr (Or.inl rfl) | exact Or.inr (Or.inr rfl)))) nil_ok)))))))))))))))))))
theorem okK_Asker_hear_1_word {P : Program} {w : World} {K : PySem.W.Frag} {mg : Str → Option Value} {base : Heap} (t : Tx w K mg) : CalK P w (gm K) mg base 4 (He.fAd K d_Asker_hear.at_) 1 ["word"] [0, 1] 2 m_Asker_hear [] := by
  obtain ⟨fd, F⟩ := t.d.def_ 12 (d := d_Asker_hear) rfl
  exact calK_no (g := gm K) (d := d_Asker_hear) (N := ["self", "word"]) (ks := ["word"]) (idx := [0, 1]) (s := s_Asker_hear) ⟨fun _ => trivial, rfl⟩ F sc_Asker_hear rfl (fun _ _ _ _ _ _ us ws h1 h2 => match us, ws, h1, h2 with | [_], [_], _, _ => rfl) (fun cdv A outer sh H E hr hk hp => (by exact (by exact (seq_ok (by exact (if_ok (by exact (PW.pt (by exact (by exact (orT_ok (by exact (notT_ok (by exact (truth_ok hk (by exact (isi_ok hk t.kit rfl t.free_isinstance (by exact (var_ok (i := 1) rfl (by first | exact Or.inl rfl | exact Or.inr (Or.inl rfl) | exact Or.inr (Or.inr rfl)))) (by exact (clsTy (x := "str") rfl t.free_str rfl)))))))) (by exact (or1T_ok (by exact (cmpT_ok (op_notinA (by have := hk.un; omega)) (in_S true) (by exact (var_ok (i := 1) rfl (by first | exact Or.inl rfl | exact Or.inr (Or.inl rfl) | exact Or.inr (Or.inr rfl)))) (by exact (kd_ok (x := "ANSWERS") hk t.tab_ANSWERS rfl t.glo_ANSWERS (by exact (fld_ok hk (by exact (var_ok (i := 0) rfl (by first | exact Or.inl rfl | exact Or.inr (Or.inl rfl) | exact Or.inr (Or.inr rfl)))) rfl rfl)) (fun _ _ => rfl))) (by with_unfolding_all rfl)))))))))) (by exact (by exact (last_ok (by exact (raise1_ok (x := "NoWord") hk (hr.mono (by decide)) (t.xi_NoWord) rfl t.glo_NoWord (by exact (by exact (cons_ok (by exact (var_ok (i := 1) rfl (by first | exact Or.inl rfl | exact Or.inr (Or.inl rfl) | exact Or.inr (Or.inr rfl)))) nil_ok)))))))) nil_S)) (by exact (seq_ok (by exact (if_ok (by exact (cmpT_ok (op_eqD (by have := hk.un; omega)) eq_S (by exact (fld_ok hk (by exact (var_ok (i := 0) rfl (by first | exact Or.inl rfl | exact Or.inr (Or.inl rfl) | exact Or.inr (Or.inr rfl)))) rfl rfl)) (by exact (str_ok (by kernel_rfl))) (nomark _))) (by exact (by exact (last_ok (by exact (ret_ok (by exact (ife_ok (by exact (cmpT_ok (op_eqD (by have := hk.un; omega)) eq_S (by exact (fld_ok hk (by exact (var_ok (i := 0) rfl (by first | exact Or.inl rfl | exact Or.inr (Or.inl rfl) | exact Or.inr (Or.inr rfl)))) rfl rfl)) (by exact (str_ok (by kernel_rfl))) (nomark _))) (by exact (meth_ok hk (hr.mono (by decide)) (t.mts_answered).ct (by exact (var_ok (i := 0) rfl (by first | exact Or.inl rfl | exact Or.inr (Or.inl rfl) | exact Or.inr (Or.inr rfl)))) (by exact (by exact (cons_ok (by exact (var_ok (i := 1) rfl (by first | exact Or.inl rfl | exact Or.inr (Or.inl rfl) | exact Or.inr (Or.inr rfl)))) nil_ok))))) (by exact (lstC_ok nil_ok))))))))) nil_S)) (by exact (seq_ok (by exact (if_ok (by exact (cmpT_ok (op_inA (by have := hk.un; omega)) (in_S false) (by exact (fld_ok hk (by exact (var_ok (i := 0) rfl (by first | exact Or.inl rfl | exact Or.inr (Or.inl rfl) | exact Or.inr (Or.inr rfl)))) rfl rfl)) (by exact (tup_ok (by exact (by exact (cons_ok (by exact (str_ok (by kernel_rfl))) (by exact (cons_ok (by exact (str_ok (by kernel_rfl))) nil_ok))))))) (by with_unfolding_all rfl))) (by exact (by exact (last_ok (by exact (ret_ok (by exact (bm_ok hk PySem.F.plainAttrs_dict PySem.F.slot_dict_get PySem.F.type_dict_get (mt_get2 (by have := hk.un; omega)) get2_S (by exact (dispT_ok hk (by exact (ppm_cons (by exact (tup_ok (by exact (by exact (cons_ok (by exact (str_ok (by kernel_rfl))) (by exact (cons_ok (by exact (str_ok (by kernel_rfl))) nil_ok))))))) (by exact (lstC_ok (by exact (by exact (cons_ok (by exact (str_ok (by kernel_rfl))) nil_ok))))) (by exact (ppm_cons (by exact (tup_ok (by exact (by exact (cons_ok (by exact (str_ok (by kernel_rfl))) (by exact (cons_ok (by exact (str_ok (by kernel_rfl))) nil_ok))))))) (by exact (lstC_ok (by exact (by exact (cons_ok (by exact (str_ok (by kernel_rfl))) nil_ok))))) ppm_nil)))) rfl rfl (by decide) (by decide) (by decide))) (by exact (by exact (cons_ok (by exact (tup_ok (by exact (by exact (cons_ok (by exact (fld_ok hk (by exact (var_ok (i := 0) rfl (by first | exact Or.inl rfl | exact Or.inr (Or.inl rfl) | exact Or.inr (Or.inr rfl)))) rfl rfl)) (by exact (cons_ok (by exact (var_ok (i := 1) rfl (by first | exact Or.inl rfl | exact Or.inr (Or.inl rfl) | exact Or.inr (Or.inr rfl)))) nil_ok))))))) (by exact (cons_ok (by exact (lstC_ok nil_ok)) nil_ok)))))))))))) nil_S)) (by exact (seq_ok (by exact (if_ok (by exact (cmpT_ok (op_eqD (by have := hk.un; omega)) eq_S (by exact (fld_ok hk (by exact (var_ok (i := 0) rfl (by first | exact Or.inl rfl | exact Or.inr (Or.inl rfl) | exact Or.inr (Or.inr rfl)))) rfl rfl)) (by exact (str_ok (by kernel_rfl))) (nomark _))) (by exact (by exact (last_ok (by exact (ret_ok (by exact (lstC_ok nil_ok))))))) nil_S)) (by exact (last_ok (by exact (ret_ok (by exact (meth_ok hk (hr.mono (by decide)) (t.mts_heard_of_ring).ct (by exact (var_ok (i := 0) rfl (by first | exact Or.inl rfl | exact Or.inr (Or.inl rfl) | exact Or.inr (Or.inr rfl)))) (by exact (by exact (cons_ok (by exact (var_ok (i := 1) rfl (by first | exact Or.inl rfl | exact Or.inr (Or.inl rfl) | exact Or.inr (Or.inr rfl)))) nil_ok)))))))))))))))))))
theorem Tx.mts_beat {P : Program} {w : World} {K : PySem.W.Frag} {mg : Str → Option Value} {base : Heap} (t : Tx w K mg) : MtsOk P w (gm K) mg base 4 "beat" [(22, (1, m_Asker_beat, [])), (23, (1, m_Asked_beat, []))] := (mts_cons ⟨(ok_Asker_beat t).mono (by decide), t.meth_Asker_beat⟩ (mts_cons ⟨(ok_Asked_beat t).mono (by decide), t.meth_Asked_beat⟩ mts_nil))
theorem Tx.mts_give_up {P : Program} {w : World} {K : PySem.W.Frag} {mg : Str → Option Value} {base : Heap} (t : Tx w K mg) : MtsOk P w (gm K) mg base 3 "give_up" [(22, (1, m_Asker_give_up, []))] := (mts_cons ⟨(ok_Asker_give_up t).mono (by decide), t.meth_Asker_give_up⟩ mts_nil)
theorem Tx.mts_hear {P : Program} {w : World} {K : PySem.W.Frag} {mg : Str → Option Value} {base : Heap} (t : Tx w K mg) : MtsOk P w (gm K) mg base 4 "hear" [(22, (2, m_Asker_hear, []))] := (mts_cons ⟨(ok_Asker_hear t).mono (by decide), t.meth_Asker_hear⟩ mts_nil)
theorem sc__law_to_state : FnScope ["_law_pool_here", "_law_way", "_law_one", "_law_text", "_law_turn"] ["_law_pool_here", "_law_way"] d__law_to_state.scope := ⟨rfl, rfl, rfl, by decide +kernel, rfl, by decide +kernel, by decide +kernel⟩
theorem ok__law_to_state {P : Program} {w : World} {K : PySem.W.Frag} {mg : Str → Option Value} {base : Heap} (t : Tx w K mg) : Cal P w (gm K) mg base 6 (He.fAd K d__law_to_state.at_) 2 m__law_to_state [] := by
  obtain ⟨fd, F⟩ := t.d.def_ 39 (d := d__law_to_state) rfl
  exact cal_of (g := gm K) (d := d__law_to_state) (N := ["_law_pool_here", "_law_way", "_law_one", "_law_text", "_law_turn"]) (s := s__law_to_state) ⟨fun _ => trivial, rfl⟩ F sc__law_to_state rfl (fun _ _ _ _ _ _ us hl => match us, hl with | [_, _], _ => rfl) (fun cdv A outer sh H E hr hk hp => (by exact (by exact (seq_ok (by exact (set_ok (i := 2) hk rfl (by first | exact Or.inl rfl | exact Or.inr rfl) (by exact (make_ok (x := "Asker") hk (hr.mono (by decide)) ⟨ok_Asker___init__ t, t.mkr_Asker, t.cls_Asker⟩ rfl t.glo_Asker (by exact (by exact (cons_ok (by exact (var_ok (i := 1) rfl (by first | exact Or.inl rfl | exact Or.inr (Or.inl rfl) | exact Or.inr (Or.inr rfl)))) nil_ok))))))) (by exact (seq_ok (by exact (forQ_ok hk hp (by exact (idx_ok hk (by exact (lst_ok (by exact (by exact (cons_ok (by exact (lst_ok nil_ok)) (by exact (cons_ok (by exact (lst_ok (by exact (by exact (cons_ok (by exact (str_ok (by kernel_rfl))) nil_ok))))) (by exact (cons_ok (by exact (lst_ok (by exact (by exact (cons_ok (by exact (str_ok (by kernel_rfl))) nil_ok))))) (by exact (cons_ok (by exact (lst_ok (by exact (by exact (cons_ok (by exact (str_ok (by kernel_rfl))) nil_ok))))) (by exact (cons_ok (by exact (lst_ok (by exact (by exact (cons_ok (by exact (str_ok (by kernel_rfl))) (by exact (cons_ok (by exact (str_ok (by kernel_rfl))) nil_ok))))))) nil_ok))))))))))))) (by exact (call_ok (x := "_law_take") hk (hr.mono (by decide)) (ok__law_take t) rfl t.glo__law_take (by exact (by exact (cons_ok (by exact (var_ok (i := 0) rfl (by first | exact Or.inl rfl | exact Or.inr (Or.inl rfl) | exact Or.inr (Or.inr rfl)))) (by exact (cons_ok int_ok nil_ok))))))) (fun _ _ => rfl))) (by exact (tgN_ok (i := 3) hk.nd rfl (by first | exact Or.inl rfl | exact Or.inr rfl) (by first | exact Or.inl rfl | exact Or.inr rfl))) (by exact (by exact (last_ok (by exact (if_ok (by exact (PW.pt (by exact (by exact (orT_ok (by exact (cmpT_ok (op_eqD (by have := hk.un; omega)) eq_S (by exact (var_ok (i := 1) rfl (by first | exact Or.inl rfl | exact Or.inr (Or.inl rfl) | exact Or.inr (Or.inr rfl)))) (by exact (str_ok (by kernel_rfl))) (nomark _))) (by exact (or1T_ok (by exact (cmpT_ok (op_eqD (by have := hk.un; omega)) eq_S (by exact (var_ok (i := 3) rfl (by first | exact Or.inl rfl | exact Or.inr (Or.inl rfl) | exact Or.inr (Or.inr rfl)))) (by exact (str_ok (by kernel_rfl))) (nomark _)))))))))) (by exact (by exact (last_ok (by exact (expr_ok (by exact (meth_ok hk (hr.mono (by decide)) (t.mts_hear).ct (by exact (var_ok (i := 2) rfl (by first | exact Or.inl rfl | exact Or.inr (Or.inl rfl) | exact Or.inr (Or.inr rfl)))) (by exact (by exact (cons_ok (by exact (var_ok (i := 3) rfl (by first | exact Or.inl rfl | exact Or.inr (Or.inl rfl) | exact Or.inr (Or.inr rfl)))) nil_ok)))))))))) nil_S))))))) (by exact (seq_ok (by exact (if_ok (by exact (cmpT_ok (op_eqD (by have := hk.un; omega)) eq_S (by exact (call_ok (x := "_law_take") hk (hr.mono (by decide)) (ok__law_take t) rfl t.glo__law_take (by exact (by exact (cons_ok (by exact (var_ok (i := 0) rfl (by first | exact Or.inl rfl | exact Or.inr (Or.inl rfl) | exact Or.inr (Or.inr rfl)))) (by exact (cons_ok int_ok nil_ok))))))) int_ok (nomark _))) (by exact (by exact (last_ok (by exact (expr_ok (by exact (meth0_ok hk (hr.mono (by decide)) (t.mts_give_up).ct (by exact (var_ok (i := 2) rfl (by first | exact Or.inl rfl | exact Or.inr (Or.inl rfl) | exact Or.inr (Or.inr rfl))))))))))) nil_S)) (by exact (seq_ok (by exact (forR1_ok hk hp rfl t.free_range (by exact (by exact (cons_ok (by exact (call_ok (x := "_law_take") hk (hr.mono (by decide)) (ok__law_take t) rfl t.glo__law_take (by exact (by exact (cons_ok (by exact (var_ok (i := 0) rfl (by first | exact Or.inl rfl | exact Or.inr (Or.inl rfl) | exact Or.inr (Or.inr rfl)))) (by exact (cons_ok int_ok nil_ok))))))) nil_ok))) (by exact (tgN_ok (i := 4) hk.nd rfl (by first | exact Or.inl rfl | exact Or.inr rfl) (by first | exact Or.inl rfl | exact Or.inr rfl))) (by exact (by exact (last_ok (by exact (expr_ok (by exact (meth0_ok hk (hr.mono (by decide)) (t.mts_beat).ct (by exact (var_ok (i := 2) rfl (by first | exact Or.inl rfl | exact Or.inr (Or.inl rfl) | exact Or.inr (Or.inr rfl))))))))))))) (by exact (last_ok (by exact (ret_ok (by exact (var_ok (i := 2) rfl (by first | exact Or.inl rfl | exact Or.inr (Or.inl rfl) | exact Or.inr (Or.inr rfl))))))))))))))))))
theorem sc_Asker_twin : FnScope ["self", "other"] ["self"] d_Asker_twin.scope := ⟨rfl, rfl, rfl, by decide +kernel, rfl, by decide +kernel, by decide +kernel⟩
theorem ok_Asker_twin {P : Program} {w : World} {K : PySem.W.Frag} {mg : Str → Option Value} {base : Heap} (t : Tx w K mg) : Cal P w (gm K) mg base 6 (He.fAd K d_Asker_twin.at_) 1 m_Asker_twin [] := by
  obtain ⟨fd, F⟩ := t.d.def_ 21 (d := d_Asker_twin) rfl
  exact cal_of (g := gm K) (d := d_Asker_twin) (N := ["self", "other"]) (s := s_Asker_twin) ⟨fun _ => trivial, rfl⟩ F sc_Asker_twin rfl (fun _ _ _ _ _ _ us hl => match us, hl with | [_], _ => rfl) (fun cdv A outer sh H E hr hk hp => (by exact (by exact (seq_ok (by exact (set_ok (i := 1) hk rfl (by first | exact Or.inl rfl | exact Or.inr rfl) (by exact (make_ok (x := "Asker") hk (hr.mono (by decide)) ⟨ok_Asker___init__ t, t.mkr_Asker, t.cls_Asker⟩ rfl t.glo_Asker (by exact (by exact (cons_ok (by exact (fld_ok hk (by exact (var_ok (i := 0) rfl (by first | exact Or.inl rfl | exact Or.inr (Or.inl rfl) | exact Or.inr (Or.inr rfl)))) rfl rfl)) nil_ok))))))) (by exact (seq_ok (by exact (asg_ok (by exact (tup_ok (by exact (by exact (cons_ok (by exact (fld_ok hk (by exact (var_ok (i := 0) rfl (by first | exact Or.inl rfl | exact Or.inr (Or.inl rfl) | exact Or.inr (Or.inr rfl)))) rfl rfl)) (by exact (cons_ok (by exact (fld_ok hk (by exact (var_ok (i := 0) rfl (by first | exact Or.inl rfl | exact Or.inr (Or.inl rfl) | exact Or.inr (Or.inr rfl)))) rfl rfl)) (by exact (cons_ok (by exact (fld_ok hk (by exact (var_ok (i := 0) rfl (by first | exact Or.inl rfl | exact Or.inr (Or.inl rfl) | exact Or.inr (Or.inr rfl)))) rfl rfl)) nil_ok))))))))) (by exact (tgT_ok hk (by exact (tgsCons_ok (by exact (tgF_ok hk rfl no_cs (by exact (var_ok (i := 1) rfl (by first | exact Or.inl rfl | exact Or.inr (Or.inl rfl) | exact Or.inr (Or.inr rfl)))))) (by exact (tgsCons_ok (by exact (tgF_ok hk rfl no_cs (by exact (var_ok (i := 1) rfl (by first | exact Or.inl rfl | exact Or.inr (Or.inl rfl) | exact Or.inr (Or.inr rfl)))))) (by exact (tgsCons_ok (by exact (tgF_ok hk rfl no_cs (by exact (var_ok (i := 1) rfl (by first | exact Or.inl rfl | exact Or.inr (Or.inl rfl) | exact Or.inr (Or.inr rfl)))))) tgsNil_ok)))))))))) (by exact (seq_ok (by exact (asg_ok (by exact (tup_ok (by exact (by exact (cons_ok (by exact (fld_ok hk (by exact (var_ok (i := 0) rfl (by first | exact Or.inl rfl | exact Or.inr (Or.inl rfl) | exact Or.inr (Or.inr rfl)))) rfl rfl)) (by exact (cons_ok (by exact (fld_ok hk (by exact (var_ok (i := 0) rfl (by first | exact Or.inl rfl | exact Or.inr (Or.inl rfl) | exact Or.inr (Or.inr rfl)))) rfl rfl)) nil_ok))))))) (by exact (tgT_ok hk (by exact (tgsCons_ok (by exact (tgF_ok hk rfl no_cs (by exact (var_ok (i := 1) rfl (by first | exact Or.inl rfl | exact Or.inr (Or.inl rfl) | exact Or.inr (Or.inr rfl)))))) (by exact (tgsCons_ok (by exact (tgF_ok hk rfl no_cs (by exact (var_ok (i := 1) rfl (by first | exact Or.inl rfl | exact Or.inr (Or.inl rfl) | exact Or.inr (Or.inr rfl)))))) tgsNil_ok)))))))) (by exact (last_ok (by exact (ret_ok (by exact (var_ok (i := 1) rfl (by first | exact Or.inl rfl | exact Or.inr (Or.inl rfl) | exact Or.inr (Or.inr rfl))))))))))))))))
theorem sc_Asked___init__ : FnScope ["self", "sort"] ["self", "sort"] d_Asked___init__.scope := ⟨rfl, rfl, rfl, by decide +kernel, rfl, by decide +kernel, by decide +kernel⟩
theorem ok_Asked___init__ {P : Program} {w : World} {K : PySem.W.Frag} {mg : Str → Option Value} {base : Heap} (t : Tx w K mg) : Cal P w (gm K) mg base 4 (He.fAd K d_Asked___init__.at_) 2 m_Asked___init__ [] := by
  obtain ⟨fd, F⟩ := t.d.def_ 23 (d := d_Asked___init__) rfl
  exact cal_of (g := gm K) (d := d_Asked___init__) (N := ["self", "sort"]) (s := s_Asked___init__) ⟨fun _ => trivial, rfl⟩ F sc_Asked___init__ rfl (fun _ _ _ _ _ _ us hl => match us, hl with | [_, _], _ => rfl) (fun cdv A outer sh H E hr hk hp => (by exact (by exact (seq_ok (by exact (expr_ok (by exact (call_ok (x := "look_at_sort") hk (hr.mono (by decide)) (ok_look_at_sort t) rfl t.glo_look_at_sort (by exact (by exact (cons_ok (by exact (var_ok (i := 1) rfl (by first | exact Or.inl rfl | exact Or.inr (Or.inl rfl) | exact Or.inr (Or.inr rfl)))) nil_ok))))))) (by exact (seq_ok (by exact (fldSet_ok hk rfl (one_cs (t.noat_Asked_own_sort)) (by exact (var_ok (i := 0) rfl (by first | exact Or.inl rfl | exact Or.inr (Or.inl rfl) | exact Or.inr (Or.inr rfl)))) (by exact (var_ok (i := 1) rfl (by first | exact Or.inl rfl | exact Or.inr (Or.inl rfl) | exact Or.inr (Or.inr rfl)))))) (by exact (seq_ok (by exact (fldSet_ok hk rfl (one_cs (t.noat_Asked_own_state)) (by exact (var_ok (i := 0) rfl (by first | exact Or.inl rfl | exact Or.inr (Or.inl rfl) | exact Or.inr (Or.inr rfl)))) (by exact (str_ok (by kernel_rfl))))) (by exact (seq_ok (by exact (fldSet_ok hk rfl (one_cs (t.noat_Asked_in_state)) (by exact (var_ok (i := 0) rfl (by first | exact Or.inl rfl | exact Or.inr (Or.inl rfl) | exact Or.inr (Or.inr rfl)))) int_ok)) (by exact (seq_ok (by exact (fldSet_ok hk rfl (one_cs (t.noat_Asked_own_end)) (by exact (var_ok (i := 0) rfl (by first | exact Or.inl rfl | exact Or.inr (Or.inl rfl) | exact Or.inr (Or.inr rfl)))) non_ok)) (by exact (seq_ok (by exact (fldSet_ok hk rfl (one_cs (t.noat_Asked_has_said)) (by exact (var_ok (i := 0) rfl (by first | exact Or.inl rfl | exact Or.inr (Or.inl rfl) | exact Or.inr (Or.inr rfl)))) bl_ok)) (by exact (last_ok (by exact (fldSet_ok hk rfl (one_cs (t.noat_Asked_was_sure)) (by exact (var_ok (i := 0) rfl (by first | exact Or.inl rfl | exact Or.inr (Or.inl rfl) | exact Or.inr (Or.inr rfl)))) bl_ok))))))))))))))))))
theorem okK_Asked___init___1_sort {P : Program} {w : World} {K : PySem.W.Frag} {mg : Str → Option Value} {base : Heap} (t : Tx w K mg) : CalK P w (gm K) mg base 4 (He.fAd K d_Asked___init__.at_) 1 ["sort"] [0, 1] 2 m_Asked___init__ [] := by
  obtain ⟨fd, F⟩ := t.d.def_ 23 (d := d_Asked___init__) rfl
  exact calK_no (g := gm K) (d := d_Asked___init__) (N := ["self", "sort"]) (ks := ["sort"]) (idx := [0, 1]) (s := s_Asked___init__) ⟨fun _ => trivial, rfl⟩ F sc_Asked___init__ rfl (fun _ _ _ _ _ _ us ws h1 h2 => match us, ws, h1, h2 with | [_], [_], _, _ => rfl) (fun cdv A outer sh H E hr hk hp => (by exact (by exact (seq_ok (by exact (expr_ok (by exact (call_ok (x := "look_at_sort") hk (hr.mono (by decide)) (ok_look_at_sort t) rfl t.glo_look_at_sort (by exact (by exact (cons_ok (by exact (var_ok (i := 1) rfl (by first | exact Or.inl rfl | exact Or.inr (Or.inl rfl) | exact Or.inr (Or.inr rfl)))) nil_ok))))))) (by exact (seq_ok (by exact (fldSet_ok hk rfl (one_cs (t.noat_Asked_own_sort)) (by exact (var_ok (i := 0) rfl (by first | exact Or.inl rfl | exact Or.inr (Or.inl rfl) | exact Or.inr (Or.inr rfl)))) (by exact (var_ok (i := 1) rfl (by first | exact Or.inl rfl | exact Or.inr (Or.inl rfl) | exact Or.inr (Or.inr rfl)))))) (by exact (seq_ok (by exact (fldSet_ok hk rfl (one_cs (t.noat_Asked_own_state)) (by exact (var_ok (i := 0) rfl (by first | exact Or.inl rfl | exact Or.inr (Or.inl rfl) | exact Or.inr (Or.inr rfl)))) (by exact (str_ok (by kernel_rfl))))) (by exact (seq_ok (by exact (fldSet_ok hk rfl (one_cs (t.noat_Asked_in_state)) (by exact (var_ok (i := 0) rfl (by first | exact Or.inl rfl | exact Or.inr (Or.inl rfl) | exact Or.inr (Or.inr rfl)))) int_ok)) (by exact (seq_ok (by exact (fldSet_ok hk rfl (one_cs (t.noat_Asked_own_end)) (by exact (var_ok (i := 0) rfl (by first | exact Or.inl rfl | exact Or.inr (Or.inl rfl) | exact Or.inr (Or.inr rfl)))) non_ok)) (by exact (seq_ok (by exact (fldSet_ok hk rfl (one_cs (t.noat_Asked_has_said)) (by exact (var_ok (i := 0) rfl (by first | exact Or.inl rfl | exact Or.inr (Or.inl rfl) | exact Or.inr (Or.inr rfl)))) bl_ok)) (by exact (last_ok (by exact (fldSet_ok hk rfl (one_cs (t.noat_Asked_was_sure)) (by exact (var_ok (i := 0) rfl (by first | exact Or.inl rfl | exact Or.inr (Or.inl rfl) | exact Or.inr (Or.inr rfl)))) bl_ok))))))))))))))))))
theorem sc_Asked_twin : FnScope ["self", "other"] ["self"] d_Asked_twin.scope := ⟨rfl, rfl, rfl, by decide +kernel, rfl, by decide +kernel, by decide +kernel⟩
theorem ok_Asked_twin {P : Program} {w : World} {K : PySem.W.Frag} {mg : Str → Option Value} {base : Heap} (t : Tx w K mg) : Cal P w (gm K) mg base 6 (He.fAd K d_Asked_twin.at_) 1 m_Asked_twin [] := by
  obtain ⟨fd, F⟩ := t.d.def_ 34 (d := d_Asked_twin) rfl
  exact cal_of (g := gm K) (d := d_Asked_twin) (N := ["self", "other"]) (s := s_Asked_twin) ⟨fun _ => trivial, rfl⟩ F sc_Asked_twin rfl (fun _ _ _ _ _ _ us hl => match us, hl with | [_], _ => rfl) (fun cdv A outer sh H E hr hk hp => (by exact (by exact (seq_ok (by exact (set_ok (i := 1) hk rfl (by first | exact Or.inl rfl | exact Or.inr rfl) (by exact (make_ok (x := "Asked") hk (hr.mono (by decide)) ⟨ok_Asked___init__ t, t.mkr_Asked, t.cls_Asked⟩ rfl t.glo_Asked (by exact (by exact (cons_ok (by exact (fld_ok hk (by exact (var_ok (i := 0) rfl (by first | exact Or.inl rfl | exact Or.inr (Or.inl rfl) | exact Or.inr (Or.inr rfl)))) rfl rfl)) nil_ok))))))) (by exact (seq_ok (by exact (asg_ok (by exact (tup_ok (by exact (by exact (cons_ok (by exact (fld_ok hk (by exact (var_ok (i := 0) rfl (by first | exact Or.inl rfl | exact Or.inr (Or.inl rfl) | exact Or.inr (Or.inr rfl)))) rfl rfl)) (by exact (cons_ok (by exact (fld_ok hk (by exact (var_ok (i := 0) rfl (by first | exact Or.inl rfl | exact Or.inr (Or.inl rfl) | exact Or.inr (Or.inr rfl)))) rfl rfl)) (by exact (cons_ok (by exact (fld_ok hk (by exact (var_ok (i := 0) rfl (by first | exact Or.inl rfl | exact Or.inr (Or.inl rfl) | exact Or.inr (Or.inr rfl)))) rfl rfl)) nil_ok))))))))) (by exact (tgT_ok hk (by exact (tgsCons_ok (by exact (tgF_ok hk rfl no_cs (by exact (var_ok (i := 1) rfl (by first | exact Or.inl rfl | exact Or.inr (Or.inl rfl) | exact Or.inr (Or.inr rfl)))))) (by exact (tgsCons_ok (by exact (tgF_ok hk rfl no_cs (by exact (var_ok (i := 1) rfl (by first | exact Or.inl rfl | exact Or.inr (Or.inl rfl) | exact Or.inr (Or.inr rfl)))))) (by exact (tgsCons_ok (by exact (tgF_ok hk rfl no_cs (by exact (var_ok (i := 1) rfl (by first | exact Or.inl rfl | exact Or.inr (Or.inl rfl) | exact Or.inr (Or.inr rfl)))))) tgsNil_ok)))))))))) (by exact (seq_ok (by exact (asg_ok (by exact (tup_ok (by exact (by exact (cons_ok (by exact (fld_ok hk (by exact (var_ok (i := 0) rfl (by first | exact Or.inl rfl | exact Or.inr (Or.inl rfl) | exact Or.inr (Or.inr rfl)))) rfl rfl)) (by exact (cons_ok (by exact (fld_ok hk (by exact (var_ok (i := 0) rfl (by first | exact Or.inl rfl | exact Or.inr (Or.inl rfl) | exact Or.inr (Or.inr rfl)))) rfl rfl)) nil_ok))))))) (by exact (tgT_ok hk (by exact (tgsCons_ok (by exact (tgF_ok hk rfl no_cs (by exact (var_ok (i := 1) rfl (by first | exact Or.inl rfl | exact Or.inr (Or.inl rfl) | exact Or.inr (Or.inr rfl)))))) (by exact (tgsCons_ok (by exact (tgF_ok hk rfl no_cs (by exact (var_ok (i := 1) rfl (by first | exact Or.inl rfl | exact Or.inr (Or.inl rfl) | exact Or.inr (Or.inr rfl)))))) tgsNil_ok)))))))) (by exact (last_ok (by exact (ret_ok (by exact (var_ok (i := 1) rfl (by first | exact Or.inl rfl | exact Or.inr (Or.inl rfl) | exact Or.inr (Or.inr rfl))))))))))))))))
theorem sc__law_odd_words : FnScope ["_law_pool_here", "_law_way", "_law_odd", "_law_some"] ["_law_pool_here", "_law_way"] d__law_odd_words.scope := ⟨rfl, rfl, rfl, by decide +kernel, rfl, by decide +kernel, by decide +kernel⟩
theorem ok__law_odd_words {P : Program} {w : World} {K : PySem.W.Frag} {mg : Str → Option Value} {base : Heap} (t : Tx w K mg) : Cal P w (gm K) mg base 2 (He.fAd K d__law_odd_words.at_) 2 m__law_odd_words [] := by
  obtain ⟨fd, F⟩ := t.d.def_ 40 (d := d__law_odd_words) rfl
  exact cal_of (g := gm K) (d := d__law_odd_words) (N := ["_law_pool_here", "_law_way", "_law_odd", "_law_some"]) (s := s__law_odd_words) ⟨fun _ => trivial, rfl⟩ F sc__law_odd_words rfl (fun _ _ _ _ _ _ us hl => match us, hl with | [_, _], _ => rfl) (fun cdv A outer sh H E hr hk hp => (by exact (by exact (seq_ok (by exact (set_ok (i := 2) hk rfl (by first | exact Or.inl rfl | exact Or.inr rfl) (by exact (lst_ok (by exact (by exact (cons_ok non_ok (by exact (cons_ok int_ok (by exact (cons_ok bl_ok (by exact (cons_ok (by exact (str_ok (by kernel_rfl))) (by exact (cons_ok (by exact (str_ok (by kernel_rfl))) (by exact (cons_ok (by exact (str_ok (by kernel_rfl))) (by exact (cons_ok (by exact (str_ok (by kernel_rfl))) (by exact (cons_ok (by exact (lst_ok (by exact (by exact (cons_ok (by exact (str_ok (by kernel_rfl))) nil_ok))))) (by exact (cons_ok (by exact (tup_ok (by exact (by exact (cons_ok (by exact (str_ok (by kernel_rfl))) nil_ok))))) (by exact (cons_ok dict0_ok (by exact (cons_ok (by exact (str_ok (by kernel_rfl))) (by exact (cons_ok (by exact (str_ok (by kernel_rfl))) (by exact (cons_ok (by exact (str_ok (by kernel_rfl))) nil_ok))))))))))))))))))))))))))))))) (by exact (seq_ok (by exact (set_ok (i := 3) hk rfl (by first | exact Or.inl rfl | exact Or.inr rfl) (by exact (slice_ok hk (by exact (slice_ok hk (by exact (var_ok (i := 2) rfl (by first | exact Or.inl rfl | exact Or.inr (Or.inl rfl) | exact Or.inr (Or.inr rfl)))) (pom_some (by exact (call_ok (x := "_law_take") hk (hr.mono (by decide)) (ok__law_take t) rfl t.glo__law_take (by exact (by exact (cons_ok (by exact (var_ok (i := 0) rfl (by first | exact Or.inl rfl | exact Or.inr (Or.inl rfl) | exact Or.inr (Or.inr rfl)))) (by exact (cons_ok int_ok nil_ok)))))))) pom_none)) pom_none (pom_some int_ok))))) (by exact (last_ok (by exact (ret_ok (by exact (bin_ok op_addA add_S (by exact (var_ok (i := 3) rfl (by first | exact Or.inl rfl | exact Or.inr (Or.inl rfl) | exact Or.inr (Or.inr rfl)))) (by exact (idx_ok hk (by exact (lst_ok (by exact (by exact (cons_ok (by exact (lst_ok (by exact (by exact (cons_ok (by exact (str_ok (by kernel_rfl))) (by exact (cons_ok int_ok nil_ok))))))) (by exact (cons_ok (by exact (lst_ok (by exact (by exact (cons_ok (by exact (str_ok (by kernel_rfl))) (by exact (cons_ok (by exact (str_ok (by kernel_rfl))) nil_ok))))))) nil_ok))))))) (by exact (bltT_ok (x := "int") call_int1 int_S rfl t.free_int rfl (by exact (by exact (cons_ok (by exact (cmp_ok (op_eqD (by have := hk.un; omega)) eq_S (by exact (var_ok (i := 1) rfl (by first | exact Or.inl rfl | exact Or.inr (Or.inl rfl) | exact Or.inr (Or.inr rfl)))) (by exact (str_ok (by kernel_rfl))) (nomark _))) nil_ok))))) (fun _ _ => rfl)))))))))))))))
theorem sc_Asked_say : FnScope ["self", "word"] ["self", "word"] d_Asked_say.scope := ⟨rfl, rfl, rfl, by decide +kernel, rfl, by decide +kernel, by decide +kernel⟩
theorem ok_Asked_say {P : Program} {w : World} {K : PySem.W.Frag} {mg : Str → Option Value} {base : Heap} (t : Tx w K mg) : Cal P w (gm K) mg base 3 (He.fAd K d_Asked_say.at_) 2 m_Asked_say [] := by
  obtain ⟨fd, F⟩ := t.d.def_ 25 (d := d_Asked_say) rfl
  exact cal_of (g := gm K) (d := d_Asked_say) (N := ["self", "word"]) (s := s_Asked_say) ⟨fun _ => trivial, rfl⟩ F sc_Asked_say rfl (fun _ _ _ _ _ _ us hl => match us, hl with | [_, _], _ => rfl) (fun cdv A outer sh H E hr hk hp => (by exact (by exact (seq_ok (by exact (if_ok (by exact (PW.pt (by exact (by exact (orT_ok (by exact (notT_ok (by exact (truth_ok hk (by exact (isi_ok hk t.kit rfl t.free_isinstance (by exact (var_ok (i := 1) rfl (by first | exact Or.inl rfl | exact Or.inr (Or.inl rfl) | exact Or.inr (Or.inr rfl)))) (by exact (clsTy (x := "str") rfl t.free_str rfl)))))))) (by exact (or1T_ok (by exact (cmpT_ok (op_notinA (by have := hk.un; omega)) (in_S true) (by exact (var_ok (i := 1) rfl (by first | exact Or.inl rfl | exact Or.inr (Or.inl rfl) | exact Or.inr (Or.inr rfl)))) (by exact (kd_ok (x := "ANSWERS") hk t.tab_ANSWERS rfl t.glo_ANSWERS (by exact (fld_ok hk (by exact (var_ok (i := 0) rfl (by first | exact Or.inl rfl | exact Or.inr (Or.inl rfl) | exact Or.inr (Or.inr rfl)))) rfl rfl)) (fun _ _ => rfl))) (by with_unfolding_all rfl)))))))))) (by exact (by exact (last_ok (by exact (raise1_ok (x := "NoWord") hk (hr.mono (by decide)) (t.xi_NoWord) rfl t.glo_NoWord (by exact (by exact (cons_ok (by exact (var_ok (i := 1) rfl (by first | exact Or.inl rfl | exact Or.inr (Or.inl rfl) | exact Or.inr (Or.inr rfl)))) nil_ok)))))))) nil_S)) (by exact (seq_ok (by exact (if_ok (by exact (cmpT_ok (op_eqD (by have := hk.un; omega)) eq_S (by exact (fld_ok hk (by exact (var_ok (i := 0) rfl (by first | exact Or.inl rfl | exact Or.inr (Or.inl rfl) | exact Or.inr (Or.inr rfl)))) rfl rfl)) (by exact (str_ok (by kernel_rfl))) (nomark _))) (by exact (by exact (last_ok (by exact (ret_ok (by exact (ife_ok (by exact (cmpT_ok (op_eqD (by have := hk.un; omega)) eq_S (by exact (var_ok (i := 1) rfl (by first | exact Or.inl rfl | exact Or.inr (Or.inl rfl) | exact Or.inr (Or.inr rfl)))) (by exact (str_ok (by kernel_rfl))) (nomark _))) (by exact (lstC_ok (by exact (by exact (cons_ok (by exact (str_ok (by kernel_rfl))) nil_ok))))) (by exact (lstC_ok nil_ok))))))))) nil_S)) (by exact (seq_ok (by exact (if_ok (by exact (cmpT_ok (op_neD (by have := hk.un; omega)) ne_S (by exact (fld_ok hk (by exact (var_ok (i := 0) rfl (by first | exact Or.inl rfl | exact Or.inr (Or.inl rfl) | exact Or.inr (Or.inr rfl)))) rfl rfl)) (by exact (str_ok (by kernel_rfl))) (nomark _))) (by exact (by exact (last_ok (by exact (ret_ok (by exact (lstC_ok nil_ok))))))) nil_S)) (by exact (seq_ok (by exact (fldSet_ok hk rfl no_cs (by exact (var_ok (i := 0) rfl (by first | exact Or.inl rfl | exact Or.inr (Or.inl rfl) | exact Or.inr (Or.inr rfl)))) bl_ok)) (by exact (seq_ok (by exact (if_ok (by exact (cmpT_ok (op_neD (by have := hk.un; omega)) ne_S (by exact (var_ok (i := 1) rfl (by first | exact Or.inl rfl | exact Or.inr (Or.inl rfl) | exact Or.inr (Or.inr rfl)))) (by exact (str_ok (by kernel_rfl))) (nomark _))) (by exact (by exact (seq_ok (by exact (fldSet_ok hk rfl no_cs (by exact (var_ok (i := 0) rfl (by first | exact Or.inl rfl | exact Or.inr (Or.inl rfl) | exact Or.inr (Or.inr rfl)))) (by exact (var_ok (i := 1) rfl (by first | exact Or.inl rfl | exact Or.inr (Or.inl rfl) | exact Or.inr (Or.inr rfl)))))) (by exact (last_ok (by exact (expr_ok (by exact (meth_ok hk (hr.mono (by decide)) (t.mts_turn).ct (by exact (var_ok (i := 0) rfl (by first | exact Or.inl rfl | exact Or.inr (Or.inl rfl) | exact Or.inr (Or.inr rfl)))) (by exact (by exact (cons_ok (by exact (ife_ok (by exact (cmpT_ok (op_eqD (by have := hk.un; omega)) eq_S (by exact (var_ok (i := 1) rfl (by first | exact Or.inl rfl | exact Or.inr (Or.inl rfl) | exact Or.inr (Or.inr rfl)))) (by exact (str_ok (by kernel_rfl))) (nomark _))) (by exact (str_ok (by kernel_rfl))) (by exact (str_ok (by kernel_rfl))))) nil_ok)))))))))))) nil_S)) (by exact (last_ok (by exact (ret_ok (by exact (lstC_ok (by exact (by exact (cons_ok (by exact (str_ok (by kernel_rfl))) nil_ok)))))))))))))))))))))
theorem okK_Asked_say_1_word {P : Program} {w : World} {K : PySem.W.Frag} {mg : Str → Option Value} {base : Heap} (t : Tx w K mg) : CalK P w (gm K) mg base 3 (He.fAd K d_Asked_say.at_) 1 ["word"] [0, 1] 2 m_Asked_say [] := by
  obtain ⟨fd, F⟩ := t.d.def_ 25 (d := d_Asked_say) rfl
  exact calK_no (g := gm K) (d := d_Asked_say) (N := ["self", "word"]) (ks := ["word"]) (idx := [0, 1]) (s := s_Asked_say) ⟨fun _ => trivial, rfl⟩ F sc_Asked_say rfl (fun _ _ _ _ _ _ us ws h1 h2 => match us, ws, h1, h2 with | [_], [_], _, _ => rfl) (fun cdv A outer sh H E hr hk hp => (by exact (by exact (seq_ok (by exact (if_ok (by exact (PW.pt (by exact (by exact (orT_ok (by exact (notT_ok (by exact (truth_ok hk (by exact (isi_ok hk t.kit rfl t.free_isinstance (by exact (var_ok (i := 1) rfl (by first | exact Or.inl rfl | exact Or.inr (Or.inl rfl) | exact Or.inr (Or.inr rfl)))) (by exact (clsTy (x := "str") rfl t.free_str rfl)))))))) (by exact (or1T_ok (by exact (cmpT_ok (op_notinA (by have := hk.un; omega)) (in_S true) (by exact (var_ok (i := 1) rfl (by first | exact Or.inl rfl | exact Or.inr (Or.inl rfl) | exact Or.inr (Or.inr rfl)))) (by exact (kd_ok (x := "ANSWERS") hk t.tab_ANSWERS rfl t.glo_ANSWERS (by exact (fld_ok hk (by exact (var_ok (i := 0) rfl (by first | exact Or.inl rfl | exact Or.inr (Or.inl rfl) | exact Or.inr (Or.inr rfl)))) rfl rfl)) (fun _ _ => rfl))) (by with_unfolding_all rfl)))))))))) (by exact (by exact (last_ok (by exact (raise1_ok (x := "NoWord") hk (hr.mono (by decide)) (t.xi_NoWord) rfl t.glo_NoWord (by exact (by exact (cons_ok (by exact (var_ok (i := 1) rfl (by first | exact Or.inl rfl | exact Or.inr (Or.inl rfl) | exact Or.inr (Or.inr rfl)))) nil_ok)))))))) nil_S)) (by exact (seq_ok (by exact (if_ok (by exact (cmpT_ok (op_eqD (by have := hk.un; omega)) eq_S (by exact (fld_ok hk (by exact (var_ok (i := 0) rfl (by first | exact Or.inl rfl | exact Or.inr (Or.inl rfl) | exact Or.inr (Or.inr rfl)))) rfl rfl)) (by exact (str_ok (by kernel_rfl))) (nomark _))) (by exact (by exact (last_ok (by exact (ret_ok (by exact (ife_ok (by exact (cmpT_ok (op_eqD (by have := hk.un; omega)) eq_S (by exact (var_ok (i := 1) rfl (by first | exact Or.inl rfl | exact Or.inr (Or.inl rfl) | exact Or.inr (Or.inr rfl)))) (by exact (str_ok (by kernel_rfl))) (nomark _))) (by exact (lstC_ok (by exact (by exact (cons_ok (by exact (str_ok (by kernel_rfl))) nil_ok))))) (by exact (lstC_ok nil_ok))))))))) nil_S)) (by exact (seq_ok (by exact (if_ok (by exact (cmpT_ok (op_neD (by have := hk.un; omega)) ne_S (by exact (fld_ok hk (by exact (var_ok (i := 0) rfl (by first | exact Or.inl rfl | exact Or.inr (Or.inl rfl) | exact Or.inr (Or.inr rfl)))) rfl rfl)) (by exact (str_ok (by kernel_rfl))) (nomark _))) (by exact (by exact (last_ok (by exact (ret_ok (by exact (lstC_ok nil_ok))))))) nil_S)) (by exact (seq_ok (by exact (fldSet_ok hk rfl no_cs (by exact (var_ok (i := 0) rfl (by first | exact Or.inl rfl | exact Or.inr (Or.inl rfl) | exact Or.inr (Or.inr rfl)))) bl_ok)) (by exact (seq_ok (by exact (if_ok (by exact (cmpT_ok (op_neD (by have := hk.un; omega)) ne_S (by exact (var_ok (i := 1) rfl (by first | exact Or.inl rfl | exact Or.inr (Or.inl rfl) | exact Or.inr (Or.inr rfl)))) (by exact (str_ok (by kernel_rfl))) (nomark _))) (by exact (by exact (seq_ok (by exact (fldSet_ok hk rfl no_cs (by exact (var_ok (i := 0) rfl (by first | exact Or.inl rfl | exact Or.inr (Or.inl rfl) | exact Or.inr (Or.inr rfl)))) (by exact (var_ok (i := 1) rfl (by first | exact Or.inl rfl | exact Or.inr (Or.inl rfl) | exact Or.inr (Or.inr rfl)))))) (by exact (last_ok (by exact (expr_ok (by exact (meth_ok hk (hr.mono (by decide)) (t.mts_turn).ct (by exact (var_ok (i := 0) rfl (by first | exact Or.inl rfl | exact Or.inr (Or.inl rfl) | exact Or.inr (Or.inr rfl)))) (by exact (by exact (cons_ok (by exact (ife_ok (by exact (cmpT_ok (op_eqD (by have := hk.un; omega)) eq_S (by exact (var_ok (i := 1) rfl (by first | exact Or.inl rfl | exact Or.inr (Or.inl rfl) | exact Or.inr (Or.inr rfl)))) (by exact (str_ok (by kernel_rfl))) (nomark _))) (by exact (str_ok (by kernel_rfl))) (by exact (str_ok (by kernel_rfl))))) nil_ok)))))))))))) nil_S)) (by exact (last_ok (by exact (ret_ok (by exact (lstC_ok (by exact (by exact (cons_ok (by exact (str_ok (by kernel_rfl))) nil_ok)))))))))))))))))))))
theorem Tx.mts_say {P : Program} {w : World} {K : PySem.W.Frag} {mg : Str → Option Value} {base : Heap} (t : Tx w K mg) : MtsOk P w (gm K) mg base 3 "say" [(23, (2, m_Asked_say, []))] := (mts_cons ⟨(ok_Asked_say t).mono (by decide), t.meth_Asked_say⟩ mts_nil)
theorem sc__law_none : FnScope ["_law_door", "_law_one", "_law_thing", "e"] ["_law_door", "_law_one", "_law_thing"] d__law_none.scope := ⟨rfl, rfl, rfl, by decide +kernel, rfl, by decide +kernel, by decide +kernel⟩
theorem ok__law_none {P : Program} {w : World} {K : PySem.W.Frag} {mg : Str → Option Value} {base : Heap} (t : Tx w K mg) : CalG P w (gm K) mg base 6 (He.fAd K d__law_none.at_) 3 m__law_none := by
  obtain ⟨fd, F⟩ := t.d.def_ 38 (d := d__law_none) rfl
  exact cal_g (g := gm K) (d := d__law_none) (N := ["_law_door", "_law_one", "_law_thing", "e"]) (s := s__law_none) ⟨fun _ => trivial, rfl⟩ F sc__law_none rfl (fun _ _ _ _ _ _ us hl => match us, hl with | [_, _, _], _ => rfl) (fun cdv A hgd outer sh H E hr hk hp => (by exact (by exact (seq_ok (by exact (tryT_ok (i := 3) (T1 := .own 2) (T2 := .own 3) hk t.exm rfl ⟨rfl, by decide, Or.inl t.glo_NoSort⟩ ⟨rfl, by decide, Or.inl t.glo_NoWord⟩ (fun W pn xe hk hp => (by exact (by exact (last_ok (by exact (if_ok (by exact (cmpT_ok (op_eqD (by have := hk.un; omega)) eq_S (by exact (var_ok (i := 0) rfl (by first | exact Or.inl rfl | exact Or.inr (Or.inl rfl) | exact Or.inr (Or.inr rfl)))) int_ok (nomark _))) (by exact (by exact (last_ok (by exact (expr_ok (by exact (make_ok (x := "Asker") hk (hr.mono (by decide)) ⟨ok_Asker___init__ t, t.mkr_Asker, t.cls_Asker⟩ rfl t.glo_Asker (by exact (by exact (cons_ok (by exact (var_ok (i := 2) rfl (by first | exact Or.inl rfl | exact Or.inr (Or.inl rfl) | exact Or.inr (Or.inr rfl)))) nil_ok)))))))))) (by exact (by exact (last_ok (by exact (if_ok (by exact (cmpT_ok (op_eqD (by have := hk.un; omega)) eq_S (by exact (var_ok (i := 0) rfl (by first | exact Or.inl rfl | exact Or.inr (Or.inl rfl) | exact Or.inr (Or.inr rfl)))) int_ok (nomark _))) (by exact (by exact (last_ok (by exact (expr_ok (by exact (make_ok (x := "Asked") hk (hr.mono (by decide)) ⟨ok_Asked___init__ t, t.mkr_Asked, t.cls_Asked⟩ rfl t.glo_Asked (by exact (by exact (cons_ok (by exact (var_ok (i := 2) rfl (by first | exact Or.inl rfl | exact Or.inr (Or.inl rfl) | exact Or.inr (Or.inr rfl)))) nil_ok)))))))))) (by exact (by exact (last_ok (by exact (if_ok (by exact (cmpT_ok (op_eqD (by have := hk.un; omega)) eq_S (by exact (var_ok (i := 0) rfl (by first | exact Or.inl rfl | exact Or.inr (Or.inl rfl) | exact Or.inr (Or.inr rfl)))) int_ok (nomark _))) (by exact (by exact (last_ok (by exact (expr_ok (by exact (meth_ok hk (hr.mono (by decide)) (t.mts_hear).ct (by exact (var_ok (i := 1) rfl (by first | exact Or.inl rfl | exact Or.inr (Or.inl rfl) | exact Or.inr (Or.inr rfl)))) (by exact (by exact (cons_ok (by exact (var_ok (i := 2) rfl (by first | exact Or.inl rfl | exact Or.inr (Or.inl rfl) | exact Or.inr (Or.inr rfl)))) nil_ok)))))))))) (by exact (by exact (last_ok (by exact (expr_ok (by exact (meth_ok hk (hr.mono (by decide)) (t.mts_say).ct (by exact (var_ok (i := 1) rfl (by first | exact Or.inl rfl | exact Or.inr (Or.inl rfl) | exact Or.inr (Or.inr rfl)))) (by exact (by exact (cons_ok (by exact (var_ok (i := 2) rfl (by first | exact Or.inl rfl | exact Or.inr (Or.inl rfl) | exact Or.inr (Or.inr rfl)))) nil_ok)))))))))))))))))))))))))) (fun a oe pn c fs d S => have hk := S.kx; (by exact (by exact (last_ok (by exact (ret_ok (by exact (lst_ok (by exact (by exact (cons_ok (by exact (isX_ok (i := 3) (p2 := ⟨0, 0, 0, 0⟩) S t.isx rfl (by first | exact Or.inl rfl | exact Or.inr (Or.inl rfl) | exact Or.inr (Or.inr rfl)) rfl t.free_isinstance (by exact (clsOwn (x := "NoSort") (c := 2) rfl t.glo_NoSort)))) (by exact (cons_ok (by exact (isX_ok (i := 3) (p2 := ⟨0, 0, 0, 0⟩) S t.isx rfl (by first | exact Or.inl rfl | exact Or.inr (Or.inl rfl) | exact Or.inr (Or.inr rfl)) rfl t.free_isinstance (by exact (clsOwn (x := "NoWord") (c := 3) rfl t.glo_NoWord)))) (by exact (cons_ok (by exact (isX_ok (i := 3) (p2 := ⟨0, 0, 0, 0⟩) S t.isx rfl (by first | exact Or.inl rfl | exact Or.inr (Or.inl rfl) | exact Or.inr (Or.inr rfl)) rfl t.free_isinstance (by exact (clsTy (x := "ValueError") rfl t.free_ValueError rfl)))) (by exact (cons_ok (by exact (bltB_ok (x := "repr") (call_repr hgd hk.un) repr_S rfl t.free_repr rfl (by exact (by exact (cons_ok (by exact (xfT_ok (i := 3) S t.xf_thing rfl rfl (by first | exact Or.inl rfl | exact Or.inr (Or.inl rfl) | exact Or.inr (Or.inr rfl)))) nil_ok))))) nil_ok))))))))))))))))))) (by exact (last_ok (by exact (ret_ok non_ok))))))))
theorem sc_Asker_manner : FnScope ["self"] ["self"] d_Asker_manner.scope := ⟨rfl, rfl, rfl, by decide +kernel, rfl, by decide +kernel, by decide +kernel⟩
theorem ok_Asker_manner {P : Program} {w : World} {K : PySem.W.Frag} {mg : Str → Option Value} {base : Heap} (t : Tx w K mg) : Cal P w (gm K) mg base 1 (He.fAd K d_Asker_manner.at_) 1 m_Asker_manner [] := by
  obtain ⟨fd, F⟩ := t.d.def_ 16 (d := d_Asker_manner) rfl
  exact cal_of (g := gm K) (d := d_Asker_manner) (N := ["self"]) (s := s_Asker_manner) ⟨fun _ => trivial, rfl⟩ F sc_Asker_manner rfl (fun _ _ _ _ _ _ us hl => match us, hl with | [_], _ => rfl) (fun cdv A outer sh H E hr hk hp => (by exact (by exact (last_ok (by exact (ret_ok (by exact (fld_ok hk (by exact (var_ok (i := 0) rfl (by first | exact Or.inl rfl | exact Or.inr (Or.inl rfl) | exact Or.inr (Or.inr rfl)))) rfl rfl))))))))
theorem sc_Asked_manner : FnScope ["self"] ["self"] d_Asked_manner.scope := ⟨rfl, rfl, rfl, by decide +kernel, rfl, by decide +kernel, by decide +kernel⟩
theorem ok_Asked_manner {P : Program} {w : World} {K : PySem.W.Frag} {mg : Str → Option Value} {base : Heap} (t : Tx w K mg) : Cal P w (gm K) mg base 1 (He.fAd K d_Asked_manner.at_) 1 m_Asked_manner [] := by
  obtain ⟨fd, F⟩ := t.d.def_ 29 (d := d_Asked_manner) rfl
  exact cal_of (g := gm K) (d := d_Asked_manner) (N := ["self"]) (s := s_Asked_manner) ⟨fun _ => trivial, rfl⟩ F sc_Asked_manner rfl (fun _ _ _ _ _ _ us hl => match us, hl with | [_], _ => rfl) (fun cdv A outer sh H E hr hk hp => (by exact (by exact (last_ok (by exact (ret_ok (by exact (fld_ok hk (by exact (var_ok (i := 0) rfl (by first | exact Or.inl rfl | exact Or.inr (Or.inl rfl) | exact Or.inr (Or.inr rfl)))) rfl rfl))))))))
theorem sc_Asker_state : FnScope ["self"] ["self"] d_Asker_state.scope := ⟨rfl, rfl, rfl, by decide +kernel, rfl, by decide +kernel, by decide +kernel⟩
theorem ok_Asker_state {P : Program} {w : World} {K : PySem.W.Frag} {mg : Str → Option Value} {base : Heap} (t : Tx w K mg) : Cal P w (gm K) mg base 1 (He.fAd K d_Asker_state.at_) 1 m_Asker_state [] := by
  obtain ⟨fd, F⟩ := t.d.def_ 17 (d := d_Asker_state) rfl
  exact cal_of (g := gm K) (d := d_Asker_state) (N := ["self"]) (s := s_Asker_state) ⟨fun _ => trivial, rfl⟩ F sc_Asker_state rfl (fun _ _ _ _ _ _ us hl => match us, hl with | [_], _ => rfl) (fun cdv A outer sh H E hr hk hp => (by exact (by exact (last_ok (by exact (ret_ok (by exact (fld_ok hk (by exact (var_ok (i := 0) rfl (by first | exact Or.inl rfl | exact Or.inr (Or.inl rfl) | exact Or.inr (Or.inr rfl)))) rfl rfl))))))))
theorem sc_Asked_state : FnScope ["self"] ["self"] d_Asked_state.scope := ⟨rfl, rfl, rfl, by decide +kernel, rfl, by decide +kernel, by decide +kernel⟩
theorem ok_Asked_state {P : Program} {w : World} {K : PySem.W.Frag} {mg : Str → Option Value} {base : Heap} (t : Tx w K mg) : Cal P w (gm K) mg base 1 (He.fAd K d_Asked_state.at_) 1 m_Asked_state [] := by
  obtain ⟨fd, F⟩ := t.d.def_ 30 (d := d_Asked_state) rfl
  exact cal_of (g := gm K) (d := d_Asked_state) (N := ["self"]) (s := s_Asked_state) ⟨fun _ => trivial, rfl⟩ F sc_Asked_state rfl (fun _ _ _ _ _ _ us hl => match us, hl with | [_], _ => rfl) (fun cdv A outer sh H E hr hk hp => (by exact (by exact (last_ok (by exact (ret_ok (by exact (fld_ok hk (by exact (var_ok (i := 0) rfl (by first | exact Or.inl rfl | exact Or.inr (Or.inl rfl) | exact Or.inr (Or.inr rfl)))) rfl rfl))))))))
theorem sc_Asker_end : FnScope ["self"] ["self"] d_Asker_end.scope := ⟨rfl, rfl, rfl, by decide +kernel, rfl, by decide +kernel, by decide +kernel⟩
theorem ok_Asker_end {P : Program} {w : World} {K : PySem.W.Frag} {mg : Str → Option Value} {base : Heap} (t : Tx w K mg) : Cal P w (gm K) mg base 1 (He.fAd K d_Asker_end.at_) 1 m_Asker_end [] := by
  obtain ⟨fd, F⟩ := t.d.def_ 18 (d := d_Asker_end) rfl
  exact cal_of (g := gm K) (d := d_Asker_end) (N := ["self"]) (s := s_Asker_end) ⟨fun _ => trivial, rfl⟩ F sc_Asker_end rfl (fun _ _ _ _ _ _ us hl => match us, hl with | [_], _ => rfl) (fun cdv A outer sh H E hr hk hp => (by exact (by exact (last_ok (by exact (ret_ok (by exact (fld_ok hk (by exact (var_ok (i := 0) rfl (by first | exact Or.inl rfl | exact Or.inr (Or.inl rfl) | exact Or.inr (Or.inr rfl)))) rfl rfl))))))))
theorem sc_Asked_end : FnScope ["self"] ["self"] d_Asked_end.scope := ⟨rfl, rfl, rfl, by decide +kernel, rfl, by decide +kernel, by decide +kernel⟩
theorem ok_Asked_end {P : Program} {w : World} {K : PySem.W.Frag} {mg : Str → Option Value} {base : Heap} (t : Tx w K mg) : Cal P w (gm K) mg base 1 (He.fAd K d_Asked_end.at_) 1 m_Asked_end [] := by
  obtain ⟨fd, F⟩ := t.d.def_ 31 (d := d_Asked_end) rfl
  exact cal_of (g := gm K) (d := d_Asked_end) (N := ["self"]) (s := s_Asked_end) ⟨fun _ => trivial, rfl⟩ F sc_Asked_end rfl (fun _ _ _ _ _ _ us hl => match us, hl with | [_], _ => rfl) (fun cdv A outer sh H E hr hk hp => (by exact (by exact (last_ok (by exact (ret_ok (by exact (fld_ok hk (by exact (var_ok (i := 0) rfl (by first | exact Or.inl rfl | exact Or.inr (Or.inl rfl) | exact Or.inr (Or.inr rfl)))) rfl rfl))))))))
theorem sc_Asker_beats : FnScope ["self"] ["self"] d_Asker_beats.scope := ⟨rfl, rfl, rfl, by decide +kernel, rfl, by decide +kernel, by decide +kernel⟩
theorem ok_Asker_beats {P : Program} {w : World} {K : PySem.W.Frag} {mg : Str → Option Value} {base : Heap} (t : Tx w K mg) : Cal P w (gm K) mg base 1 (He.fAd K d_Asker_beats.at_) 1 m_Asker_beats [] := by
  obtain ⟨fd, F⟩ := t.d.def_ 19 (d := d_Asker_beats) rfl
  exact cal_of (g := gm K) (d := d_Asker_beats) (N := ["self"]) (s := s_Asker_beats) ⟨fun _ => trivial, rfl⟩ F sc_Asker_beats rfl (fun _ _ _ _ _ _ us hl => match us, hl with | [_], _ => rfl) (fun cdv A outer sh H E hr hk hp => (by exact (by exact (last_ok (by exact (ret_ok (by exact (fld_ok hk (by exact (var_ok (i := 0) rfl (by first | exact Or.inl rfl | exact Or.inr (Or.inl rfl) | exact Or.inr (Or.inr rfl)))) rfl rfl))))))))
theorem Tx.mts_end {P : Program} {w : World} {K : PySem.W.Frag} {mg : Str → Option Value} {base : Heap} (t : Tx w K mg) : MtsOk P w (gm K) mg base 1 "end" [(22, (1, m_Asker_end, [])), (23, (1, m_Asked_end, []))] := (mts_cons ⟨(ok_Asker_end t).mono (by decide), t.meth_Asker_end⟩ (mts_cons ⟨(ok_Asked_end t).mono (by decide), t.meth_Asked_end⟩ mts_nil))
theorem Tx.mts_manner {P : Program} {w : World} {K : PySem.W.Frag} {mg : Str → Option Value} {base : Heap} (t : Tx w K mg) : MtsOk P w (gm K) mg base 1 "manner" [(22, (1, m_Asker_manner, [])), (23, (1, m_Asked_manner, []))] := (mts_cons ⟨(ok_Asker_manner t).mono (by decide), t.meth_Asker_manner⟩ (mts_cons ⟨(ok_Asked_manner t).mono (by decide), t.meth_Asked_manner⟩ mts_nil))
theorem Tx.mts_state {P : Program} {w : World} {K : PySem.W.Frag} {mg : Str → Option Value} {base : Heap} (t : Tx w K mg) : MtsOk P w (gm K) mg base 1 "state" [(22, (1, m_Asker_state, [])), (23, (1, m_Asked_state, []))] := (mts_cons ⟨(ok_Asker_state t).mono (by decide), t.meth_Asker_state⟩ (mts_cons ⟨(ok_Asked_state t).mono (by decide), t.meth_Asked_state⟩ mts_nil))
theorem Tx.mts_twin {P : Program} {w : World} {K : PySem.W.Frag} {mg : Str → Option Value} {base : Heap} (t : Tx w K mg) : MtsOk P w (gm K) mg base 6 "twin" [(22, (1, m_Asker_twin, [])), (23, (1, m_Asked_twin, []))] := (mts_cons ⟨(ok_Asker_twin t).mono (by decide), t.meth_Asker_twin⟩ (mts_cons ⟨(ok_Asked_twin t).mono (by decide), t.meth_Asked_twin⟩ mts_nil))
theorem Tx.mts_beats {P : Program} {w : World} {K : PySem.W.Frag} {mg : Str → Option Value} {base : Heap} (t : Tx w K mg) : MtsOk P w (gm K) mg base 1 "beats" [(22, (1, m_Asker_beats, []))] := (mts_cons ⟨(ok_Asker_beats t).mono (by decide), t.meth_Asker_beats⟩ mts_nil)
theorem sc_law : FnScope ["_law_script", "_law_k", "_law_pool_here", "_law_odd", "_law_door", "_law_way", "_law_one", "_law_kept", "_law_twin", "_law_asked", "_law_behind", "_law_place", "_law_text", "_law_due", "_law_own"] ["_law_script"] d_law.scope := ⟨rfl, rfl, rfl, by decide +kernel, rfl, by decide +kernel, by decide +kernel⟩
theorem fn_law {P : Program} {w : World} {K : PySem.W.Frag} {mg : Str → Option Value} {base : Heap} (t : Tx w K mg) {fd : FuncData} (F : FunD K d_law.name d_law.qual d_law.params d_law.body d_law.scope [] [] (He.fAd K d_law.at_) fd) : FnG P w K mg base (L2.CX P w) 7 (He.fAd K d_law.at_) fd ["_law_script"] (spM (gm K) 1 m_law) :=
  fn_gM (g := gm K) (N := ["_law_script", "_law_k", "_law_pool_here", "_law_odd", "_law_door", "_law_way", "_law_one", "_law_kept", "_law_twin", "_law_asked", "_law_behind", "_law_place", "_law_text", "_law_due", "_law_own"]) (s := s_law) ⟨fun _ => trivial, rfl⟩ F sc_law rfl (fun cdv A hgd outer sh H E hr hk hp => (by exact (by exact (seq_ok (by exact (if_ok (by exact (PW.pt (by exact (by exact (orT_ok (by exact (cmpT_ok (op_neD (by have := hk.un; omega)) ne_S (by exact (bltT_ok (x := "list") call_list_of (list_S false) rfl t.free_list rfl (by exact (by exact (cons_ok (by exact (con_ok (x := "SORTS") (t.con_SORTS) rfl)) nil_ok))))) (by exact (lst_ok (by exact (by exact (cons_ok (by exact (str_ok (by kernel_rfl))) (by exact (cons_ok (by exact (str_ok (by kernel_rfl))) nil_ok))))))) (nomark _))) (by exact (or1T_ok (by exact (cmpT_ok (op_neD (by have := hk.un; omega)) ne_S (by exact (lst_ok (by exact (by exact (cons_ok (by exact (con_ok (x := "LIFE") (t.con_LIFE) rfl)) (by exact (cons_ok (by exact (con_ok (x := "QUIET") (t.con_QUIET) rfl)) (by exact (cons_ok (by exact (con_ok (x := "RINGING") (t.con_RINGING) rfl)) nil_ok))))))))) (by exact (lst_ok (by exact (by exact (cons_ok int_ok (by exact (cons_ok int_ok (by exact (cons_ok int_ok nil_ok))))))))) (nomark _)))))))))) (by exact (by exact (last_ok (by exact (ret_ok bl_ok))))) nil_S)) (by exact (seq_ok (by exact (if_ok (by exact (PW.pt (by exact (by exact (orT_ok (by exact (cmpT_ok (op_neD (by have := hk.un; omega)) ne_S (by exact (kd_ok (x := "ANSWERS") hk t.tab_ANSWERS rfl t.glo_ANSWERS (by exact (str_ok (by kernel_rfl))) (fun _ _ => rfl))) (by exact (tup_ok (by exact (by exact (cons_ok (by exact (str_ok (by kernel_rfl))) (by exact (cons_ok (by exact (str_ok (by kernel_rfl))) (by exact (cons_ok (by exact (str_ok (by kernel_rfl))) nil_ok))))))))) (nomark _))) (by exact (orT_ok (by exact (cmpT_ok (op_neD (by have := hk.un; omega)) ne_S (by exact (kd_ok (x := "ANSWERS") hk t.tab_ANSWERS rfl t.glo_ANSWERS (by exact (str_ok (by kernel_rfl))) (fun _ _ => rfl))) (by exact (tup_ok (by exact (by exact (cons_ok (by exact (str_ok (by kernel_rfl))) (by exact (cons_ok (by exact (str_ok (by kernel_rfl))) nil_ok))))))) (nomark _))) (by exact (or1T_ok (by exact (cmpT_ok (op_neD (by have := hk.un; omega)) ne_S (by exact (kdlen_ok (x := "ANSWERS") hk t.tab_ANSWERS t.kdl_ANSWERS rfl t.free_len rfl t.glo_ANSWERS)) int_ok (nomark _)))))))))))) (by exact (by exact (last_ok (by exact (ret_ok bl_ok))))) nil_S)) (by exact (seq_ok (by exact (forR1_ok hk hp rfl t.free_range (by exact (by exact (cons_ok (by exact (bltB_ok (x := "max") (call_max2 rfl) max_S rfl t.free_max rfl (by exact (by exact (cons_ok int_ok (by exact (cons_ok (by exact (bltB_ok (x := "min") (call_min2 rfl) min_S rfl t.free_min rfl (by exact (by exact (cons_ok (by exact (bltB_ok (x := "len") call_lenA len_S rfl t.free_len rfl (by exact (by exact (cons_ok (by exact (var_ok (i := 0) rfl (by first | exact Or.inl rfl | exact Or.inr (Or.inl rfl) | exact Or.inr (Or.inr rfl)))) nil_ok))))) (by exact (cons_ok int_ok nil_ok))))))) nil_ok))))))) nil_ok))) (by exact (tgN_ok (i := 1) hk.nd rfl (by first | exact Or.inl rfl | exact Or.inr rfl) (by first | exact Or.inl rfl | exact Or.inr rfl))) (by exact (by exact (seq_ok (by exact (set_ok (i := 2) hk rfl (by first | exact Or.inl rfl | exact Or.inr rfl) (by exact (call_ok (x := "_law_pool") hk (hr.mono (by decide)) (ok__law_pool t) rfl t.glo__law_pool (by exact (by exact (cons_ok (by exact (var_ok (i := 0) rfl (by first | exact Or.inl rfl | exact Or.inr (Or.inl rfl) | exact Or.inr (Or.inr rfl)))) (by exact (cons_ok (by exact (var_ok (i := 1) rfl (by first | exact Or.inl rfl | exact Or.inr (Or.inl rfl) | exact Or.inr (Or.inr rfl)))) nil_ok))))))))) (by exact (seq_ok (by exact (set_ok (i := 3) hk rfl (by first | exact Or.inl rfl | exact Or.inr rfl) (by exact (idx_ok hk (by exact (lst_ok (by exact (by exact (cons_ok non_ok (by exact (cons_ok int_ok (by exact (cons_ok bl_ok (by exact (cons_ok (by exact (str_ok (by kernel_rfl))) (by exact (cons_ok (by exact (str_ok (by kernel_rfl))) (by exact (cons_ok (by exact (str_ok (by kernel_rfl))) (by exact (cons_ok (by exact (str_ok (by kernel_rfl))) (by exact (cons_ok (by exact (lst_ok (by exact (by exact (cons_ok (by exact (str_ok (by kernel_rfl))) nil_ok))))) (by exact (cons_ok (by exact (tup_ok (by exact (by exact (cons_ok (by exact (str_ok (by kernel_rfl))) nil_ok))))) (by exact (cons_ok dict0_ok (by exact (cons_ok (by exact (bin_ok op_pow pow_S int_ok int_ok)) nil_ok))))))))))))))))))))))))) (by exact (call_ok (x := "_law_take") hk (hr.mono (by decide)) (ok__law_take t) rfl t.glo__law_take (by exact (by exact (cons_ok (by exact (var_ok (i := 2) rfl (by first | exact Or.inl rfl | exact Or.inr (Or.inl rfl) | exact Or.inr (Or.inr rfl)))) (by exact (cons_ok int_ok nil_ok))))))) (fun _ _ => rfl))))) (by exact (seq_ok (by exact (forR1_ok hk hp rfl t.free_range (by exact (by exact (cons_ok int_ok nil_ok))) (by exact (tgN_ok (i := 4) hk.nd rfl (by first | exact Or.inl rfl | exact Or.inr rfl) (by first | exact Or.inl rfl | exact Or.inr rfl))) (by exact (by exact (last_ok (by exact (if_ok (by exact (cmpT_ok (op_neD (by have := hk.un; omega)) ne_S (by exact (callG_ok (x := "_law_none") hgd hk (hr.mono (by decide)) (ok__law_none t) rfl t.glo__law_none (by exact (by exact (cons_ok (by exact (var_ok (i := 4) rfl (by first | exact Or.inl rfl | exact Or.inr (Or.inl rfl) | exact Or.inr (Or.inr rfl)))) (by exact (cons_ok non_ok (by exact (cons_ok (by exact (var_ok (i := 3) rfl (by first | exact Or.inl rfl | exact Or.inr (Or.inl rfl) | exact Or.inr (Or.inr rfl)))) nil_ok))))))))) (by exact (lst_ok (by exact (by exact (cons_ok bl_ok (by exact (cons_ok bl_ok (by exact (cons_ok bl_ok (by exact (cons_ok (by exact (bltB_ok (x := "repr") (call_repr hgd hk.un) repr_S rfl t.free_repr rfl (by exact (by exact (cons_ok (by exact (var_ok (i := 3) rfl (by first | exact Or.inl rfl | exact Or.inr (Or.inl rfl) | exact Or.inr (Or.inr rfl)))) nil_ok))))) nil_ok))))))))))) (nomark _))) (by exact (by exact (last_ok (by exact (ret_ok bl_ok))))) nil_S))))))) (by exact (last_ok (by exact (forQ_ok hk hp (by exact (lst_ok (by exact (by exact (cons_ok (by exact (str_ok (by kernel_rfl))) (by exact (cons_ok (by exact (str_ok (by kernel_rfl))) nil_ok))))))) (by exact (tgN_ok (i := 5) hk.nd rfl (by first | exact Or.inl rfl | exact Or.inr rfl) (by first | exact Or.inl rfl | exact Or.inr rfl))) (by exact (by exact (seq_ok (by exact (set_ok (i := 6) hk rfl (by first | exact Or.inl rfl | exact Or.inr rfl) (by exact (call_ok (x := "_law_to_state") hk (hr.mono (by decide)) (ok__law_to_state t) rfl t.glo__law_to_state (by exact (by exact (cons_ok (by exact (var_ok (i := 2) rfl (by first | exact Or.inl rfl | exact Or.inr (Or.inl rfl) | exact Or.inr (Or.inr rfl)))) (by exact (cons_ok (by exact (var_ok (i := 5) rfl (by first | exact Or.inl rfl | exact Or.inr (Or.inl rfl) | exact Or.inr (Or.inr rfl)))) nil_ok))))))))) (by exact (seq_ok (by exact (set_ok (i := 7) hk rfl (by first | exact Or.inl rfl | exact Or.inr rfl) (by exact (lst_ok (by exact (by exact (cons_ok (by exact (meth0_ok hk (hr.mono (by decide)) (t.mts_manner).ct (by exact (var_ok (i := 6) rfl (by first | exact Or.inl rfl | exact Or.inr (Or.inl rfl) | exact Or.inr (Or.inr rfl)))))) (by exact (cons_ok (by exact (meth0_ok hk (hr.mono (by decide)) (t.mts_state).ct (by exact (var_ok (i := 6) rfl (by first | exact Or.inl rfl | exact Or.inr (Or.inl rfl) | exact Or.inr (Or.inr rfl)))))) (by exact (cons_ok (by exact (meth0_ok hk (hr.mono (by decide)) (t.mts_end).ct (by exact (var_ok (i := 6) rfl (by first | exact Or.inl rfl | exact Or.inr (Or.inl rfl) | exact Or.inr (Or.inr rfl)))))) (by exact (cons_ok (by exact (meth0_ok hk (hr.mono (by decide)) (t.mts_beats).ct (by exact (var_ok (i := 6) rfl (by first | exact Or.inl rfl | exact Or.inr (Or.inl rfl) | exact Or.inr (Or.inr rfl)))))) nil_ok))))))))))))) (by exact (seq_ok (by exact (set_ok (i := 8) hk rfl (by first | exact Or.inl rfl | exact Or.inr rfl) (by exact (meth0_ok hk (hr.mono (by decide)) (t.mts_twin).ct (by exact (var_ok (i := 6) rfl (by first | exact Or.inl rfl | exact Or.inr (Or.inl rfl) | exact Or.inr (Or.inr rfl)))))))) (by exact (seq_ok (by exact (set_ok (i := 9) hk rfl (by first | exact Or.inl rfl | exact Or.inr rfl) (by exact (make_ok (x := "Asked") hk (hr.mono (by decide)) ⟨ok_Asked___init__ t, t.mkr_Asked, t.cls_Asked⟩ rfl t.glo_Asked (by exact (by exact (cons_ok (by exact (var_ok (i := 5) rfl (by first | exact Or.inl rfl | exact Or.inr (Or.inl rfl) | exact Or.inr (Or.inr rfl)))) nil_ok))))))) (by exact (seq_ok (by exact (set_ok (i := 10) hk rfl (by first | exact Or.inl rfl | exact Or.inr rfl) (by exact (make_ok (x := "Asked") hk (hr.mono (by decide)) ⟨ok_Asked___init__ t, t.mkr_Asked, t.cls_Asked⟩ rfl t.glo_Asked (by exact (by exact (cons_ok (by exact (var_ok (i := 5) rfl (by first | exact Or.inl rfl | exact Or.inr (Or.inl rfl) | exact Or.inr (Or.inr rfl)))) nil_ok))))))) (by exact (seq_ok (by exact (forR1_ok hk hp rfl t.free_range (by exact (by exact (cons_ok (by exact (call_ok (x := "_law_take") hk (hr.mono (by decide)) (ok__law_take t) rfl t.glo__law_take (by exact (by exact (cons_ok (by exact (var_ok (i := 2) rfl (by first | exact Or.inl rfl | exact Or.inr (Or.inl rfl) | exact Or.inr (Or.inr rfl)))) (by exact (cons_ok int_ok nil_ok))))))) nil_ok))) (by exact (tgN_ok (i := 11) hk.nd rfl (by first | exact Or.inl rfl | exact Or.inr rfl) (by first | exact Or.inl rfl | exact Or.inr rfl))) (by exact (by exact (seq_ok (by exact (expr_ok (by exact (meth_ok hk (hr.mono (by decide)) (t.mts_say).ct (by exact (var_ok (i := 9) rfl (by first | exact Or.inl rfl | exact Or.inr (Or.inl rfl) | exact Or.inr (Or.inr rfl)))) (by exact (by exact (cons_ok (by exact (str_ok (by kernel_rfl))) nil_ok))))))) (by exact (last_ok (by exact (expr_ok (by exact (meth_ok hk (hr.mono (by decide)) (t.mts_say).ct (by exact (var_ok (i := 10) rfl (by first | exact Or.inl rfl | exact Or.inr (Or.inl rfl) | exact Or.inr (Or.inr rfl)))) (by exact (by exact (cons_ok (by exact (str_ok (by kernel_rfl))) nil_ok)))))))))))))) (by exact (seq_ok (by exact (forQ_ok hk hp (by exact (call_ok (x := "_law_odd_words") hk (hr.mono (by decide)) (ok__law_odd_words t) rfl t.glo__law_odd_words (by exact (by exact (cons_ok (by exact (var_ok (i := 2) rfl (by first | exact Or.inl rfl | exact Or.inr (Or.inl rfl) | exact Or.inr (Or.inr rfl)))) (by exact (cons_ok (by exact (var_ok (i := 5) rfl (by first | exact Or.inl rfl | exact Or.inr (Or.inl rfl) | exact Or.inr (Or.inr rfl)))) nil_ok))))))) (by exact (tgN_ok (i := 12) hk.nd rfl (by first | exact Or.inl rfl | exact Or.inr rfl) (by first | exact Or.inl rfl | exact Or.inr rfl))) (by exact (by exact (last_ok (by exact (forQ_ok hk hp (by exact (lst_ok (by exact (by exact (cons_ok (by exact (tup_ok (by exact (by exact (cons_ok int_ok (by exact (cons_ok (by exact (var_ok (i := 6) rfl (by first | exact Or.inl rfl | exact Or.inr (Or.inl rfl) | exact Or.inr (Or.inr rfl)))) nil_ok))))))) (by exact (cons_ok (by exact (tup_ok (by exact (by exact (cons_ok int_ok (by exact (cons_ok (by exact (var_ok (i := 9) rfl (by first | exact Or.inl rfl | exact Or.inr (Or.inl rfl) | exact Or.inr (Or.inr rfl)))) nil_ok))))))) nil_ok))))))) (by exact (tgT_ok hk (by exact (tgsCons_ok (by exact (tgN_ok (i := 4) hk.nd rfl (by first | exact Or.inl rfl | exact Or.inr rfl) (by first | exact Or.inl rfl | exact Or.inr rfl))) (by exact (tgsCons_ok (by exact (tgN_ok (i := 14) hk.nd rfl (by first | exact Or.inl rfl | exact Or.inr rfl) (by first | exact Or.inl rfl | exact Or.inr rfl))) tgsNil_ok)))))) (by exact (by exact (last_ok (by exact (if_ok (by exact (cmpT_ok (op_neD (by have := hk.un; omega)) ne_S (by exact (callG_ok (x := "_law_none") hgd hk (hr.mono (by decide)) (ok__law_none t) rfl t.glo__law_none (by exact (by exact (cons_ok (by exact (var_ok (i := 4) rfl (by first | exact Or.inl rfl | exact Or.inr (Or.inl rfl) | exact Or.inr (Or.inr rfl)))) (by exact (cons_ok (by exact (var_ok (i := 14) rfl (by first | exact Or.inl rfl | exact Or.inr (Or.inl rfl) | exact Or.inr (Or.inr rfl)))) (by exact (cons_ok (by exact (var_ok (i := 12) rfl (by first | exact Or.inl rfl | exact Or.inr (Or.inl rfl) | exact Or.inr (Or.inr rfl)))) nil_ok))))))))) (by exact (lst_ok (by exact (by exact (cons_ok bl_ok (by exact (cons_ok bl_ok (by exact (cons_ok bl_ok (by exact (cons_ok (by exact (bltB_ok (x := "repr") (call_repr hgd hk.un) repr_S rfl t.free_repr rfl (by exact (by exact (cons_ok (by exact (var_ok (i := 12) rfl (by first | exact Or.inl rfl | exact Or.inr (Or.inl rfl) | exact Or.inr (Or.inr rfl)))) nil_ok))))) nil_ok))))))))))) (nomark _))) (by exact (by exact (last_ok (by exact (ret_ok bl_ok))))) nil_S)))))))))))) (by exact (seq_ok (by exact (if_ok (by exact (cmpT_ok (op_neD (by have := hk.un; omega)) ne_S (by exact (lst_ok (by exact (by exact (cons_ok (by exact (meth0_ok hk (hr.mono (by decide)) (t.mts_manner).ct (by exact (var_ok (i := 6) rfl (by first | exact Or.inl rfl | exact Or.inr (Or.inl rfl) | exact Or.inr (Or.inr rfl)))))) (by exact (cons_ok (by exact (meth0_ok hk (hr.mono (by decide)) (t.mts_state).ct (by exact (var_ok (i := 6) rfl (by first | exact Or.inl rfl | exact Or.inr (Or.inl rfl) | exact Or.inr (Or.inr rfl)))))) (by exact (cons_ok (by exact (meth0_ok hk (hr.mono (by decide)) (t.mts_end).ct (by exact (var_ok (i := 6) rfl (by first | exact Or.inl rfl | exact Or.inr (Or.inl rfl) | exact Or.inr (Or.inr rfl)))))) (by exact (cons_ok (by exact (meth0_ok hk (hr.mono (by decide)) (t.mts_beats).ct (by exact (var_ok (i := 6) rfl (by first | exact Or.inl rfl | exact Or.inr (Or.inl rfl) | exact Or.inr (Or.inr rfl)))))) nil_ok))))))))))) (by exact (var_ok (i := 7) rfl (by first | exact Or.inl rfl | exact Or.inr (Or.inl rfl) | exact Or.inr (Or.inr rfl)))) (nomark _))) (by exact (by exact (last_ok (by exact (ret_ok bl_ok))))) nil_S)) (by exact (seq_ok (by exact (if_ok (by exact (PW.pt (by exact (by exact (orT_ok (by exact (notT_ok (by exact (cmpT_ok (op_eqA rfl (hr.mono (by decide)) (t.eqs)) (rM_S fEqA_noEx) (by exact (var_ok (i := 6) rfl (by first | exact Or.inl rfl | exact Or.inr (Or.inl rfl) | exact Or.inr (Or.inr rfl)))) (by exact (var_ok (i := 8) rfl (by first | exact Or.inl rfl | exact Or.inr (Or.inl rfl) | exact Or.inr (Or.inr rfl)))) (nomark _))))) (by exact (or1T_ok (by exact (cmpT_ok (op_neA rfl (hr.mono (by decide)) (t.eqs)) (rM_S fNeA_noEx) (by exact (var_ok (i := 9) rfl (by first | exact Or.inl rfl | exact Or.inr (Or.inl rfl) | exact Or.inr (Or.inr rfl)))) (by exact (var_ok (i := 10) rfl (by first | exact Or.inl rfl | exact Or.inr (Or.inl rfl) | exact Or.inr (Or.inr rfl)))) (nomark _)))))))))) (by exact (by exact (last_ok (by exact (ret_ok bl_ok))))) nil_S)) (by exact (seq_ok (by exact (expr_ok (by exact (meth0_ok hk (hr.mono (by decide)) (t.mts_give_up).ct (by exact (var_ok (i := 6) rfl (by first | exact Or.inl rfl | exact Or.inr (Or.inl rfl) | exact Or.inr (Or.inr rfl)))))))) (by exact (seq_ok (by exact (set_ok (i := 13) hk rfl (by first | exact Or.inl rfl | exact Or.inr rfl) (by exact (idx_ok hk (by exact (lst_ok (by exact (by exact (cons_ok (by exact (lst_ok (by exact (by exact (cons_ok (by exact (str_ok (by kernel_rfl))) (by exact (cons_ok (by exact (str_ok (by kernel_rfl))) nil_ok))))))) (by exact (cons_ok (by exact (lst_ok (by exact (by exact (cons_ok (by exact (str_ok (by kernel_rfl))) nil_ok))))) nil_ok))))))) (by exact (bltT_ok (x := "int") call_int1 int_S rfl t.free_int rfl (by exact (by exact (cons_ok (by exact (cmp_ok (op_eqD (by have := hk.un; omega)) eq_S (by exact (var_ok (i := 5) rfl (by first | exact Or.inl rfl | exact Or.inr (Or.inl rfl) | exact Or.inr (Or.inr rfl)))) (by exact (str_ok (by kernel_rfl))) (nomark _))) nil_ok))))) (fun _ _ => rfl))))) (by exact (seq_ok (by exact (if_ok (by exact (cmpT_ok (op_neD (by have := hk.un; omega)) ne_S (by exact (methK_ok hk (hr.mono (by decide)) (okK_Asked_say_1_word t) t.meth_Asked_say (by exact (makeK0_ok (x := "Asked") hk (hr.mono (by decide)) (okK_Asked___init___1_sort t) t.mkr_Asked t.cls_Asked rfl t.glo_Asked (by exact (by exact (kcons_ok (by exact (var_ok (i := 5) rfl (by first | exact Or.inl rfl | exact Or.inr (Or.inl rfl) | exact Or.inr (Or.inr rfl)))) knil_ok))))) (by exact (by exact (kcons_ok (by exact (str_ok (by kernel_rfl))) knil_ok))))) (by exact (lst_ok (by exact (by exact (cons_ok (by exact (str_ok (by kernel_rfl))) nil_ok))))) (nomark _))) (by exact (by exact (last_ok (by exact (ret_ok bl_ok))))) nil_S)) (by exact (last_ok (by exact (if_ok (by exact (PW.pt (by exact (by exact (orT_ok (by exact (cmpT_ok (op_neD (by have := hk.un; omega)) ne_S (by exact (meth0_ok hk (hr.mono (by decide)) (t.mts_give_up).ct (by exact (var_ok (i := 6) rfl (by first | exact Or.inl rfl | exact Or.inr (Or.inl rfl) | exact Or.inr (Or.inr rfl)))))) (by exact (lst_ok nil_ok)) (nomark _))) (by exact (or1T_ok (by exact (cmpT_ok (op_neA rfl (hr.mono (by decide)) (t.eqs)) (rM_S fNeA_noEx) (by exact (methK_ok hk (hr.mono (by decide)) (okK_Asker_hear_1_word t) t.meth_Asker_hear (by exact (makeK0_ok (x := "Asker") hk (hr.mono (by decide)) (okK_Asker___init___1_sort t) t.mkr_Asker t.cls_Asker rfl t.glo_Asker (by exact (by exact (kcons_ok (by exact (var_ok (i := 5) rfl (by first | exact Or.inl rfl | exact Or.inr (Or.inl rfl) | exact Or.inr (Or.inr rfl)))) knil_ok))))) (by exact (by exact (kcons_ok (by exact (str_ok (by kernel_rfl))) knil_ok))))) (by exact (var_ok (i := 13) rfl (by first | exact Or.inl rfl | exact Or.inr (Or.inl rfl) | exact Or.inr (Or.inr rfl)))) (nomark _)))))))))) (by exact (by exact (last_ok (by exact (ret_ok bl_ok))))) nil_S)))))))))))))))))))))))))))))))))))))))))) (by exact (last_ok (by exact (ret_ok bl_ok))))))))))))
end K07
namespace K07
open MR PySem
/-! ### draws -/
theorem take_ok {h : Hq} {p : Nat} {x y many : Int} (hp : h[p]? = some (.lst [.int x, .int y])) (hm : 0 < many) (hm2 : many < 1073741824) :
    ∃ w x' y' : Int, 0 ≤ w ∧ w < many ∧ m__law_take [.cell p, .int many] h = .ok (.int w) (h.set p (.lst [.int x', .int y'])) := by
  by_cases hx : 0 < x
  · refine ⟨x % many, x / many, y, Int.emod_nonneg _ (by omega), Int.emod_lt_of_pos _ hm, ?_⟩
    simp [m__law_take, s__law_take, hp, hx, hm, hm2]
  · have hb : ∀ z : Int, (-18446744073709551616 < z % 2147483647 ∧ z % 2147483647 < 18446744073709551616) := fun z => by
      have h1 := Int.emod_nonneg z (show (2147483647 : Int) ≠ 0 by decide)
      have h2 := Int.emod_lt_of_pos z (show (0 : Int) < 2147483647 by decide)
      omega
    refine ⟨(y * 48271 + 11) % 2147483647 * ((y * 48271 + 11) % 2147483647) % 2147483629 / 64 % many, x, (y * 48271 + 11) % 2147483647, Int.emod_nonneg _ (by omega), Int.emod_lt_of_pos _ hm, ?_⟩
    simp [m__law_take, s__law_take, hp, hx, hm, hm2, hb, hset_self hp]
theorem ne_of {h : Hq} {a b : Nat} {c d : Cell} (ha : h[a]? = some c) (hb : h[b]? = some d) (hcd : c ≠ d) : a ≠ b := fun e => by
  subst e
  rw [ha] at hb
  exact hcd (Option.some.inj hb)
/-! ### the asker, the law's own -/
inductive En | taken | no | done | late
def En.s : En → List Nat
  | .taken => [116, 97, 107, 101, 110]
  | .no => [110, 111]
  | .done => [100, 111, 110, 101]
  | .late => [108, 97, 116, 101]
inductive Stt | calls | took | goes | waits | ends (e : En) | over (e : En)
def Stt.s : Stt → List Nat
  | .calls => [99, 97, 108, 108, 115]
  | .took => [116, 111, 111, 107]
  | .goes => [103, 111, 101, 115]
  | .waits => [119, 97, 105, 116, 115]
  | .ends _ => [101, 110, 100, 115]
  | .over _ => [111, 118, 101, 114]
def Stt.en : Stt → Option En
  | .took => some .taken
  | .ends e => some e
  | .over e => some e
  | _ => none
inductive Wd | rings | taken | no | done
def Wd.s : Wd → List Nat
  | .rings => [114, 105, 110, 103, 115]
  | .taken => [116, 97, 107, 101, 110]
  | .no => [110, 111]
  | .done => [100, 111, 110, 101]
def Wd.en : Wd → En
  | .rings => .done
  | .taken => .taken
  | .no => .no
  | .done => .done
def srt : Bool → List Nat
  | true => [114, 105, 110, 103]
  | false => [111, 116, 104, 101, 114]
def eW : Option En → W
  | none => .non
  | some w => .str w.s
inductive O | n | ask | up | stop | late | sure | sureup | upstop
def O.l : O → List W
  | .n => []
  | .ask => [.str [97, 115, 107]]
  | .up => [.str [117, 112]]
  | .stop => [.str [115, 116, 111, 112]]
  | .late => [.str [108, 97, 116, 101]]
  | .sure => [.str [115, 117, 114, 101]]
  | .sureup => [.str [115, 117, 114, 101], .str [117, 112]]
  | .upstop => [.str [117, 112], .str [115, 116, 111, 112]]
structure S where
  so : Bool
  st : Stt
  i : Int
  gv : Bool
  bt : Int
def fS (s : S) : List (Nat × W) := [(3, .str (srt s.so)), (4, .str s.st.s), (5, .int s.i), (6, eW s.st.en), (7, .bl s.gv), (8, .int s.bt)]
abbrev insS (s : S) : Cell := .ins 22 (fS s)
/-- the other sort calls, ends or is over -/
def okS (s : S) : Bool := match s.so, s.st with
  | true, _ => true
  | false, .calls => true
  | false, .ends _ => true
  | false, .over _ => true
  | false, _ => false
def asks (so : Bool) (j : Int) : Bool := match so with
  | true => decide (1 = j) || (decide (3 = j) || (decide (7 = j) || decide (15 = j)))
  | false => decide (1 = j) || (decide (3 = j) || (decide (7 = j) || (decide (11 = j) || decide (15 = j))))
def lastB : Bool → Int
  | true => 16
  | false => 4
def beatS (s : S) : S × O := match s.st with
  | .over _ => ({ s with bt := s.bt + 1 }, .n)
  | .calls => if s.i + 1 = 16 then ({ s with st := .over .late, i := 0, bt := s.bt + 1 }, .late) else ({ s with i := s.i + 1, bt := s.bt + 1 }, if asks s.so (s.i + 1) = true then .ask else .n)
  | .goes => if s.i + 1 = 40 then ({ s with st := .waits, i := 0, bt := s.bt + 1 }, .stop) else ({ s with i := s.i + 1, bt := s.bt + 1 }, .n)
  | .waits => if s.i + 1 = lastB s.so then ({ s with st := .over .late, i := 0, bt := s.bt + 1 }, .late) else ({ s with i := s.i + 1, bt := s.bt + 1 }, .n)
  | .took => if s.i + 1 = lastB s.so then ({ s with st := .over .taken, i := 0, bt := s.bt + 1 }, .n) else ({ s with i := s.i + 1, bt := s.bt + 1 }, .n)
  | .ends e => if s.i + 1 = lastB s.so then ({ s with st := .over e, i := 0, bt := s.bt + 1 }, .n) else ({ s with i := s.i + 1, bt := s.bt + 1 }, .n)
theorem beat_ok {h : Hq} {a : Nat} {s : S} (ha : h[a]? = some (insS s)) : m_Asker_beat [.cell a] h = .ok (.cell h.length) (h.set a (insS (beatS s).1) ++ [.lst (beatS s).2.l]) := by
  obtain ⟨so, st, i, gv, bt⟩ := s
  cases st
  case over e => simp [m_Asker_beat, s_Asker_beat, ha, insS, fS, beatS, Stt.s, Stt.en, O.l, hset_self ha]
  case calls =>
    by_cases h1 : i + 1 = 16
    · simp [m_Asker_beat, s_Asker_beat, ha, insS, fS, beatS, Stt.s, Stt.en, O.l, hset_self ha, h1, m_Asker_beat_calling, s_Asker_beat_calling, c_LIFE, m_Asker_came_late, s_Asker_came_late, m_Asker_turn, s_Asker_turn, m_Asker_finish, s_Asker_finish, eW, En.s]
    · by_cases e1 : i = 0
      · subst e1; cases so <;> simp [m_Asker_beat, s_Asker_beat, ha, insS, fS, beatS, Stt.s, Stt.en, O.l, hset_self ha, m_Asker_beat_calling, s_Asker_beat_calling, c_LIFE, kt_ASKED_AGAIN, srt, asks]
      by_cases e2 : i = 2
      · subst e2; cases so <;> simp [m_Asker_beat, s_Asker_beat, ha, insS, fS, beatS, Stt.s, Stt.en, O.l, hset_self ha, m_Asker_beat_calling, s_Asker_beat_calling, c_LIFE, kt_ASKED_AGAIN, srt, asks]
      by_cases e3 : i = 6
      · subst e3; cases so <;> simp [m_Asker_beat, s_Asker_beat, ha, insS, fS, beatS, Stt.s, Stt.en, O.l, hset_self ha, m_Asker_beat_calling, s_Asker_beat_calling, c_LIFE, kt_ASKED_AGAIN, srt, asks]
      by_cases e4 : i = 10
      · subst e4; cases so <;> simp [m_Asker_beat, s_Asker_beat, ha, insS, fS, beatS, Stt.s, Stt.en, O.l, hset_self ha, m_Asker_beat_calling, s_Asker_beat_calling, c_LIFE, kt_ASKED_AGAIN, srt, asks]
      by_cases e5 : i = 14
      · subst e5; cases so <;> simp [m_Asker_beat, s_Asker_beat, ha, insS, fS, beatS, Stt.s, Stt.en, O.l, hset_self ha, m_Asker_beat_calling, s_Asker_beat_calling, c_LIFE, kt_ASKED_AGAIN, srt, asks]
      have f1 : ¬ (1 = i + 1) := by omega
      have f3 : ¬ (3 = i + 1) := by omega
      have f7 : ¬ (7 = i + 1) := by omega
      have f11 : ¬ (11 = i + 1) := by omega
      have f11' : ¬ (i + 1 = 11) := by omega
      have f15 : ¬ (15 = i + 1) := by omega
      cases so <;> simp [m_Asker_beat, s_Asker_beat, ha, insS, fS, beatS, Stt.s, Stt.en, O.l, hset_self ha, m_Asker_beat_calling, s_Asker_beat_calling, c_LIFE, kt_ASKED_AGAIN, srt, asks, h1, f1, f3, f7, f11, f11', f15]
  case goes =>
    by_cases h1 : i + 1 = 40
    · simp [m_Asker_beat, s_Asker_beat, ha, insS, fS, beatS, Stt.s, Stt.en, O.l, hset_self ha, h1, c_RINGING, m_Asker_stopped, s_Asker_stopped, m_Asker_turn, s_Asker_turn]
    · simp [m_Asker_beat, s_Asker_beat, ha, insS, fS, beatS, Stt.s, Stt.en, O.l, hset_self ha, h1, c_RINGING]
  all_goals
    cases so
    · by_cases h1 : i + 1 = 4
      · simp [m_Asker_beat, s_Asker_beat, ha, insS, fS, beatS, Stt.s, Stt.en, O.l, hset_self ha, h1, lastB, srt, c_QUIET, c_LIFE, m_Asker_beat_last, s_Asker_beat_last, m_Asker_came_late, s_Asker_came_late, m_Asker_turn, s_Asker_turn, m_Asker_finish, s_Asker_finish, eW, En.s]
      · simp [m_Asker_beat, s_Asker_beat, ha, insS, fS, beatS, Stt.s, Stt.en, O.l, hset_self ha, h1, lastB, srt, c_QUIET, c_LIFE]
    · by_cases h1 : i + 1 = 16
      · simp [m_Asker_beat, s_Asker_beat, ha, insS, fS, beatS, Stt.s, Stt.en, O.l, hset_self ha, h1, lastB, srt, c_QUIET, c_LIFE, m_Asker_beat_last, s_Asker_beat_last, m_Asker_came_late, s_Asker_came_late, m_Asker_turn, s_Asker_turn, m_Asker_finish, s_Asker_finish, eW, En.s]
      · simp [m_Asker_beat, s_Asker_beat, ha, insS, fS, beatS, Stt.s, Stt.en, O.l, hset_self ha, h1, lastB, srt, c_QUIET, c_LIFE]
theorem beatS_so (s : S) : (beatS s).1.so = s.so := by
  obtain ⟨so, st, i, gv, bt⟩ := s
  cases st <;> simp only [beatS] <;> split <;> rfl
theorem beatS_ok {s : S} (ok : okS s = true) : okS (beatS s).1 = true := by
  obtain ⟨so, st, i, gv, bt⟩ := s
  cases so <;> cases st <;> first | (cases ok; done) | (simp only [beatS]; first | rfl | (split <;> rfl))
/-! ### a word -/
def hearS (s : S) (w : Wd) : S × O := match s.so, s.st, w with
  | false, .calls, .no => ({ s with st := .ends .no, i := 0 }, .up)
  | false, .calls, .done => ({ s with st := .ends .done, i := 0 }, .up)
  | true, .took, .taken => (s, .up)
  | true, .ends _, .no => (s, .sure)
  | true, .calls, .taken => ({ s with st := .took, i := 0 }, .up)
  | true, .goes, .taken => ({ s with st := .took, i := 0 }, .up)
  | true, .waits, .taken => ({ s with st := .took, i := 0 }, .up)
  | true, .calls, .no => ({ s with st := .ends .no, i := 0 }, .sureup)
  | true, .goes, .no => ({ s with st := .ends .no, i := 0 }, .sureup)
  | true, .waits, .no => ({ s with st := .ends .no, i := 0 }, .sureup)
  | true, .waits, .rings => (s, .up)
  | true, .calls, .rings => (if s.gv = true then { s with st := .waits, i := 0 } else { s with st := .goes, i := 0 }, if s.gv = true then .upstop else .up)
  | true, .goes, .rings => (if s.gv = true then { s with st := .waits, i := 0 } else { s with st := .goes, i := 0 }, if s.gv = true then .upstop else .up)
  | _, _, _ => (s, .n)
def okW : Bool → Wd → Bool
  | true, .done => false
  | true, _ => true
  | false, .done => true
  | false, .no => true
  | false, _ => false
theorem hearS_so (s : S) (w : Wd) : (hearS s w).1.so = s.so := by
  obtain ⟨so, st, i, gv, bt⟩ := s
  cases so <;> cases st <;> cases w <;> cases gv <;> rfl
theorem hearS_ok {s : S} {w : Wd} (ok : okS s = true) : okS (hearS s w).1 = true := by
  obtain ⟨so, st, i, gv, bt⟩ := s
  cases so <;> cases st <;> first | (cases ok; done) | (cases w <;> cases gv <;> rfl)
/-- a deed told: where the told list lies -/
structure Deed (a : Nat) (s' : S) (o : O) (h : Hq) (n : Nat) (h' : Hq) : Prop where
  out : h'[n]? = some (.lst o.l)
  ins : h'[a]? = some (insS s')
  fr : Fr [a] h h'
  new : h.length ≤ n
theorem Deed.std {a : Nat} {s s' : S} {o : O} {h : Hq} (ha : h[a]? = some (insS s)) : Deed a s' o h h.length (h.set a (insS s') ++ [.lst o.l]) :=
  ⟨by have : h.length = (h.set a (insS s')).length := by simp
      rw [this]; exact hnew, happ (hset_self ha), Fr.set.trans Fr.app, Nat.le_refl _⟩
theorem Deed.std0 {a : Nat} {s : S} {o : O} {h : Hq} (ha : h[a]? = some (insS s)) : Deed a s o h h.length (h ++ [.lst o.l]) := ⟨hnew, happ ha, Fr.app, Nat.le_refl _⟩
abbrev dtC (n : Nat) : Cell := .dt false [(.tup [.str [116, 111, 111, 107], .str [116, 97, 107, 101, 110]], .cell (n + 1)), (.tup [.str [101, 110, 100, 115], .str [110, 111]], .cell (n + 2))]
abbrev dtH (h : Hq) : Hq := h ++ [dtC h.length, .lst [.str [117, 112]], .lst [.str [115, 117, 114, 101]], .lst []]
theorem Deed.d1 {a : Nat} {s : S} {h : Hq} (ha : h[a]? = some (insS s)) : Deed a s .up h (h.length + 1) (dtH h) := ⟨by simp [O.l], happ ha, Fr.app, by omega⟩
theorem Deed.d2 {a : Nat} {s : S} {h : Hq} (ha : h[a]? = some (insS s)) : Deed a s .sure h (h.length + 2) (dtH h) := ⟨by simp [O.l], happ ha, Fr.app, by omega⟩
theorem Deed.d3 {a : Nat} {s : S} {h : Hq} (ha : h[a]? = some (insS s)) : Deed a s .n h (h.length + 3) (dtH h) := ⟨by simp [O.l], happ ha, Fr.app, by omega⟩
theorem Deed.two {a : Nat} {s s' : S} {o : O} {h : Hq} {c : Cell} (ha : h[a]? = some (insS s)) : Deed a s' o h (h.length + 1) (h.set a (insS s') ++ [c, .lst o.l]) :=
  ⟨by rw [List.getElem?_append_right (by simp)]; simp, happ (hset_self ha), Fr.set.trans Fr.app, by omega⟩
theorem hear_ok {h : Hq} {a : Nat} {s : S} {w : Wd} (ok : okS s = true) (ha : h[a]? = some (insS s)) (hw : okW s.so w = true) : ∃ n h', m_Asker_hear [.cell a, .str w.s] h = .ok (.cell n) h' ∧ Deed a (hearS s w).1 (hearS s w).2 h n h' := by
  obtain ⟨so, st, i, gv, bt⟩ := s
  have ha2 : ∀ l : Hq, (h ++ l)[a]? = some (insS ⟨so, st, i, gv, bt⟩) := fun l => happ ha
  cases so <;> cases w <;> first | (cases hw; done) | cases st <;> first
    | (cases ok; done)
    | (refine ⟨_, _, ?_, Deed.std0 (o := .n) ha⟩; simp [m_Asker_hear, s_Asker_hear, ha, insS, fS, Stt.s, Wd.s, srt, kitT, kt_ANSWERS, O.l]; done)
    | (refine ⟨_, _, ?_, Deed.std0 (o := .up) ha⟩; simp [m_Asker_hear, s_Asker_hear, ha, insS, fS, Stt.s, Wd.s, srt, kitT, kt_ANSWERS, m_Asker_heard_of_ring, s_Asker_heard_of_ring, O.l]; done)
    | (refine ⟨_, _, ?_, Deed.std (s' := ⟨_, .ends .no, 0, gv, bt⟩) (o := .up) ha⟩; simp [m_Asker_hear, s_Asker_hear, ha, insS, fS, Stt.s, Stt.en, Wd.s, srt, kitT, kt_ANSWERS, m_Asker_answered, s_Asker_answered, m_Asker_turn, s_Asker_turn, m_Asker_finish, s_Asker_finish, hset_self ha, eW, En.s, O.l]; done)
    | (refine ⟨_, _, ?_, Deed.std (s' := ⟨_, .ends .done, 0, gv, bt⟩) (o := .up) ha⟩; simp [m_Asker_hear, s_Asker_hear, ha, insS, fS, Stt.s, Stt.en, Wd.s, srt, kitT, kt_ANSWERS, m_Asker_answered, s_Asker_answered, m_Asker_turn, s_Asker_turn, m_Asker_finish, s_Asker_finish, hset_self ha, eW, En.s, O.l]; done)
    | (refine ⟨_, _, ?_, Deed.std (s' := ⟨_, .took, 0, gv, bt⟩) (o := .up) ha⟩; simp [m_Asker_hear, s_Asker_hear, ha, insS, fS, Stt.s, Stt.en, Wd.s, srt, kitT, kt_ANSWERS, m_Asker_heard_of_ring, s_Asker_heard_of_ring, m_Asker_turn, s_Asker_turn, m_Asker_finish, s_Asker_finish, hset_self ha, eW, En.s, O.l]; done)
    | (refine ⟨_, _, ?_, Deed.std (s' := ⟨_, .ends .no, 0, gv, bt⟩) (o := .sureup) ha⟩; simp [m_Asker_hear, s_Asker_hear, ha, insS, fS, Stt.s, Stt.en, Wd.s, srt, kitT, kt_ANSWERS, m_Asker_heard_of_ring, s_Asker_heard_of_ring, m_Asker_turn, s_Asker_turn, m_Asker_finish, s_Asker_finish, hset_self ha, eW, En.s, O.l]; done)
    | (refine ⟨_, _, ?_, Deed.d1 ha⟩; simp [m_Asker_hear, s_Asker_hear, ha, ha2, insS, fS, Stt.s, Stt.en, Wd.s, srt, kitT, kt_ANSWERS, putAllT, dtC, dtH]; done)
    | (refine ⟨_, _, ?_, Deed.d2 ha⟩; simp [m_Asker_hear, s_Asker_hear, ha, ha2, insS, fS, Stt.s, Stt.en, Wd.s, srt, kitT, kt_ANSWERS, putAllT, dtC, dtH]; done)
    | (refine ⟨_, _, ?_, Deed.d3 ha⟩; simp [m_Asker_hear, s_Asker_hear, ha, ha2, insS, fS, Stt.s, Stt.en, Wd.s, srt, kitT, kt_ANSWERS, putAllT, dtC, dtH]; done)
    | skip
  all_goals cases gv
  all_goals first
    | (refine ⟨_, _, ?_, Deed.std (s' := ⟨_, .goes, 0, false, bt⟩) (o := .up) ha⟩; simp [m_Asker_hear, s_Asker_hear, ha, insS, fS, Stt.s, Stt.en, Wd.s, srt, kitT, kt_ANSWERS, m_Asker_heard_of_ring, s_Asker_heard_of_ring, m_Asker_turn, s_Asker_turn, hset_self ha, O.l]; done)
    | (refine ⟨_, _, ?_, Deed.two (s' := ⟨_, .waits, 0, true, bt⟩) (o := .upstop) (c := .lst [.str [115, 116, 111, 112]]) ha⟩; simp [m_Asker_hear, s_Asker_hear, ha, insS, fS, Stt.s, Stt.en, Wd.s, srt, kitT, kt_ANSWERS, m_Asker_heard_of_ring, s_Asker_heard_of_ring, m_Asker_turn, s_Asker_turn, m_Asker_stopped, s_Asker_stopped, hset_self ha, O.l]; done)
/-! ### given up -/
def giveS (s : S) : S × O := match s.so, s.st with
  | true, .goes => ({ s with st := .waits, i := 0 }, .stop)
  | true, .calls => ({ s with gv := true }, .n)
  | _, _ => (s, .n)
theorem giveS_so (s : S) : (giveS s).1.so = s.so := by
  obtain ⟨so, st, i, gv, bt⟩ := s
  cases so <;> cases st <;> rfl
theorem giveS_ok {s : S} (ok : okS s = true) : okS (giveS s).1 = true := by
  obtain ⟨so, st, i, gv, bt⟩ := s
  cases so <;> cases st <;> first | (cases ok; done) | rfl
theorem give_ok {h : Hq} {a : Nat} {s : S} (ha : h[a]? = some (insS s)) : m_Asker_give_up [.cell a] h = .ok (.cell h.length) (h.set a (insS (giveS s).1) ++ [.lst (giveS s).2.l]) := by
  obtain ⟨so, st, i, gv, bt⟩ := s
  have e := (hset_same ha).symm
  cases so <;> cases st <;> first
    | (simpa [m_Asker_give_up, s_Asker_give_up, ha, insS, fS, giveS, Stt.s, srt, O.l] using e)
    | (simp [m_Asker_give_up, s_Asker_give_up, ha, insS, fS, giveS, Stt.s, Stt.en, srt, O.l, hset_self ha, m_Asker_stopped, s_Asker_stopped, m_Asker_turn, s_Asker_turn, eW]; done)
/-! ### made, twins -/
def s0 (so : Bool) : S := ⟨so, .calls, 0, false, 0⟩
theorem init_ok {h : Hq} {a : Nat} {so : Bool} (ha : h[a]? = some (.ins 22 [])) : m_Asker___init__ [.cell a, .str (srt so)] h = .ok .non (h.set a (insS (s0 so))) := by
  cases so <;> simp [m_Asker___init__, s_Asker___init__, m_look_at_sort, s_look_at_sort, kitT, c_SORTS, srt, ha, hset_self ha, insS, fS, s0, Stt.s, Stt.en, eW]
theorem make_new {h : Hq} {so : Bool} : m_Asker___init__ [.cell h.length, .str (srt so)] (h ++ [.ins 22 []]) = .ok .non (h ++ [insS (s0 so)]) := by
  rw [init_ok (so := so) hnew]
  congr 1
  simp
end K07
namespace K07.B
open MR PySem K07
/-! ### the asked one, the law's own -/
inductive Stt | goes | took | told | quiet | over
def Stt.s : Stt → List Nat
  | .goes => [103, 111, 101, 115]
  | .took => [116, 111, 111, 107]
  | .told => [116, 111, 108, 100]
  | .quiet => [113, 117, 105, 101, 116]
  | .over => [111, 118, 101, 114]
inductive Wd | rings | taken | no | done
def Wd.s : Wd → List Nat
  | .rings => [114, 105, 110, 103, 115]
  | .taken => [116, 97, 107, 101, 110]
  | .no => [110, 111]
  | .done => [100, 111, 110, 101]
def srt : Bool → List Nat
  | true => [114, 105, 110, 103]
  | false => [111, 116, 104, 101, 114]
def eW : Option Wd → W
  | none => .non
  | some w => .str w.s
structure S where
  so : Bool
  st : Stt
  i : Int
  en : Option Wd
  sd : Bool
  su : Bool
def fS (s : S) : List (Nat × W) := [(3, .str (srt s.so)), (4, .str s.st.s), (5, .int s.i), (6, eW s.en), (9, .bl s.sd), (10, .bl s.su)]
abbrev insS (s : S) : Cell := .ins 23 (fS s)
def sayL (b : Bool) : List W := if b then [.str [115, 97, 121]] else []
def lastB : Stt → Int
  | .quiet => 4
  | _ => 16
def isT : Stt → Bool
  | .told => true
  | _ => false
def said5 (j : Int) : Bool := decide (1 = j) || (decide (3 = j) || (decide (7 = j) || (decide (11 = j) || decide (15 = j))))
def beatS (s : S) : S × Bool := match s.st with
  | .goes => (s, false)
  | .over => (s, false)
  | st => if s.i + 1 = lastB st then ({ s with st := .over, i := 0 }, false) else ({ s with i := s.i + 1 }, s.so && isT st && said5 (s.i + 1))
theorem beat_ok {h : Hq} {a : Nat} {s : S} (ha : h[a]? = some (insS s)) : m_Asked_beat [.cell a] h = .ok (.cell h.length) (h.set a (insS (beatS s).1) ++ [.lst (sayL (beatS s).2)]) := by
  obtain ⟨so, st, i, en, sd, su⟩ := s
  cases st
  case goes => simpa [m_Asked_beat, s_Asked_beat, ha, insS, fS, beatS, Stt.s, sayL] using (hset_same ha).symm
  case over => simpa [m_Asked_beat, s_Asked_beat, ha, insS, fS, beatS, Stt.s, sayL] using (hset_same ha).symm
  case took =>
    by_cases h1 : i + 1 = 16
    · simp [m_Asked_beat, s_Asked_beat, ha, insS, fS, beatS, Stt.s, sayL, h1, lastB, hset_self ha, kt_LAST_BEAT, m_Asked_turn, s_Asked_turn]
    · cases so <;> simp [m_Asked_beat, s_Asked_beat, ha, insS, fS, beatS, Stt.s, sayL, h1, lastB, hset_self ha, kt_LAST_BEAT, m_Asked_turn, s_Asked_turn, isT, srt]
  case quiet =>
    by_cases h1 : i + 1 = 4
    · simp [m_Asked_beat, s_Asked_beat, ha, insS, fS, beatS, Stt.s, sayL, h1, lastB, hset_self ha, kt_LAST_BEAT, m_Asked_turn, s_Asked_turn]
    · cases so <;> simp [m_Asked_beat, s_Asked_beat, ha, insS, fS, beatS, Stt.s, sayL, h1, lastB, hset_self ha, kt_LAST_BEAT, m_Asked_turn, s_Asked_turn, isT, srt]
  case told =>
    by_cases h1 : i + 1 = 16
    · simp [m_Asked_beat, s_Asked_beat, ha, insS, fS, beatS, Stt.s, sayL, h1, lastB, hset_self ha, kt_LAST_BEAT, m_Asked_turn, s_Asked_turn]
    · cases so
      · simp [m_Asked_beat, s_Asked_beat, ha, insS, fS, beatS, Stt.s, sayL, h1, lastB, hset_self ha, kt_LAST_BEAT, m_Asked_turn, s_Asked_turn, isT, srt]
      · cases hs : said5 (i + 1) with
        | true =>
          have hs2 := hs
          unfold said5 at hs2
          simp [m_Asked_beat, s_Asked_beat, ha, insS, fS, beatS, Stt.s, sayL, h1, lastB, hset_self ha, kt_LAST_BEAT, m_Asked_turn, s_Asked_turn, isT, srt, c_SAID_AGAIN, hs]
          simp [hs2]
        | false =>
          have hs2 := hs
          unfold said5 at hs2
          simp [m_Asked_beat, s_Asked_beat, ha, insS, fS, beatS, Stt.s, sayL, h1, lastB, hset_self ha, kt_LAST_BEAT, m_Asked_turn, s_Asked_turn, isT, srt, c_SAID_AGAIN, hs]
          simp [hs2]
/-! ### saying, asked again, sure -/
def sayS (s : S) (w : Wd) : S × Bool := match s.st, w with
  | .took, .taken => (s, true)
  | .goes, .rings => ({ s with sd := true }, true)
  | .goes, .taken => ({ s with sd := true, en := some .taken, st := .took, i := 0 }, true)
  | .goes, .no => ({ s with sd := true, en := some .no, st := .told, i := 0 }, true)
  | .goes, .done => ({ s with sd := true, en := some .done, st := .told, i := 0 }, true)
  | _, _ => (s, false)
def okW : Bool → Wd → Bool
  | true, .done => false
  | true, _ => true
  | false, .done => true
  | false, .no => true
  | false, _ => false
theorem say_ok {h : Hq} {a : Nat} {s : S} {w : Wd} (ha : h[a]? = some (insS s)) (hw : okW s.so w = true) : m_Asked_say [.cell a, .str w.s] h = .ok (.cell h.length) (h.set a (insS (sayS s w).1) ++ [.lst (sayL (sayS s w).2)]) := by
  obtain ⟨so, st, i, en, sd, su⟩ := s
  have e := (hset_same ha).symm
  cases so <;> cases w <;> first | (cases hw; done) | cases st <;> first
    | (simpa [m_Asked_say, s_Asked_say, ha, insS, fS, sayS, Stt.s, Wd.s, srt, sayL, kitT, kt_ANSWERS] using e)
    | (simp [m_Asked_say, s_Asked_say, ha, insS, fS, sayS, Stt.s, Wd.s, srt, sayL, hset_self ha, kitT, kt_ANSWERS, m_Asked_turn, s_Asked_turn, eW])
def againS (s : S) : Bool := match s.st with
  | .told => true
  | .goes => s.sd
  | _ => false
def sureS (s : S) : S := match s.so, s.st with
  | true, .told => { s with su := true, st := .quiet, i := 0 }
  | _, _ => s
theorem sayS_so (s : S) (w : Wd) : (sayS s w).1.so = s.so := by
  obtain ⟨so, st, i, en, sd, su⟩ := s
  cases st <;> cases w <;> rfl
/-! ### made, twins -/
def s0 (so : Bool) : S := ⟨so, .goes, 0, none, false, false⟩
theorem init_ok {h : Hq} {a : Nat} {so : Bool} (ha : h[a]? = some (.ins 23 [])) : m_Asked___init__ [.cell a, .str (srt so)] h = .ok .non (h.set a (insS (s0 so))) := by
  cases so <;> simp [m_Asked___init__, s_Asked___init__, m_look_at_sort, s_look_at_sort, kitT, c_SORTS, srt, ha, hset_self ha, insS, fS, s0, Stt.s, eW]
theorem make_new {h : Hq} {so : Bool} : m_Asked___init__ [.cell h.length, .str (srt so)] (h ++ [.ins 23 []]) = .ok .non (h ++ [insS (s0 so)]) := by
  rw [init_ok (so := so) hnew]
  congr 1
  simp
end K07.B
namespace K07
open MR PySem
theorem twin_ok {h : Hq} {a : Nat} {s : S} (ha : h[a]? = some (insS s)) : m_Asker_twin [.cell a] h = .ok (.cell h.length) (h ++ [insS s]) := by
  obtain ⟨so, st, i, gv, bt⟩ := s
  have hm := make_new (h := h) (so := so)
  have e1 : ∀ l : Hq, (h ++ l)[a]? = some (insS ⟨so, st, i, gv, bt⟩) := fun l => happ ha
  have an : h.length ≠ a := fun z => by have := hlt ha; omega
  simp [m_Asker_twin, s_Asker_twin, ha, insS, fS, hm, e1, s0]
/-! ### == -/
def dE : Option En → PyData
  | none => .none
  | some w => .str (sV w.s)
theorem toD_eW (e : Option En) (h : Hq) (n : Nat) : toD h (n + 1) (eW e) = some (dE e) := by
  cases e with
  | none => rfl
  | some w => cases w <;> simp [eW, dE, En.s]
theorem toD_srt (b : Bool) (h : Hq) (n : Nat) : toD h (n + 1) (.str (srt b)) = some (.str (sV (srt b))) := by cases b <;> simp [srt]
theorem toD_st (b : Stt) (h : Hq) (n : Nat) : toD h (n + 1) (.str b.s) = some (.str (sV b.s)) := by cases b <;> simp [Stt.s]
def eqS (s t : S) : Bool := decide (srt s.so = srt t.so) && (decide (s.st.s = t.st.s) && (decide (s.i = t.i) && (PyData.eqv (dE s.st.en) (dE t.st.en) && decide (s.gv = t.gv))))
theorem eqE_comm (a b : Option En) : PyData.eqv (dE a) (dE b) = PyData.eqv (dE b) (dE a) := by
  cases a with
  | none => cases b <;> simp [dE]
  | some a => cases b with
    | none => simp [dE]
    | some b => simp [dE, eq_comm]
theorem eqS_comm (s t : S) : eqS s t = eqS t s := by
  unfold eqS
  rw [eqE_comm s.st.en]
  simp only [eq_comm]
def pts (s : S) : List W := [.str (srt s.so), .str s.st.s, .int s.i, eW s.st.en, .bl s.gv]
theorem parts_ok {h : Hq} {a : Nat} {s : S} (ha : h[a]? = some (insS s)) : m_Asker_parts [.cell a] h = .ok (.cell h.length) (h ++ [.lst (pts s)]) := by
  simp [m_Asker_parts, s_Asker_parts, ha, fS, pts]
def dts (s : S) : List PyData := [.str (sV (srt s.so)), .str (sV s.st.s), .int s.i, dE s.st.en, .bool s.gv]
theorem pts_D (s : S) (h : Hq) : allD (toD h 23) (pts s) = some (dts s) := by
  simp [pts, allD, toD_eW s.st.en h 22, toD_srt s.so h 22, toD_st s.st h 22, dts]
theorem dts_eq (s t : S) : PyData.eqvAll (dts s) (dts t) = eqS s t := by simp [dts, eqS]
theorem eq_ok {h : Hq} {a b : Nat} {s t : S} (ha : h[a]? = some (insS s)) (hb : h[b]? = some (insS t)) : m_Asker___eq__ [.cell a, .cell b] h = .ok (.bl (eqS s t)) (h ++ [.lst (pts s), .lst (pts t)]) := by
  have e1 := parts_ok ha
  have hb1 : (h ++ [Cell.lst (pts s)])[b]? = some (insS t) := happ hb
  have e2 := parts_ok hb1
  have e3 : eqW (.cell h.length) (.cell (h.length + 1)) (h ++ [.lst (pts s), .lst (pts t)]) = some (eqS s t) := by
    rw [← dts_eq]
    exact eqW_cc (by simp) (by simp) (pts_D _ _) (pts_D _ _)
  simp [m_Asker___eq__, s_Asker___eq__, hb, kitT, ha, e1, e2, hb1, e3]
theorem eq_str {h : Hq} {a : Nat} {z : List Nat} : m_Asker___eq__ [.cell a, .str z] h = .ok (.bl false) h := by
  simp [m_Asker___eq__, s_Asker___eq__, kitT]
theorem eqA_ok {h : Hq} {a b : Nat} {s t : S} (ha : h[a]? = some (insS s)) (hb : h[b]? = some (insS t)) : fEqA tbE (.cell a) (.cell b) h = .ok (.bl (eqS s t)) (h ++ [.lst (pts s), .lst (pts t)]) := by
  have e := eq_ok ha hb
  simp [fEqA, ha, hb, offEq, isDt, callEq, tbE, tbOf, e, blOnly]
theorem neA_ok {h : Hq} {a b : Nat} {s t : S} (ha : h[a]? = some (insS s)) (hb : h[b]? = some (insS t)) : fNeA tbE (.cell a) (.cell b) h = .ok (.bl (!eqS s t)) (h ++ [.lst (pts s), .lst (pts t)]) := by
  have e := eq_ok ha hb
  simp [fNeA, ha, hb, offEq, isDt, callEq, tbE, tbOf, e, blOnly, blNot]
theorem eqS_self (s : S) : eqS s s = true := by
  have : PyData.eqv (dE s.st.en) (dE s.st.en) = true := by
    cases s.st.en <;> simp [dE]
  simp [eqS, this]
theorem manner_ok {h : Hq} {a : Nat} {s : S} (ha : h[a]? = some (insS s)) : m_Asker_manner [.cell a] h = .ok (.str (srt s.so)) h := by simp [m_Asker_manner, s_Asker_manner, ha, fS]
theorem state_is {h : Hq} {a : Nat} {s : S} (ha : h[a]? = some (insS s)) : m_Asker_state [.cell a] h = .ok (.str s.st.s) h := by simp [m_Asker_state, s_Asker_state, ha, fS]
theorem end_is {h : Hq} {a : Nat} {s : S} (ha : h[a]? = some (insS s)) : m_Asker_end [.cell a] h = .ok (eW s.st.en) h := by simp [m_Asker_end, s_Asker_end, ha, fS]
theorem beats_is {h : Hq} {a : Nat} {s : S} (ha : h[a]? = some (insS s)) : m_Asker_beats [.cell a] h = .ok (.int s.bt) h := by simp [m_Asker_beats, s_Asker_beats, ha, fS]
def kept (s : S) : List W := [.str (srt s.so), .str s.st.s, eW s.st.en, .int s.bt]
def keptD (s : S) : List PyData := [.str (sV (srt s.so)), .str (sV s.st.s), dE s.st.en, .int s.bt]
theorem kept_D (s : S) (h : Hq) : toD h 24 (.lst (kept s)) = some (.list (keptD s)) := by
  rw [toD_8]
  simp only [kept, allD, toD_srt s.so h 22, toD_st s.st h 22, toD_eW s.st.en h 22, toD_3, keptD, Option.map_some]
theorem kept_ne (s : S) (h : Hq) : fNe (.lst (kept s)) (.lst (kept s)) h = .ok (.bl false) h := fNe_same (kept_D s h) (kept_D s h)
end K07
namespace K07.B
open MR PySem
def dE : Option Wd → PyData
  | none => .none
  | some w => .str (sV w.s)
theorem toD_eW (e : Option Wd) (h : Hq) (n : Nat) : toD h (n + 1) (eW e) = some (dE e) := by
  cases e with
  | none => rfl
  | some w => cases w <;> simp [eW, dE, Wd.s]
theorem toD_srt (b : Bool) (h : Hq) (n : Nat) : toD h (n + 1) (.str (srt b)) = some (.str (sV (srt b))) := by cases b <;> simp [srt]
theorem toD_st (b : Stt) (h : Hq) (n : Nat) : toD h (n + 1) (.str b.s) = some (.str (sV b.s)) := by cases b <;> simp [Stt.s]
def pts (s : S) : List W := [.str (srt s.so), .str s.st.s, .int s.i, eW s.en, .bl s.sd, .bl s.su]
theorem parts_ok {h : Hq} {a : Nat} {s : S} (ha : h[a]? = some (insS s)) : m_Asked_parts [.cell a] h = .ok (.cell h.length) (h ++ [.lst (pts s)]) := by
  simp [m_Asked_parts, s_Asked_parts, ha, fS, pts]
def dts (s : S) : List PyData := [.str (sV (srt s.so)), .str (sV s.st.s), .int s.i, dE s.en, .bool s.sd, .bool s.su]
theorem pts_D (s : S) (h : Hq) : allD (toD h 23) (pts s) = some (dts s) := by
  simp [pts, allD, toD_eW s.en h 22, toD_srt s.so h 22, toD_st s.st h 22, dts]
theorem same_ne {h : Hq} {a b : Nat} {s : S} (ha : h[a]? = some (insS s)) (hb : h[b]? = some (insS s)) : ∃ x, fNeA tbE (.cell a) (.cell b) h = .ok (.bl false) (h ++ x) := by
  have e1 := parts_ok ha
  have hb1 : (h ++ [Cell.lst (pts s)])[b]? = some (insS s) := happ hb
  have e2 := parts_ok hb1
  have er : PyData.eqvAll (dts s) (dts s) = true := by
    have : PyData.eqv (dE s.en) (dE s.en) = true := by cases s.en <;> simp [dE]
    simp [dts, this]
  have e3 : eqW (.cell h.length) (.cell (h.length + 1)) (h ++ [.lst (pts s), .lst (pts s)]) = some true := by
    rw [← er]
    exact eqW_cc (by simp) (by simp) (pts_D _ _) (pts_D _ _)
  have e : m_Asked___eq__ [.cell a, .cell b] h = .ok (.bl true) (h ++ [.lst (pts s), .lst (pts s)]) := by
    simp [m_Asked___eq__, s_Asked___eq__, hb, kitT, ha, e1, e2, hb1, e3]
  exact ⟨_, by simp [fNeA, ha, hb, offEq, isDt, callEq, tbE, tbOf, e, blOnly, blNot]; rfl⟩
end K07.B
namespace K07
open PySem hiding Loc
open MR
/-! ### draws -/
theorem seed_small {k : Int} (hk0 : 0 ≤ k) (hk : k < 64) (z : Int) : (z % 2147483629 + 104729 * k * k + 7919 * k + 11).natAbs < 18446744073709551616 := by
  have h1 := Int.emod_nonneg z (show (2147483629 : Int) ≠ 0 by decide)
  have h2 := Int.emod_lt_of_pos z (show (0 : Int) < 2147483629 by decide)
  have h3 : 104729 * k * k ≤ 104729 * 64 * 64 := Int.mul_le_mul (by omega) (by omega) (by omega) (by omega)
  have h4 : 0 ≤ 104729 * k * k := Int.mul_nonneg (by omega) (by omega)
  generalize 104729 * k * k = q at *
  omega
theorem pool_ok {h : Hq} {ns : List Int} {k : Int} (hk0 : 0 ≤ k) (hk : k < 64) : ∃ x y : Int, m__law_pool [.rol (ns.map W.int), .int k] h = .ok (.cell h.length) (h ++ [.lst [.int x, .int y]]) := by
  have hb2 : -18446744073709551616 < k ∧ k < 18446744073709551616 := by omega
  by_cases c : k < ns.length
  · have hlt : k.toNat < ns.length := by omega
    have hg : ns[k.toNat]? = some ns[k.toNat] := List.getElem?_eq_getElem hlt
    obtain ⟨v, ev⟩ : ∃ v, ns[k.toNat] = v := ⟨_, rfl⟩
    rw [ev] at hg
    have hp := seed_small hk0 hk v
    generalize es : (if v < 0 then -v else v) = sz
    generalize eq : v % 2147483629 + 104729 * k * k + 7919 * k + 11 = q at *
    by_cases c2 : (1000000000000000000 : Int) ≤ sz
    · refine ⟨sz * 1, q ^ 3 % 2147483647, ?_⟩
      simp [m__law_pool, s__law_pool, c, hk0, hg, ev, hb2, eq, es, hp, c2]
    · refine ⟨sz * 0, q ^ 3 % 2147483647, ?_⟩
      simp [m__law_pool, s__law_pool, c, hk0, hg, ev, hb2, eq, es, hp, c2]
  · have hp := seed_small hk0 hk 0
    simp only [Int.zero_emod, Int.zero_add] at hp
    generalize eq : 104729 * k * k + 7919 * k + 11 = q at *
    refine ⟨0, q ^ 3 % 2147483647, ?_⟩
    simp [m__law_pool, s__law_pool, c, hb2, eq, hp]
/-! ### the law's own loop -/
def PO (sc : W) (L : Loc) (_ : Hq) : Prop := ∃ x1 x2 x3 x4 x5 x6 x7 x8 x9 x10 x11 x12 x13 x14 : Option W, L = [some sc, x1, x2, x3, x4, x5, x6, x7, x8, x9, x10, x11, x12, x13, x14]
theorem law_of {ns : List Int} (hb : ∀ (k : Int) (L : Loc) (h : Hq), 0 ≤ k → k < 64 → PO (.rol (ns.map W.int)) L h → ∃ L' h', b_law_6 (L.set 1 (some (.int k))) h = .nx L' h' ∧ PO (.rol (ns.map W.int)) L' h') : ∃ h', m_law [.rol (ns.map W.int)] [] = .ok (.bl true) h' := by
  obtain ⟨j, ej, j1⟩ : ∃ j : Int, (∀ L : Loc, L[0]? = some (some (.rol (ns.map W.int))) → ∀ h, (mCons (mBlt bMax (mCons (mC (.int 1)) (mCons (mBlt bMin (mCons (mBlt bLen (mCons (mVar 0) (mNil))) (mCons (mC (.int 12)) (mNil)))) (mNil)))) (mNil)) L h = .ok (.tup [.int j]) h) ∧ 0 ≤ j ∧ j ≤ 12 := by
    refine ⟨if (if (12 : Int) < ns.length then 12 else (ns.length : Int)) > 1 then (if (12 : Int) < ns.length then 12 else (ns.length : Int)) else 1, fun L l0 h => by simp [l0], ?_⟩
    split <;> split <;> omega
  obtain ⟨L', h', e, P⟩ := loopW_invV (i := 1) (s := b_law_6) (P := PO (.rol (ns.map W.int))) (V := fun w => ∃ k : Int, w = .int k ∧ 0 ≤ k ∧ k < 12) (fun w L h v P => by
    obtain ⟨k, rfl, k0, k1⟩ := v
    obtain ⟨L', h', e, P'⟩ := hb k L h k0 (by omega) P
    exact ⟨L', h', .inl e, P'⟩) (rangeW 0 j.toNat) [some (.rol (ns.map W.int)), none, none, none, none, none, none, none, none, none, none, none, none, none, none] []
    (fun w hw => by
      obtain ⟨k, hk, rfl⟩ := rangeW_mem hw
      exact ⟨0 + k, rfl, by omega, by omega⟩) ⟨_, _, _, _, _, _, _, _, _, _, _, _, _, _, rfl⟩
  have hj : -4611686018427387904 ≤ j ∧ j < 4611686018427387904 := by omega
  refine ⟨h', ?_⟩
  have er : fNe (.lst [.str [114, 105, 110, 103], .str [111, 116, 104, 101, 114]]) (.lst [.str [114, 105, 110, 103], .str [111, 116, 104, 101, 114]]) [] = .ok (.bl false) [] := fNe_same (d := .list [.str (sV [114, 105, 110, 103]), .str (sV [111, 116, 104, 101, 114])]) rfl rfl
  have er2 : fNe (.lst [.int 16, .int 4, .int 40]) (.lst [.int 16, .int 4, .int 40]) [] = .ok (.bl false) [] := fNe_same (d := .list [.int 16, .int 4, .int 40]) rfl rfl
  have er3 : fNe (.ktup [.str [114, 105, 110, 103, 115], .str [116, 97, 107, 101, 110], .str [110, 111]]) (.tup [.str [114, 105, 110, 103, 115], .str [116, 97, 107, 101, 110], .str [110, 111]]) [] = .ok (.bl false) [] := fNe_same (d := .tuple [.str (sV [114, 105, 110, 103, 115]), .str (sV [116, 97, 107, 101, 110]), .str (sV [110, 111])]) rfl rfl
  have er4 : fNe (.ktup [.str [100, 111, 110, 101], .str [110, 111]]) (.tup [.str [100, 111, 110, 101], .str [110, 111]]) [] = .ok (.bl false) [] := fNe_same (d := .tuple [.str (sV [100, 111, 110, 101]), .str (sV [110, 111])]) rfl rfl
  simp [m_law, s_law, c_SORTS, c_LIFE, c_QUIET, c_RINGING, kt_ANSWERS, ↓er, ↓er2, ↓er3, ↓er4, ↓ej, hj, e]
end K07
namespace K07
open PySem hiding Loc
open MR
theorem lk22 : exmT.lookup (2, TyN.own 2) = some true := by decide
theorem lk23 : exmT.lookup (2, TyN.own 3) = some false := by decide
theorem lk32 : exmT.lookup (3, TyN.own 2) = some false := by decide
theorem lk33 : exmT.lookup (3, TyN.own 3) = some true := by decide
theorem li22 : isXT.lookup (2, TyN.own 2) = some true := by decide
theorem li23 : isXT.lookup (2, TyN.own 3) = some false := by decide
theorem li32 : isXT.lookup (3, TyN.own 2) = some false := by decide
theorem li33 : isXT.lookup (3, TyN.own 3) = some true := by decide
theorem li2v : isXT.lookup (2, TyN.ty "ValueError") = some true := by decide
theorem li3v : isXT.lookup (3, TyN.ty "ValueError") = some true := by decide
noncomputable abbrev bodyN : MS := (sIf (mBin fEq (mVar 0) (mC (.int 0))) (sExpr (mMake 22 2 m_Asker___init__ [] (mCons (mVar 2) (mNil)))) (sIf (mBin fEq (mVar 0) (mC (.int 1))) (sExpr (mMake 23 2 m_Asked___init__ [] (mCons (mVar 2) (mNil)))) (sIf (mBin fEq (mVar 0) (mC (.int 2))) (sExpr (mMeth tb_hear (mVar 1) (mCons (mVar 2) (mNil)))) (sExpr (mMeth tb_say (mVar 1) (mCons (mVar 2) (mNil)))))))
theorem none_gen {door own w : W} {c n : Nat} {h h' : Hq} {s : List Nat} (hc : c = 2 ∨ c = 3) (hb : bodyN [some door, some own, some w, none] h = .ex c [(0, .cell n)] [some door, some own, some w, none] h') (hn : h'[n]? = some (.xd [(0, w)])) (hr : bRepr [w] h' = .ok (.str s) h') :
    m__law_none [door, own, w] h = .ok (.lst [.bl (decide (c = 2)), .bl (decide (c = 3)), .bl true, .str s]) h' := by
  have q2 : ∀ c, (c = 2 ∨ c = 3) → mXfT 3 xcs c [(0, .cell n)] 0 [some door, some own, some w, none] h' = .ok w h' := fun c hc => by
    rcases hc with rfl | rfl <;> simp [mXfT, xcs, mXfL, mXf, fLook, hn]
  have q4 := q2 c hc
  have e3 : (sTryT 3 exmT (.own 2) (.own 3) bodyN (fun c fs => sRet (mLst (mCons (mIsX 3 isXT c fs (.own 2)) (mCons (mIsX 3 isXT c fs (.own 3)) (mCons (mIsX 3 isXT c fs (.ty "ValueError")) (mCons (mBlt bRepr (mCons (mXfT 3 xcs c fs 0) (mNil))) (mNil)))))))) [some door, some own, some w, none] h = .rt (.lst [.bl (decide (c = 2)), .bl (decide (c = 3)), .bl true, .str s]) h' := by
    unfold sTryT
    rw [hb]
    rcases hc with rfl | rfl
    · have q1 : mIsX 3 isXT 2 [(0, .cell n)] (.own 2) [some door, some own, some w, none] h' = .ok (.bl true) h' := by
        unfold mIsX
        simp [li22, hn]
      have q2 : mIsX 3 isXT 2 [(0, .cell n)] (.own 3) [some door, some own, some w, none] h' = .ok (.bl false) h' := by
        unfold mIsX
        simp [li23, hn]
      have q3 : mIsX 3 isXT 2 [(0, .cell n)] (.ty "ValueError") [some door, some own, some w, none] h' = .ok (.bl true) h' := by
        unfold mIsX
        simp [li2v, hn]
      simp only [lk22, lk23]
      simp [↓q1, ↓q2, ↓q3, ↓q4, hr, unset]
    · have q1 : mIsX 3 isXT 3 [(0, .cell n)] (.own 2) [some door, some own, some w, none] h' = .ok (.bl false) h' := by
        unfold mIsX
        simp [li32, hn]
      have q2 : mIsX 3 isXT 3 [(0, .cell n)] (.own 3) [some door, some own, some w, none] h' = .ok (.bl true) h' := by
        unfold mIsX
        simp [li33, hn]
      have q3 : mIsX 3 isXT 3 [(0, .cell n)] (.ty "ValueError") [some door, some own, some w, none] h' = .ok (.bl true) h' := by
        unfold mIsX
        simp [li3v, hn]
      simp only [lk32, lk33]
      simp [↓q1, ↓q2, ↓q3, ↓q4, hr, unset]
  unfold m__law_none
  rw [mDef_ap]
  show kDef (sSeq _ _ [some door, some own, some w, none] h) = _
  rw [sSeq_ap]
  show kDef (Rf.seq (sTryT 3 exmT (.own 2) (.own 3) bodyN _ [some door, some own, some w, none] h) _) = _
  rw [e3]
  rfl
theorem quad_ne {b1 b2 b3 : Bool} {s : List Nat} (os : MR.okS s = true) (h : Hq) : fNe (.lst [.bl b1, .bl b2, .bl b3, .str s]) (.lst [.bl b1, .bl b2, .bl b3, .str s]) h = .ok (.bl false) h := by
  have hs : s.all (· < 0x110000) = true := os
  have e : toD h 24 (.lst [.bl b1, .bl b2, .bl b3, .str s]) = some (.list [.bool b1, .bool b2, .bool b3, .str (sV s)]) := by
    rw [toD_8]
    simp only [allD, toD_2, toD_4, if_pos hs, Option.map_some]
  exact fNe_same e e
theorem repr_of {w : W} {dd : PyData} (e : ∀ h, toD h 24 w = some dd) (hs : dd.showable = true) (hl : dd.shown.length ≤ lineN) (g : Hq) : bRepr [w] g = .ok (.str (vS dd.shown)) g := by
  unfold bRepr
  simp only [e, shW]
  rw [if_pos ⟨hs, hl⟩]
theorem repr_dict {n : Nat} {g : Hq} (hn : g[n]? = some (.dk false [])) : bRepr [.cell n] g = .ok (.str [123, 125]) g := by
  have e : toD g 24 (.cell n) = none := by
    show (match lstOf (.cell n) g with
      | some l => (allD (toD g 23) l).map PyData.list
      | none => none) = none
    simp [lstOf, hn]
  unfold bRepr
  simp only [e, hn]
/-! ### what is no sort -/
abbrev condS : M := mOrT (mNotT (mTru (mIsi kitT (.ty "str") (mVar 0)))) (mBin (fIn true) (mVar 0) (mC c_SORTS))
theorem look_bad {w : W} {g : Hq} (h1 : condS [some w] g = .ok (.bl true) g) : m_look_at_sort [w] g = .ex 2 [(0, .cell g.length)] (g ++ [.xd [(0, w)]]) := by
  have er : sRaise1 2 0 (mCons (mVar 0) (mNil)) [some w] g = .ex 2 [(0, .cell g.length)] [some w] (g ++ [.xd [(0, w)]]) := by
    unfold sRaise1
    simp
  simp [m_look_at_sort, s_look_at_sort, ↓h1, ↓er]
structure SortBad (d : Nat) (w : W) (s : List Nat) : Prop where
  os : MR.okS s = true
  re : ∀ g : Hq, g[d]? = some (.dk false []) → bRepr [w] g = .ok (.str s) g
  co : ∀ g : Hq, g[d]? = some (.dk false []) → condS [some w] g = .ok (.bl true) g
theorem SortBad.door0 {d : Nat} {w : W} {s : List Nat} (B : SortBad d w s) {own : W} {g : Hq} (hd : g[d]? = some (.dk false [])) : m__law_none [.int 0, own, w] g = .ok (.lst [.bl true, .bl false, .bl true, .str s]) (g ++ [.ins 22 [], .xd [(0, w)]]) := by
  have e1 := look_bad (B.co (g ++ [.ins 22 []]) (happ hd))
  refine none_gen (c := 2) (n := g.length + 1) (.inl rfl) ?_ (by simp) (B.re _ (happ hd))
  simp [bodyN, m_Asker___init__, s_Asker___init__, e1]
theorem SortBad.door1 {d : Nat} {w : W} {s : List Nat} (B : SortBad d w s) {own : W} {g : Hq} (hd : g[d]? = some (.dk false [])) : m__law_none [.int 1, own, w] g = .ok (.lst [.bl true, .bl false, .bl true, .str s]) (g ++ [.ins 23 [], .xd [(0, w)]]) := by
  have e1 := look_bad (B.co (g ++ [.ins 23 []]) (happ hd))
  refine none_gen (c := 2) (n := g.length + 1) (.inl rfl) ?_ (by simp) (B.re _ (happ hd))
  simp [bodyN, m_Asked___init__, s_Asked___init__, e1]
/-! ### what is no word -/
abbrev condW : M := mOrT (mNotT (mTru (mIsi kitT (.ty "str") (mVar 1)))) (mBin (fIn true) (mVar 1) (mKd kt_ANSWERS (mFld 3 (mVar 0))))
structure WordBad (so : Bool) (d : Nat) (w : W) (s : List Nat) : Prop where
  os : MR.okS s = true
  re : ∀ g : Hq, g[d]? = some (.dk false []) → bRepr [w] g = .ok (.str s) g
  co : ∀ (g : Hq) (a : Nat), g[d]? = some (.dk false []) → (mFld 3 (mVar 0)) [some (.cell a), some w] g = .ok (.str (srt so)) g → condW [some (.cell a), some w] g = .ok (.bl true) g
theorem WordBad.door2 {so : Bool} {d a : Nat} {w : W} {s : List Nat} {st : S} (B : WordBad so d w s) {g : Hq} (hd : g[d]? = some (.dk false [])) (ha : g[a]? = some (insS st)) (hs : st.so = so) : m__law_none [.int 2, .cell a, w] g = .ok (.lst [.bl false, .bl true, .bl true, .str s]) (g ++ [.xd [(0, w)]]) := by
  have e1 := B.co g a hd (by simp [ha, fS, hs])
  have er : sRaise1 3 0 (mCons (mVar 1) (mNil)) [some (.cell a), some w] g = .ex 3 [(0, .cell g.length)] [some (.cell a), some w] (g ++ [.xd [(0, w)]]) := by
    unfold sRaise1
    simp
  have e2 : m_Asker_hear [.cell a, w] g = .ex 3 [(0, .cell g.length)] (g ++ [.xd [(0, w)]]) := by
    simp [m_Asker_hear, s_Asker_hear, ↓e1, ↓er]
  refine none_gen (c := 3) (n := g.length) (.inr rfl) ?_ (by simp) (B.re _ (happ hd))
  simp [bodyN, ha, e2]
theorem srt_B (so : Bool) : B.srt so = srt so := by cases so <;> rfl
theorem WordBad.door3 {so : Bool} {d a : Nat} {w : W} {s : List Nat} {st : B.S} (Z : WordBad so d w s) {g : Hq} (hd : g[d]? = some (.dk false [])) (ha : g[a]? = some (B.insS st)) (hs : st.so = so) : m__law_none [.int 3, .cell a, w] g = .ok (.lst [.bl false, .bl true, .bl true, .str s]) (g ++ [.xd [(0, w)]]) := by
  have e1 := Z.co g a hd (by simp [ha, B.fS, hs, srt_B])
  have er : sRaise1 3 0 (mCons (mVar 1) (mNil)) [some (.cell a), some w] g = .ex 3 [(0, .cell g.length)] [some (.cell a), some w] (g ++ [.xd [(0, w)]]) := by
    unfold sRaise1
    simp
  have e2 : m_Asked_say [.cell a, w] g = .ex 3 [(0, .cell g.length)] (g ++ [.xd [(0, w)]]) := by
    simp [m_Asked_say, s_Asked_say, ↓e1, ↓er]
  refine none_gen (c := 3) (n := g.length) (.inr rfl) ?_ (by simp) (Z.re _ (happ hd))
  simp [bodyN, ha, e2]
end K07
namespace K07
open PySem hiding Loc
open MR
/-! ### sorts that are none -/
def odd (d : Nat) : List W := [.non, .int 0, .bl true, .str [], .str [82, 105, 110, 103], .str [114, 105, 110, 103, 32], .str [110, 111], .lst [.str [114, 105, 110, 103]], .tup [.str [111, 116, 104, 101, 114]], .cell d, .int 100000000000000000000]
theorem odd_e {L : Loc} {h : Hq} : (mLst (mCons (mC .non) (mCons (mC (.int 0)) (mCons (mC (.bl true)) (mCons (mC (.str [])) (mCons (mC (.str [82, 105, 110, 103])) (mCons (mC (.str [114, 105, 110, 103, 32])) (mCons (mC (.str [110, 111])) (mCons (mLst (mCons (mC (.str [114, 105, 110, 103])) (mNil))) (mCons (mTup (mCons (mC (.str [111, 116, 104, 101, 114])) (mNil))) (mCons (mDict0) (mCons (mBin fPow (mC (.int 10)) (mC (.int 20))) (mNil))))))))))))) L h = .ok (.lst (odd h.length)) (h ++ [.dk false []]) := by
  simp [odd, mDict0]
theorem sort_of {w : W} {dd : PyData} {d : Nat} (e : ∀ h, toD h 24 w = some dd) (hs : dd.showable = true) (hl : dd.shown.length ≤ lineN) (os : MR.okS (vS dd.shown) = true) (hc : ∀ g : Hq, condS [some w] g = .ok (.bl true) g) : SortBad d w (vS dd.shown) := ⟨os, fun g _ => repr_of e hs hl g, fun g _ => hc g⟩
theorem pick_odd {d : Nat} {w : Int} (h0 : 0 ≤ w) (h1 : w < 11) : ∃ (v : W) (s : List Nat), (∀ g, fIdx (.lst (odd d)) (.int w) g = .ok v g) ∧ SortBad d v s := by
  rcases (show w = 0 ∨ w = 1 ∨ w = 2 ∨ w = 3 ∨ w = 4 ∨ w = 5 ∨ w = 6 ∨ w = 7 ∨ w = 8 ∨ w = 9 ∨ w = 10 by omega) with rfl | rfl | rfl | rfl | rfl | rfl | rfl | rfl | rfl | rfl | rfl
  · exact ⟨.non, _, fun g => by simp [odd], sort_of (dd := .none) (fun _ => rfl) (by decide +kernel) (by decide +kernel) (by decide +kernel) (fun g => by simp [kitT, c_SORTS])⟩
  · exact ⟨.int 0, _, fun g => by simp [odd], sort_of (dd := .int 0) (fun _ => rfl) (by decide +kernel) (by decide +kernel) (by decide +kernel) (fun g => by simp [kitT, c_SORTS])⟩
  · exact ⟨.bl true, _, fun g => by simp [odd], sort_of (dd := .bool true) (fun _ => rfl) (by decide +kernel) (by decide +kernel) (by decide +kernel) (fun g => by simp [kitT, c_SORTS])⟩
  · exact ⟨.str [], _, fun g => by simp [odd], sort_of (dd := .str (sV [])) (fun _ => rfl) (by decide +kernel) (by decide +kernel) (by decide +kernel) (fun g => by simp [kitT, c_SORTS])⟩
  · exact ⟨.str [82, 105, 110, 103], _, fun g => by simp [odd], sort_of (dd := .str (sV [82, 105, 110, 103])) (fun _ => rfl) (by decide +kernel) (by decide +kernel) (by decide +kernel) (fun g => by simp [kitT, c_SORTS])⟩
  · exact ⟨.str [114, 105, 110, 103, 32], _, fun g => by simp [odd], sort_of (dd := .str (sV [114, 105, 110, 103, 32])) (fun _ => rfl) (by decide +kernel) (by decide +kernel) (by decide +kernel) (fun g => by simp [kitT, c_SORTS])⟩
  · exact ⟨.str [110, 111], _, fun g => by simp [odd], sort_of (dd := .str (sV [110, 111])) (fun _ => rfl) (by decide +kernel) (by decide +kernel) (by decide +kernel) (fun g => by simp [kitT, c_SORTS])⟩
  · exact ⟨.lst [.str [114, 105, 110, 103]], _, fun g => by simp [odd], sort_of (dd := .list [.str (sV [114, 105, 110, 103])]) (fun _ => rfl) (by decide +kernel) (by decide +kernel) (by decide +kernel) (fun g => by simp [kitT, c_SORTS])⟩
  · exact ⟨.tup [.str [111, 116, 104, 101, 114]], _, fun g => by simp [odd], sort_of (dd := .tuple [.str (sV [111, 116, 104, 101, 114])]) (fun _ => rfl) (by decide +kernel) (by decide +kernel) (by decide +kernel) (fun g => by simp [kitT, c_SORTS])⟩
  · exact ⟨.cell d, [123, 125], fun g => by simp [odd], by decide, fun g hd => repr_dict hd, fun g hd => by simp [kitT, hd]⟩
  · exact ⟨.int 100000000000000000000, _, fun g => by simp [odd], sort_of (dd := .int 100000000000000000000) (fun _ => rfl) (by decide +kernel) (by decide +kernel) (by decide +kernel) (fun g => by simp [kitT, c_SORTS])⟩
/-! ### words that are none -/
def ows (d : Nat) : List W := [.non, .int 0, .bl true, .str [], .str [82, 105, 110, 103, 115], .str [115, 117, 114, 101], .str [97, 115, 107], .lst [.str [110, 111]], .tup [.str [110, 111]], .cell d, .str [110, 111, 32], .str [108, 97, 116, 101], .str [117, 112]]
def more : Bool → List W
  | true => [.str [100, 111, 110, 101], .int 1]
  | false => [.str [114, 105, 110, 103, 115], .str [116, 97, 107, 101, 110]]
theorem word_of {so : Bool} {w : W} {dd : PyData} {d : Nat} (e : ∀ h, toD h 24 w = some dd) (hs : dd.showable = true) (hl : dd.shown.length ≤ lineN) (os : MR.okS (vS dd.shown) = true) (hc : ∀ (g : Hq) (a : Nat), (mFld 3 (mVar 0)) [some (.cell a), some w] g = .ok (.str (srt so)) g → condW [some (.cell a), some w] g = .ok (.bl true) g) : ∃ s, WordBad so d w s := ⟨_, os, fun g _ => repr_of e hs hl g, fun g a _ q => hc g a q⟩
theorem str_c {so : Bool} {z : List Nat} (hz : ∀ g, (match so with
  | true => fIn true (.str z) (.ktup [.str [114, 105, 110, 103, 115], .str [116, 97, 107, 101, 110], .str [110, 111]]) g
  | false => fIn true (.str z) (.ktup [.str [100, 111, 110, 101], .str [110, 111]]) g) = .ok (.bl true) g) (g : Hq) (a : Nat) (q : (mFld 3 (mVar 0)) [some (.cell a), some (.str z)] g = .ok (.str (srt so)) g) : condW [some (.cell a), some (.str z)] g = .ok (.bl true) g := by
  have h2 := hz g
  cases so with
  | true =>
    have e3 : mKd kt_ANSWERS (mFld 3 (mVar 0)) [some (.cell a), some (.str z)] g = .ok (.ktup [.str [114, 105, 110, 103, 115], .str [116, 97, 107, 101, 110], .str [110, 111]]) g := by simp [↓q, kt_ANSWERS, srt]
    simp only [] at h2
    simp [kitT, ↓e3, ↓h2]
  | false =>
    have e3 : mKd kt_ANSWERS (mFld 3 (mVar 0)) [some (.cell a), some (.str z)] g = .ok (.ktup [.str [100, 111, 110, 101], .str [110, 111]]) g := by simp [↓q, kt_ANSWERS, srt]
    simp only [] at h2
    simp [kitT, ↓e3, ↓h2]
theorem str_bad {so : Bool} {d : Nat} {z : List Nat} (hz : ∀ g, (match so with
  | true => fIn true (.str z) (.ktup [.str [114, 105, 110, 103, 115], .str [116, 97, 107, 101, 110], .str [110, 111]]) g
  | false => fIn true (.str z) (.ktup [.str [100, 111, 110, 101], .str [110, 111]]) g) = .ok (.bl true) g) (ok : MR.okS z = true) (hs : (PyData.str (sV z)).showable = true) (hl : (PyData.str (sV z)).shown.length ≤ lineN) (os : MR.okS (vS (PyData.str (sV z)).shown) = true) : ∃ s, WordBad so d (.str z) s :=
  word_of (dd := .str (sV z)) (fun h => by rw [toD_4]; exact if_pos ok) hs hl os (str_c hz)
theorem ows_bad {so : Bool} {d : Nat} : ∀ w ∈ ows d ++ more so, ∃ s, WordBad so d w s := by
  intro w hw
  rcases List.mem_append.mp hw with h | h
  · simp only [ows, List.mem_cons, List.not_mem_nil, or_false] at h
    rcases h with rfl | rfl | rfl | rfl | rfl | rfl | rfl | rfl | rfl | rfl | rfl | rfl | rfl
    · exact word_of (dd := .none) (fun _ => rfl) (by decide +kernel) (by decide +kernel) (by decide +kernel) (fun g a _ => by simp [kitT])
    · exact word_of (dd := .int 0) (fun _ => rfl) (by decide +kernel) (by decide +kernel) (by decide +kernel) (fun g a _ => by simp [kitT])
    · exact word_of (dd := .bool true) (fun _ => rfl) (by decide +kernel) (by decide +kernel) (by decide +kernel) (fun g a _ => by simp [kitT])
    · exact str_bad (fun g => by cases so <;> simp) (by decide +kernel) (by decide +kernel) (by decide +kernel) (by decide +kernel)
    · exact str_bad (fun g => by cases so <;> simp) (by decide +kernel) (by decide +kernel) (by decide +kernel) (by decide +kernel)
    · exact str_bad (fun g => by cases so <;> simp) (by decide +kernel) (by decide +kernel) (by decide +kernel) (by decide +kernel)
    · exact str_bad (fun g => by cases so <;> simp) (by decide +kernel) (by decide +kernel) (by decide +kernel) (by decide +kernel)
    · exact word_of (dd := .list [.str (sV [110, 111])]) (fun _ => rfl) (by decide +kernel) (by decide +kernel) (by decide +kernel) (fun g a _ => by simp [kitT])
    · exact word_of (dd := .tuple [.str (sV [110, 111])]) (fun _ => rfl) (by decide +kernel) (by decide +kernel) (by decide +kernel) (fun g a _ => by simp [kitT])
    · exact ⟨[123, 125], by decide, fun g hd => repr_dict hd, fun g a hd _ => by simp [kitT, hd]⟩
    · exact str_bad (fun g => by cases so <;> simp) (by decide +kernel) (by decide +kernel) (by decide +kernel) (by decide +kernel)
    · exact str_bad (fun g => by cases so <;> simp) (by decide +kernel) (by decide +kernel) (by decide +kernel) (by decide +kernel)
    · exact str_bad (fun g => by cases so <;> simp) (by decide +kernel) (by decide +kernel) (by decide +kernel) (by decide +kernel)
  · cases so <;> simp only [more, List.mem_cons, List.not_mem_nil, or_false] at h <;> rcases h with rfl | rfl
    · exact str_bad (fun g => by simp) (by decide +kernel) (by decide +kernel) (by decide +kernel) (by decide +kernel)
    · exact str_bad (fun g => by simp) (by decide +kernel) (by decide +kernel) (by decide +kernel) (by decide +kernel)
    · exact str_bad (fun g => by simp) (by decide +kernel) (by decide +kernel) (by decide +kernel) (by decide +kernel)
    · exact word_of (dd := .int 1) (fun _ => rfl) (by decide +kernel) (by decide +kernel) (by decide +kernel) (fun g a _ => by simp [kitT])
end K07
namespace K07
open PySem hiding Loc
open MR
theorem cut_mem {l : List W} {a b : Option Int} {w : W} (h : w ∈ cutL l a b) : w ∈ l := by
  unfold cutL at h
  exact List.mem_of_mem_drop (List.mem_of_mem_take h)
theorem cut_len {l : List W} {a b : Option Int} : (cutL l a b).length ≤ l.length := by
  unfold cutL
  rw [List.length_take, List.length_drop]
  omega
theorem owl_e {L : Loc} {h : Hq} : (mLst (mCons (mC .non) (mCons (mC (.int 0)) (mCons (mC (.bl true)) (mCons (mC (.str [])) (mCons (mC (.str [82, 105, 110, 103, 115])) (mCons (mC (.str [115, 117, 114, 101])) (mCons (mC (.str [97, 115, 107])) (mCons (mLst (mCons (mC (.str [110, 111])) (mNil))) (mCons (mTup (mCons (mC (.str [110, 111])) (mNil))) (mCons (mDict0) (mCons (mC (.str [110, 111, 32])) (mCons (mC (.str [108, 97, 116, 101])) (mCons (mC (.str [117, 112])) (mNil))))))))))))))) L h = .ok (.lst (ows h.length)) (h ++ [.dk false []]) := by
  simp [ows, mDict0]
theorem slice_e {m ml : M} {L : Loc} {h h1 h2 : Hq} {l : List W} {w : Int} (e1 : m L h = .ok (.lst l) h1) (e2 : ml L h1 = .ok (.int w) h2) : mSlice false (mSlice false m (some ml) none) none (some (mC (.int 3))) L h = .ok (.lst (cutL (cutL l (some w) none) none (some 3))) h2 := by
  have a1 : mSlice false m (some ml) none L h = .ok (.lst (cutL l (some w) none)) h2 := by
    rw [mSlice_ap, e1]
    rw [kSlice_e1]
    unfold mPart
    simp only
    rw [e2]
    simp [-cutL]
  rw [mSlice_ap, a1, kSlice_e1]
  simp [-cutL]
theorem more_e {so : Bool} {L : Loc} {h : Hq} (l1 : L[1]? = some (some (.str (srt so)))) : (mBin fIdx (mLst (mCons (mLst (mCons (mC (.str [100, 111, 110, 101])) (mCons (mC (.int 1)) (mNil)))) (mCons (mLst (mCons (mC (.str [114, 105, 110, 103, 115])) (mCons (mC (.str [116, 97, 107, 101, 110])) (mNil)))) (mNil)))) (mBlt bInt (mCons (mBin fEq (mVar 1) (mC (.str [111, 116, 104, 101, 114]))) (mNil)))) L h = .ok (.lst (more so)) h := by
  cases so <;> simp [l1, srt, more]
theorem odd_words_ok {h : Hq} {p : Nat} {x y : Int} {so : Bool} (hp : h[p]? = some (.lst [.int x, .int y])) : ∃ (l : List W) (h' : Hq) (d : Nat) (x' y' : Int), m__law_odd_words [.cell p, .str (srt so)] h = .ok (.lst l) h' ∧ (∀ w ∈ l, ∃ s, WordBad so d w s) ∧ h'[d]? = some (.dk false []) ∧ h'[p]? = some (.lst [.int x', .int y']) ∧ Fr [p] h h' ∧ h.length ≤ d := by
  have e1 := owl_e (L := [some (.cell p), some (.str (srt so)), none, none]) (h := h)
  have hp1 : (h ++ [Cell.dk false []])[p]? = some (.lst [.int x, .int y]) := happ hp
  have hd1 : (h ++ [Cell.dk false []])[h.length]? = some (.dk false []) := hnew
  have F1 : Fr [p] h (h ++ [Cell.dk false []]) := Fr.app
  have pd : p ≠ h.length := by have := hlt hp; omega
  generalize h ++ [Cell.dk false []] = h1 at *
  obtain ⟨w, x1, y1, w0, w1, e2⟩ := take_ok hp1 (many := 13) (by decide) (by decide)
  have hp2 : (h1.set p (.lst [.int x1, .int y1]))[p]? = some (.lst [.int x1, .int y1]) := hset_self hp1
  have hd2 : (h1.set p (.lst [.int x1, .int y1]))[h.length]? = some (.dk false []) := by rw [hset_ne pd]; exact hd1
  have F2 : Fr [p] h1 (h1.set p (.lst [.int x1, .int y1])) := Fr.set
  generalize h1.set p (.lst [.int x1, .int y1]) = h2 at *
  have e3 : (mSlice false (mSlice false (mVar 2) (some (mCall 2 m__law_take [] (mCons (mVar 0) (mCons (mC (.int 13)) (mNil))))) none) none (some (mC (.int 3)))) [some (.cell p), some (.str (srt so)), some (.lst (ows h.length)), none] h1 = .ok (.lst (cutL (cutL (ows h.length) (some w) none) none (some 3))) h2 := slice_e (by simp) ((mcall2 (by simp) (by simp)).trans e2)
  have e4 := more_e (so := so) (L := [some (.cell p), some (.str (srt so)), some (.lst (ows h.length)), some (.lst (cutL (cutL (ows h.length) (some w) none) none (some 3)))]) (h := h2) rfl
  have hm : ∀ z ∈ cutL (cutL (ows h.length) (some w) none) none (some 3) ++ more so, ∃ s, WordBad so h.length z s := by
    intro z hz
    rcases List.mem_append.mp hz with hz | hz
    · exact ows_bad z (List.mem_append.mpr (.inl (cut_mem (cut_mem hz))))
    · exact ows_bad z (List.mem_append.mpr (.inr hz))
  have hl : (cutL (cutL (ows h.length) (some w) none) none (some 3)).length + (more so).length ≤ 16777216 := by
    have a1 : (cutL (cutL (ows h.length) (some w) none) none (some 3)).length ≤ 13 := Nat.le_trans cut_len (Nat.le_trans cut_len (Nat.le_refl 13))
    have a2 : (more so).length = 2 := by cases so <;> rfl
    omega
  generalize cutL (cutL (ows h.length) (some w) none) none (some 3) = l at *
  refine ⟨l ++ more so, h2, h.length, x1, y1, ?_, hm, hd2, hp2, F1.trans F2, Nat.le_refl _⟩
  simp [m__law_odd_words, s__law_odd_words, ↓e1, ↓e3, ↓e4, hl]
/-! ### a drawn state -/
structure TS (h0 : Hq) (p a : Nat) (so : Bool) (L : Loc) (h : Hq) : Prop where
  loc : ∃ x3 x4 : Option W, L = [some (.cell p), some (.str (srt so)), some (.cell a), x3, x4]
  st : ∃ s, h[a]? = some (insS s) ∧ okS s = true ∧ s.so = so
  pool : ∃ x y : Int, h[p]? = some (.lst [.int x, .int y])
  fr : Fr [p, a] h0 h
theorem TS.beat {h0 : Hq} {p a : Nat} {so : Bool} {L : Loc} {h : Hq} (Z : TS h0 p a so L h) {w : W} : ∃ L' h', (b__law_to_state_2 (L.set 4 (some w)) h = .nx L' h' ∨ b__law_to_state_2 (L.set 4 (some w)) h = .ct L' h') ∧ TS h0 p a so L' h' := by
  obtain ⟨⟨x3, x4, rfl⟩, ⟨s, ha, ok, es⟩, ⟨x, y, hp⟩, F⟩ := Z
  have pa : a ≠ p := ne_of ha hp (by simp [insS])
  have e := beat_ok ha
  refine ⟨[some (.cell p), some (.str (srt so)), some (.cell a), x3, some w], h.set a (insS (beatS s).1) ++ [.lst (beatS s).2.l], .inl ?_, ⟨_, _, rfl⟩, ⟨(beatS s).1, happ (hset_self ha), beatS_ok ok, (beatS_so s).trans es⟩, ⟨x, y, happ (by rw [hset_ne pa]; exact hp)⟩, F.trans ((Fr.set.mono (by simp)).trans Fr.app)⟩
  simp [b__law_to_state_2, ha, e]
theorem TS.word {h0 : Hq} {p a : Nat} {so : Bool} {L : Loc} {h : Hq} (Z : TS h0 p a so L h) {w : W} (hw : w = .str Wd.rings.s ∨ w = .str Wd.taken.s ∨ w = .str Wd.no.s) : ∃ L' h', (b__law_to_state_1 (L.set 3 (some w)) h = .nx L' h' ∨ b__law_to_state_1 (L.set 3 (some w)) h = .ct L' h') ∧ TS h0 p a so L' h' := by
  obtain ⟨⟨x3, x4, rfl⟩, ⟨s, ha, ok, es⟩, ⟨x, y, hp⟩, F⟩ := Z
  have pa : a ≠ p := ne_of ha hp (by simp [insS])
  have go : ∀ wd : Wd, okW so wd = true → w = .str wd.s → (mOrT (mBin fEq (mVar 1) (mC (.str [114, 105, 110, 103]))) (mBin fEq (mVar 3) (mC (.str [110, 111])))) [some (.cell p), some (.str (srt so)), some (.cell a), some w, x4] h = .ok (.bl true) h → ∃ L' h', (b__law_to_state_1 ([some (.cell p), some (.str (srt so)), some (.cell a), x3, x4].set 3 (some w)) h = .nx L' h' ∨ b__law_to_state_1 ([some (.cell p), some (.str (srt so)), some (.cell a), x3, x4].set 3 (some w)) h = .ct L' h') ∧ TS h0 p a so L' h' := fun wd okw ew c => by
    subst ew
    obtain ⟨n, h', e, D⟩ := hear_ok (w := wd) ok ha (by rw [es]; exact okw)
    refine ⟨[some (.cell p), some (.str (srt so)), some (.cell a), some (.str wd.s), x4], h', .inl ?_, ⟨_, _, rfl⟩, ⟨(hearS s wd).1, D.ins, hearS_ok ok, (hearS_so s wd).trans es⟩, ⟨x, y, D.fr _ _ (by simp; exact fun z => pa z.symm) hp⟩, F.trans (D.fr.mono (by simp))⟩
    have e2 : (mMeth tb_hear (mVar 2) (mCons (mVar 3) (mNil))) [some (.cell p), some (.str (srt so)), some (.cell a), some (.str wd.s), x4] h = .ok (.cell n) h' := (meth1 (by simp) ha rfl (by simp)).trans e
    exact (if_T c).trans (by simp [↓e2])
  have no : so = false → (mOrT (mBin fEq (mVar 1) (mC (.str [114, 105, 110, 103]))) (mBin fEq (mVar 3) (mC (.str [110, 111])))) [some (.cell p), some (.str (srt so)), some (.cell a), some w, x4] h = .ok (.bl false) h → ∃ L' h', (b__law_to_state_1 ([some (.cell p), some (.str (srt so)), some (.cell a), x3, x4].set 3 (some w)) h = .nx L' h' ∨ b__law_to_state_1 ([some (.cell p), some (.str (srt so)), some (.cell a), x3, x4].set 3 (some w)) h = .ct L' h') ∧ TS h0 p a so L' h' := fun es' c => by
    refine ⟨[some (.cell p), some (.str (srt so)), some (.cell a), some w, x4], h, .inl ((if_F c).trans (by simp)), ⟨_, _, rfl⟩, ⟨s, ha, ok, es⟩, ⟨x, y, hp⟩, F⟩
  cases so with
  | true => rcases hw with rfl | rfl | rfl
            · exact go .rings rfl rfl (by simp [srt])
            · exact go .taken rfl rfl (by simp [srt])
            · exact go .no rfl rfl (by simp [srt])
  | false => rcases hw with rfl | rfl | rfl
             · exact no rfl (by simp [srt, Wd.s])
             · exact no rfl (by simp [srt, Wd.s])
             · exact go .no rfl rfl (by simp [srt, Wd.s])
abbrev textsM : M := mLst (mCons (mLst (mNil)) (mCons (mLst (mCons (mC (.str [114, 105, 110, 103, 115])) (mNil))) (mCons (mLst (mCons (mC (.str [116, 97, 107, 101, 110])) (mNil))) (mCons (mLst (mCons (mC (.str [110, 111])) (mNil))) (mCons (mLst (mCons (mC (.str [114, 105, 110, 103, 115])) (mCons (mC (.str [110, 111])) (mNil)))) (mNil))))))
theorem pick_text {w : Int} (h0 : 0 ≤ w) (h1 : w < 5) : ∃ l : List W, (∀ g : Hq, fIdx (.lst [.lst [], .lst [.str Wd.rings.s], .lst [.str Wd.taken.s], .lst [.str Wd.no.s], .lst [.str Wd.rings.s, .str Wd.no.s]]) (.int w) g = .ok (.lst l) g) ∧ ∀ z ∈ l, z = .str Wd.rings.s ∨ z = .str Wd.taken.s ∨ z = .str Wd.no.s := by
  rcases (show w = 0 ∨ w = 1 ∨ w = 2 ∨ w = 3 ∨ w = 4 by omega) with rfl | rfl | rfl | rfl | rfl
  · exact ⟨[], fun g => by simp, by simp⟩
  · exact ⟨[.str Wd.rings.s], fun g => by simp, by simp⟩
  · exact ⟨[.str Wd.taken.s], fun g => by simp, by simp⟩
  · exact ⟨[.str Wd.no.s], fun g => by simp, by simp⟩
  · exact ⟨[.str Wd.rings.s, .str Wd.no.s], fun g => by simp, by simp⟩
theorem fr_cut {p a : Nat} {h0 h : Hq} (F : Fr [p, a] h0 h) (ha : h0.length ≤ a) : Fr [p] h0 h := fun b c hb e => F b c (by
  have := hlt e
  simp at hb ⊢
  exact ⟨hb, by omega⟩) e
theorem to_state_ok {h : Hq} {p : Nat} {x y : Int} {so : Bool} (hp : h[p]? = some (.lst [.int x, .int y])) : ∃ (a : Nat) (h' : Hq) (s : S) (x' y' : Int), m__law_to_state [.cell p, .str (srt so)] h = .ok (.cell a) h' ∧ h'[a]? = some (insS s) ∧ okS s = true ∧ s.so = so ∧ h'[p]? = some (.lst [.int x', .int y']) ∧ Fr [p] h h' ∧ h.length ≤ a := by
  have em := make_new (h := h) (so := so)
  have ha1 : (h ++ [insS (s0 so)])[h.length]? = some (insS (s0 so)) := hnew
  have hp1 : (h ++ [insS (s0 so)])[p]? = some (.lst [.int x, .int y]) := happ hp
  have F1 : Fr [p, h.length] h (h ++ [insS (s0 so)]) := Fr.app
  obtain ⟨a, ea⟩ : ∃ a, h.length = a := ⟨_, rfl⟩
  have e0 : (mMake 22 2 m_Asker___init__ [] (mCons (mVar 1) (mNil))) [some (.cell p), some (.str (srt so)), none, none, none] h = .ok (.cell a) (h ++ [insS (s0 so)]) := by
    simp [em, ← ea]
  rw [ea] at ha1 F1
  generalize h ++ [insS (s0 so)] = h1 at *
  obtain ⟨w, x1, y1, w0, w1, e1⟩ := take_ok hp1 (many := 5) (by decide) (by decide)
  have pa : p ≠ a := by have := hlt hp; omega
  have hp2 : (h1.set p (.lst [.int x1, .int y1]))[p]? = some (.lst [.int x1, .int y1]) := hset_self hp1
  have ha2 : (h1.set p (.lst [.int x1, .int y1]))[a]? = some (insS (s0 so)) := by rw [hset_ne pa]; exact ha1
  have F2 : Fr [p, a] h1 (h1.set p (.lst [.int x1, .int y1])) := Fr.set.mono (by simp)
  generalize h1.set p (.lst [.int x1, .int y1]) = h2 at *
  obtain ⟨l, el, hl⟩ := pick_text w0 w1
  have e2 : (mBin fIdx textsM (mCall 2 m__law_take [] (mCons (mVar 0) (mCons (mC (.int 5)) (mNil))))) [some (.cell p), some (.str (srt so)), some (.cell a), none, none] h1 = .ok (.lst l) h2 := by
    rw [bin2 (w := .lst [.lst [], .lst [.str Wd.rings.s], .lst [.str Wd.taken.s], .lst [.str Wd.no.s], .lst [.str Wd.rings.s, .str Wd.no.s]]) (h1 := h1) (by simp [Wd.s]) ((mcall2 (by simp) (by simp)).trans e1), el]
  obtain ⟨L3, h3, e3, Z3⟩ := loopW_invV (i := 3) (s := b__law_to_state_1) (P := TS h p a so) (V := fun z => z = .str Wd.rings.s ∨ z = .str Wd.taken.s ∨ z = .str Wd.no.s) (fun w L h v P => P.word v) l [some (.cell p), some (.str (srt so)), some (.cell a), none, none] h2 hl ⟨⟨_, _, rfl⟩, ⟨s0 so, ha2, by cases so <;> rfl, rfl⟩, ⟨_, _, hp2⟩, F1.trans F2⟩
  have e4 : (sForQ (mBin fIdx textsM (mCall 2 m__law_take [] (mCons (mVar 0) (mCons (mC (.int 5)) (mNil))))) (tgN 3) (b__law_to_state_1)) [some (.cell p), some (.str (srt so)), some (.cell a), none, none] h1 = .nx L3 h3 := (forQ_lst e2).trans e3
  obtain ⟨⟨x3, x4, rfl⟩, ⟨s, ha3, ok, es⟩, ⟨x2, y2, hp3⟩, F3⟩ := Z3
  obtain ⟨w2, x4', y4', w20, w21, e5⟩ := take_ok hp3 (many := 2) (by decide) (by decide)
  have hp4 : (h3.set p (.lst [.int x4', .int y4']))[p]? = some (.lst [.int x4', .int y4']) := hset_self hp3
  have ha4 : (h3.set p (.lst [.int x4', .int y4']))[a]? = some (insS s) := by rw [hset_ne pa]; exact ha3
  have F4 : Fr [p, a] h (h3.set p (.lst [.int x4', .int y4'])) := F3.trans (Fr.set.mono (by simp))
  generalize h3.set p (.lst [.int x4', .int y4']) = h4 at *
  -- given up or not
  have e6 : (mBin fEq (mCall 2 m__law_take [] (mCons (mVar 0) (mCons (mC (.int 2)) (mNil)))) (mC (.int 0))) [some (.cell p), some (.str (srt so)), some (.cell a), x3, x4] h3 = .ok (.bl (decide (w2 = 0))) h4 := by
    rw [bin2 (w := .int w2) (u := .int 0) (h1 := h4) (h2 := h4) ((mcall2 (by simp) (by simp)).trans e5) (by simp)]
    simp
  obtain ⟨h5, e7, Z5⟩ : ∃ h5, (sIf (mBin fEq (mCall 2 m__law_take [] (mCons (mVar 0) (mCons (mC (.int 2)) (mNil)))) (mC (.int 0))) (sExpr (mMeth tb_give_up (mVar 2) mNil)) (sPass)) [some (.cell p), some (.str (srt so)), some (.cell a), x3, x4] h3 = .nx [some (.cell p), some (.str (srt so)), some (.cell a), x3, x4] h5 ∧ TS h p a so [some (.cell p), some (.str (srt so)), some (.cell a), x3, x4] h5 := by
    by_cases c : w2 = 0
    · have eg := give_ok ha4
      refine ⟨h4.set a (insS (giveS s).1) ++ [.lst (giveS s).2.l], ?_, ⟨_, _, rfl⟩, ⟨(giveS s).1, happ (hset_self ha4), giveS_ok ok, (giveS_so s).trans es⟩, ⟨_, _, happ (by rw [hset_ne pa.symm]; exact hp4)⟩, F4.trans ((Fr.set.mono (by simp)).trans Fr.app)⟩
      rw [decide_eq_true c] at e6
      rw [if_T e6]
      have := (meth0 (mv := mVar 2) (tb := tb_give_up) (L := [some (.cell p), some (.str (srt so)), some (.cell a), x3, x4]) (by simp) ha4 rfl).trans eg
      simp [↓this]
    · refine ⟨h4, ?_, ⟨_, _, rfl⟩, ⟨s, ha4, ok, es⟩, ⟨_, _, hp4⟩, F4⟩
      rw [decide_eq_false c] at e6
      rw [if_F e6]
      simp
  obtain ⟨_, ⟨s5, ha5, ok5, es5⟩, ⟨x5, y5, hp5⟩, F5⟩ := Z5
  obtain ⟨j, x6, y6, j0, j1, e8⟩ := take_ok hp5 (many := 20) (by decide) (by decide)
  have hp6 : (h5.set p (.lst [.int x6, .int y6]))[p]? = some (.lst [.int x6, .int y6]) := hset_self hp5
  have ha6 : (h5.set p (.lst [.int x6, .int y6]))[a]? = some (insS s5) := by rw [hset_ne pa]; exact ha5
  have F6 : Fr [p, a] h (h5.set p (.lst [.int x6, .int y6])) := F5.trans (Fr.set.mono (by simp))
  generalize h5.set p (.lst [.int x6, .int y6]) = h6 at *
  have e9 : (mCons (mCall 2 m__law_take [] (mCons (mVar 0) (mCons (mC (.int 20)) (mNil)))) (mNil)) [some (.cell p), some (.str (srt so)), some (.cell a), x3, x4] h5 = .ok (.tup [.int j]) h6 := by
    have := (mcall2 (f := m__law_take) (m1 := mVar 0) (m2 := mC (.int 20)) (L := [some (.cell p), some (.str (srt so)), some (.cell a), x3, x4]) (by simp) (by simp)).trans e8
    simp [↓this]
  obtain ⟨L7, h7, e10, Z7⟩ := loopW_invV (i := 4) (s := b__law_to_state_2) (P := TS h p a so) (V := fun _ => True) (fun w L h v P => P.beat) (rangeW 0 j.toNat) [some (.cell p), some (.str (srt so)), some (.cell a), x3, x4] h6 (fun _ _ => trivial) ⟨⟨_, _, rfl⟩, ⟨s5, ha6, ok5, es5⟩, ⟨_, _, hp6⟩, F6⟩
  have hj : -4611686018427387904 ≤ j ∧ j < 4611686018427387904 := by omega
  have e11 : (sForR1 (mCons (mCall 2 m__law_take [] (mCons (mVar 0) (mCons (mC (.int 20)) (mNil)))) (mNil)) (tgN 4) (b__law_to_state_2)) [some (.cell p), some (.str (srt so)), some (.cell a), x3, x4] h5 = .nx L7 h7 := by
    rw [sForR1_ap, e9]
    simp [hj, e10]
  obtain ⟨⟨x7, x8, rfl⟩, ⟨s7, ha7, ok7, es7⟩, ⟨x9, y9, hp7⟩, F7⟩ := Z7
  refine ⟨a, h7, s7, x9, y9, ?_, ha7, ok7, es7, hp7, fr_cut F7 (by omega), by omega⟩
  unfold m__law_to_state
  rw [mDef_ap]
  show kDef (s__law_to_state [some (.cell p), some (.str (srt so)), none, none, none] h) = _
  unfold s__law_to_state
  rw [seq_nx (show sSet 2 _ [some (.cell p), some (.str (srt so)), none, none, none] h = .nx [some (.cell p), some (.str (srt so)), some (.cell a), none, none] h1 by rw [sSet_ap, e0]; rfl)]
  rw [seq_nx e4, seq_nx e7, seq_nx e11]
  simp
end K07
namespace K07
open PySem hiding Loc
open MR
theorem loopW_T2' (i j : Nat) (s : MS) (x y : W) (ws : List W) (L : Loc) (h : Hq) :
    loopW (tgT 2 (tgsCons (tgN i) (tgsCons (tgN j) (tgsNil)))) s (.tup [x, y] :: ws) L h = kTurn (loopW (tgT 2 (tgsCons (tgN i) (tgsCons (tgN j) (tgsNil)))) s ws) (s ((L.set i (some x)).set j (some y)) h) := by
  show turnF (tgT 2 (tgsCons (tgN i) (tgsCons (tgN j) (tgsNil)))) s (.tup [x, y]) L h (loopW (tgT 2 (tgsCons (tgN i) (tgsCons (tgN j) (tgsNil)))) s ws) = _
  have e : tgT 2 (tgsCons (tgN i) (tgsCons (tgN j) (tgsNil))) (.tup [x, y]) L h = .nx ((L.set i (some x)).set j (some y)) h := rfl
  unfold turnF
  rw [e]
  simp only
  cases s ((L.set i (some x)).set j (some y)) h <;> rfl
theorem mk0 {c n nk : Nat} {idx : List Nat} {f : Fn} {mw : List W} {mk : M} {L : Loc} {h h' : Hq} {ws : List W} (e : mk L h = .ok (.tup ws) h) (hn : ws.length = nk) (hp : (pick idx ([W.cell h.length] ++ mw ++ ws)).length = n) (ef : f (pick idx ([W.cell h.length] ++ mw ++ ws)) (h ++ [.ins c []]) = .ok .non h') : mMakeK c n 1 nk idx f mw mNil mk L h = .ok (.cell h.length) h' := by
  unfold mMakeK
  have q1 : mNil L h = .ok (.tup []) h := by simp
  rw [q1]
  simp only [Rs.bindL]
  rw [e]
  simp only [Rs.bindL]
  rw [if_pos ⟨rfl, hn, hp⟩, ef]
  simp
theorem mkM {c n nk : Nat} {idx : List Nat} {f : Fn} {mw : List W} {mv mk : M} {L : Loc} {h g g' : Hq} {b : Nat} {fs : List (Nat × W)} {ws : List W} {r : W} (h1 : mv L h = .ok (.cell b) g) (h2 : g[b]? = some (.ins c fs)) (h3 : mk L g = .ok (.tup ws) g) (h4 : ws.length = nk) (h5 : (pick idx ([W.cell b] ++ mw ++ ws)).length = n) (h6 : f (pick idx ([W.cell b] ++ mw ++ ws)) g = .ok r g') : mMethK c n nk idx f mw mv mk L h = .ok r g' := by
  unfold mMethK
  rw [h1]
  simp only [Rs.bind_ok]
  have : insOf (.cell b) g = some (b, c, fs) := by simp [h2]
  rw [this]
  simp only [if_true]
  rw [h3]
  simp only [Rs.bindL]
  rw [if_pos ⟨h4, h5⟩, h6]
/-- what stands amid a turn of law -/
structure Q (sc : W) (so : Bool) (p a t q r : Nat) (s : S) (L : Loc) (h : Hq) : Prop where
  loc : ∃ x1 x3 x4 x11 x12 x13 x14 : Option W, L = [some sc, x1, some (.cell p), x3, x4, some (.str (srt so)), some (.cell a), some (.lst (kept s)), some (.cell t), some (.cell q), some (.cell r), x11, x12, x13, x14]
  one : h[a]? = some (insS s)
  twin : h[t]? = some (insS s)
  both : ∃ bs : B.S, bs.so = so ∧ h[q]? = some (B.insS bs) ∧ h[r]? = some (B.insS bs)
  qr : q ≠ r
  pool : ∃ x y : Int, h[p]? = some (.lst [.int x, .int y])
section
variable {sc : W} {so : Bool} {p a t q r : Nat} {s : S} {L : Loc} {h : Hq}
theorem Q.app (Z : Q sc so p a t q r s L h) {x : Hq} : Q sc so p a t q r s L (h ++ x) := by
  obtain ⟨l, o, w, ⟨bs, e1, e2, e3⟩, n, x1, y1, e4⟩ := Z
  exact ⟨l, happ o, happ w, ⟨bs, e1, happ e2, happ e3⟩, n, x1, y1, happ e4⟩
theorem Q.draw (Z : Q sc so p a t q r s L h) {x y : Int} : Q sc so p a t q r s L (h.set p (.lst [.int x, .int y])) := by
  obtain ⟨l, o, w, ⟨bs, e1, e2, e3⟩, n, x1, y1, e4⟩ := Z
  exact ⟨l, by rw [hset_ne (ne_of e4 o (by simp [insS]))]; exact o, by rw [hset_ne (ne_of e4 w (by simp [insS]))]; exact w, ⟨bs, e1, by rw [hset_ne (ne_of e4 e2 (by simp [B.insS]))]; exact e2, by rw [hset_ne (ne_of e4 e3 (by simp [B.insS]))]; exact e3⟩, n, x, y, hset_self e4⟩
theorem Q.frp (Z : Q sc so p a t q r s L h) {h' : Hq} {x y : Int} (F : Fr [p] h h') (hp : h'[p]? = some (.lst [.int x, .int y])) : Q sc so p a t q r s L h' := by
  obtain ⟨l, o, w, ⟨bs, e1, e2, e3⟩, n, x1, y1, e4⟩ := Z
  have k : ∀ {b : Nat} {c : Cell}, h[b]? = some c → (∀ u v, c ≠ .lst [.int u, .int v]) → h'[b]? = some c := fun e z => F _ _ (by
    simp only [List.mem_singleton]
    exact ne_of e e4 (z _ _)) e
  exact ⟨l, k o (by simp [insS]), k w (by simp [insS]), ⟨bs, e1, k e2 (by simp [B.insS]), k e3 (by simp [B.insS])⟩, n, x, y, hp⟩
theorem Q.set11 (Z : Q sc so p a t q r s L h) {w : W} : Q sc so p a t q r s (L.set 11 (some w)) h := by
  obtain ⟨⟨x1, x3, x4, x11, x12, x13, x14, rfl⟩, o, w, b, n, pl⟩ := Z
  exact ⟨⟨_, _, _, _, _, _, _, rfl⟩, o, w, b, n, pl⟩
theorem Q.set12 (Z : Q sc so p a t q r s L h) {w : W} : Q sc so p a t q r s (L.set 12 (some w)) h := by
  obtain ⟨⟨x1, x3, x4, x11, x12, x13, x14, rfl⟩, o, w, b, n, pl⟩ := Z
  exact ⟨⟨_, _, _, _, _, _, _, rfl⟩, o, w, b, n, pl⟩
/-- both say no -/
theorem Q.no (Z : Q sc so p a t q r s L h) : ∃ h', b_law_2 L h = .nx L h' ∧ Q sc so p a t q r s L h' := by
  obtain ⟨⟨x1, x3, x4, x11, x12, x13, x14, rfl⟩, o, w, ⟨bs, e1, e2, e3⟩, n, x, y, e4⟩ := Z
  have qa : q ≠ a := ne_of e2 o (by simp [insS, B.insS])
  have qt : q ≠ t := ne_of e2 w (by simp [insS, B.insS])
  have ra : r ≠ a := ne_of e3 o (by simp [insS, B.insS])
  have rt : r ≠ t := ne_of e3 w (by simp [insS, B.insS])
  have qp : q ≠ p := ne_of e2 e4 (by simp [B.insS])
  have rp : r ≠ p := ne_of e3 e4 (by simp [B.insS])
  have ok : B.okW bs.so .no = true := by cases bs.so <;> rfl
  have s1 := B.say_ok e2 (w := .no) ok
  have e3' : (h.set q (B.insS (B.sayS bs .no).1) ++ [.lst (B.sayL (B.sayS bs .no).2)])[r]? = some (B.insS bs) := happ (by rw [hset_ne n]; exact e3)
  have e2' : (h.set q (B.insS (B.sayS bs .no).1) ++ [.lst (B.sayL (B.sayS bs .no).2)])[q]? = some (B.insS (B.sayS bs .no).1) := happ (hset_self e2)
  have o' : (h.set q (B.insS (B.sayS bs .no).1) ++ [.lst (B.sayL (B.sayS bs .no).2)])[a]? = some (insS s) := happ (by rw [hset_ne qa]; exact o)
  have w' : (h.set q (B.insS (B.sayS bs .no).1) ++ [.lst (B.sayL (B.sayS bs .no).2)])[t]? = some (insS s) := happ (by rw [hset_ne qt]; exact w)
  have p' : (h.set q (B.insS (B.sayS bs .no).1) ++ [.lst (B.sayL (B.sayS bs .no).2)])[p]? = some (.lst [.int x, .int y]) := happ (by rw [hset_ne qp]; exact e4)
  generalize h.set q (B.insS (B.sayS bs .no).1) ++ [.lst (B.sayL (B.sayS bs .no).2)] = h1 at *
  have s2 := B.say_ok e3' (w := .no) ok
  refine ⟨h1.set r (B.insS (B.sayS bs .no).1) ++ [.lst (B.sayL (B.sayS bs .no).2)], ?_, ⟨_, _, _, _, _, _, _, rfl⟩, happ (by rw [hset_ne ra]; exact o'), happ (by rw [hset_ne rt]; exact w'), ⟨(B.sayS bs .no).1, (B.sayS_so _ _).trans e1, happ (by rw [hset_ne n.symm]; exact e2'), happ (hset_self e3')⟩, n, x, y, happ (by rw [hset_ne rp]; exact p')⟩
  have c1 := (meth1 (tb := tb_say) (mv := mVar 9) (m1 := mC (.str [110, 111])) (L := [some sc, x1, some (.cell p), x3, x4, some (.str (srt so)), some (.cell a), some (.lst (kept s)), some (.cell t), some (.cell q), some (.cell r), x11, x12, x13, x14]) (by simp) e2 rfl (by simp [B.Wd.s])).trans s1
  have c2 := (meth1 (tb := tb_say) (mv := mVar 10) (m1 := mC (.str [110, 111])) (L := [some sc, x1, some (.cell p), x3, x4, some (.str (srt so)), some (.cell a), some (.lst (kept s)), some (.cell t), some (.cell q), some (.cell r), x11, x12, x13, x14]) (by simp) e3' rfl (by simp [B.Wd.s])).trans s2
  unfold b_law_2
  rw [seq_nx (show sExpr _ _ h = .nx _ h1 by simp [↓c1]; rfl)]
  simp [↓c2]
/-- a word that is none, at both doors -/
theorem Q.bad (Z : Q sc so p a t q r s L h) (es : s.so = so) {d : Nat} {w : W} {z : List Nat} (D : WordBad so d w z) (hd : h[d]? = some (.dk false [])) : ∃ L' h', b_law_4 (L.set 12 (some w)) h = .nx L' h' ∧ Q sc so p a t q r s L' h' ∧ h'[d]? = some (.dk false []) := by
  obtain ⟨⟨x1, x3, x4, x11, x12, x13, x14, rfl⟩, o, tw, ⟨bs, e1, e2, e3⟩, n, x, y, e4⟩ := Z
  have one : ∀ (k : Int) (b : Nat) (y4 y14 : Option W) (g : Hq), (k = 2 ∧ b = a ∨ k = 3 ∧ b = q) → (∃ u, g = h ++ u) → ∃ u, b_law_3 [some sc, x1, some (.cell p), x3, some (.int k), some (.str (srt so)), some (.cell a), some (.lst (kept s)), some (.cell t), some (.cell q), some (.cell r), x11, some w, x13, some (.cell b)] g = .nx [some sc, x1, some (.cell p), x3, some (.int k), some (.str (srt so)), some (.cell a), some (.lst (kept s)), some (.cell t), some (.cell q), some (.cell r), x11, some w, x13, some (.cell b)] (g ++ u) := by
    rintro k b y4 y14 g c ⟨u, rfl⟩
    have hd' : (h ++ u)[d]? = some (.dk false []) := happ hd
    have c1 : m__law_none [.int k, .cell b, w] (h ++ u) = .ok (.lst [.bl false, .bl true, .bl true, .str z]) (h ++ u ++ [.xd [(0, w)]]) := by
      rcases c with ⟨rfl, rfl⟩ | ⟨rfl, rfl⟩
      · exact D.door2 hd' (happ o) es
      · exact D.door3 hd' (happ e2) e1
    have hd2 : (h ++ u ++ [Cell.xd [(0, w)]])[d]? = some (.dk false []) := happ hd'
    refine ⟨[.xd [(0, w)]], ?_⟩
    generalize h ++ u ++ [Cell.xd [(0, w)]] = g2 at *
    generalize h ++ u = g1 at *
    have c2 := D.re g2 hd2
    have c3 := quad_ne (b1 := false) (b2 := true) (b3 := true) D.os g2
    simp [b_law_3, ↓c1, c1, ↓c2, c2, ↓c3, c3]
  obtain ⟨u1, d1⟩ := one 2 a x4 x14 h (.inl ⟨rfl, rfl⟩) ⟨[], by simp⟩
  obtain ⟨u2, d2⟩ := one 3 q (some (.int 2)) (some (.cell a)) (h ++ u1) (.inr ⟨rfl, rfl⟩) ⟨u1, rfl⟩
  refine ⟨[some sc, x1, some (.cell p), x3, some (.int 3), some (.str (srt so)), some (.cell a), some (.lst (kept s)), some (.cell t), some (.cell q), some (.cell r), x11, some w, x13, some (.cell q)], h ++ u1 ++ u2, ?_, ⟨⟨_, _, _, _, _, _, _, rfl⟩, happ (happ o), happ (happ tw), ⟨bs, e1, happ (happ e2), happ (happ e3)⟩, n, x, y, happ (happ e4)⟩, happ (happ hd)⟩
  unfold b_law_4
  rw [forQ_lst (l := [.tup [.int 2, .cell a], .tup [.int 3, .cell q]]) (h1 := h) (by simp)]
  rw [loopW_T2']
  simp only [List.set]
  rw [d1]
  show loopW _ _ _ _ _ = _
  rw [loopW_T2']
  simp only [List.set]
  rw [d2]
  rfl
end
end K07
namespace K07
open PySem hiding Loc
open MR
theorem bin2s {f : W → W → Hq → Rs} {m1 m2 : M} {L : Loc} {h h1 : Hq} {w u : W} (e1 : m1 L h = .ok w h1) (e2 : m2 L h1 = .ok u h1) : mBin f m1 m2 L h = f w u h1 := bin2 e1 e2
theorem pass_e {L : Loc} {h : Hq} : sPass L h = .nx L h := by simp
structure PP (sc : W) (p : Nat) (L : Loc) (h : Hq) : Prop where
  loc : ∃ x1 x3 x4 x5 x6 x7 x8 x9 x10 x11 x12 x13 x14 : Option W, L = [some sc, x1, some (.cell p), x3, x4, x5, x6, x7, x8, x9, x10, x11, x12, x13, x14]
  pool : ∃ x y : Int, h[p]? = some (.lst [.int x, .int y])
theorem give2 (s : S) : (giveS (giveS s).1).2 = .n := by
  obtain ⟨so, st, i, gv, bt⟩ := s
  cases so <;> cases st <;> rfl
theorem kept_e {L : Loc} {h : Hq} {a : Nat} {s : S} (l6 : L[6]? = some (some (.cell a))) (ha : h[a]? = some (insS s)) : (mLst (mCons (mMeth tb_manner (mVar 6) mNil) (mCons (mMeth tb_state (mVar 6) mNil) (mCons (mMeth tb_end (mVar 6) mNil) (mCons (mMeth tb_beats (mVar 6) mNil) (mNil)))))) L h = .ok (.lst (kept s)) h := by
  have v : mVar 6 L h = .ok (.cell a) h := by simp [l6]
  have e1 := (meth0 (tb := tb_manner) v ha rfl).trans (manner_ok ha)
  have e2 := (meth0 (tb := tb_state) v ha rfl).trans (state_is ha)
  have e3 := (meth0 (tb := tb_end) v ha rfl).trans (end_is ha)
  have e4 := (meth0 (tb := tb_beats) v ha rfl).trans (beats_is ha)
  simp [↓e1, ↓e2, ↓e3, ↓e4, kept]
def due : Bool → W
  | true => .lst [.str [115, 117, 114, 101], .str [117, 112]]
  | false => .lst [.str [117, 112]]
theorem due_e {so : Bool} {L : Loc} {h : Hq} (l5 : L[5]? = some (some (.str (srt so)))) : (mBin fIdx (mLst (mCons (mLst (mCons (mC (.str [115, 117, 114, 101])) (mCons (mC (.str [117, 112])) (mNil)))) (mCons (mLst (mCons (mC (.str [117, 112])) (mNil))) (mNil)))) (mBlt bInt (mCons (mBin fEq (mVar 5) (mC (.str [111, 116, 104, 101, 114]))) (mNil)))) L h = .ok (due so) h := by
  cases so <;> simp [l5, srt, due]
theorem askerK_e {so : Bool} {L : Loc} {h : Hq} (l5 : L[5]? = some (some (.str (srt so)))) : (mMakeK 22 2 1 1 [0, 1] m_Asker___init__ [] mNil (mCons (mVar 5) (mNil))) L h = .ok (.cell h.length) (h ++ [insS (s0 so)]) := mk0 (ws := [.str (srt so)]) (by simp [l5]) rfl rfl make_new
theorem askedK_e {so : Bool} {L : Loc} {h : Hq} (l5 : L[5]? = some (some (.str (srt so)))) : (mMakeK 23 2 1 1 [0, 1] m_Asked___init__ [] mNil (mCons (mVar 5) (mNil))) L h = .ok (.cell h.length) (h ++ [B.insS (B.s0 so)]) := mk0 (ws := [.str (srt so)]) (by simp [l5]) rfl rfl (by
  have := B.make_new (h := h) (so := so)
  rw [srt_B] at this
  exact this)
theorem say_new {so : Bool} {L : Loc} {h : Hq} (l5 : L[5]? = some (some (.str (srt so)))) : ∃ x, (mBin fNe (mMethK 23 2 1 [0, 1] m_Asked_say [] (mMakeK 23 2 1 1 [0, 1] m_Asked___init__ [] mNil (mCons (mVar 5) (mNil))) (mCons (mC (.str [110, 111])) (mNil))) (mLst (mCons (mC (.str [115, 97, 121])) (mNil)))) L h = .ok (.bl false) (h ++ x) := by
  have e1 := askedK_e (L := L) (h := h) l5
  have ok : B.okW (B.s0 so).so .no = true := by cases so <;> rfl
  have e2 := B.say_ok (h := h ++ [B.insS (B.s0 so)]) (a := h.length) (s := B.s0 so) (w := .no) hnew ok
  have e3 := mkM (c := 23) (n := 2) (nk := 1) (idx := [0, 1]) (mw := []) (f := m_Asked_say) (mk := mCons (mC (.str [110, 111])) (mNil)) (ws := [.str [110, 111]]) e1 (fs := B.fS (B.s0 so)) hnew (by simp) rfl rfl e2
  have e4 : (h ++ [B.insS (B.s0 so)]).set h.length (B.insS (B.sayS (B.s0 so) .no).1) = h ++ [B.insS (B.sayS (B.s0 so) .no).1] := by simp
  rw [e4] at e3
  have e5 : (B.sayS (B.s0 so) .no).2 = true := rfl
  rw [e5] at e3
  refine ⟨[B.insS (B.sayS (B.s0 so) .no).1, .lst (B.sayL true)], ?_⟩
  rw [bin2s (u := .lst [.str [115, 97, 121]]) e3 (by simp)]
  have e6 : ∀ g : Hq, g[(h ++ [B.insS (B.s0 so)]).length]? = some (.lst (B.sayL true)) → fNe (.cell (h ++ [B.insS (B.s0 so)]).length) (.lst [.str [115, 97, 121]]) g = .ok (.bl false) g := fun g hg => fNe_same (d := .list [.str (sV [115, 97, 121])]) (by rw [toD_cell hg]; rfl) rfl
  have e7 := e6 (h ++ [B.insS (B.sayS (B.s0 so) .no).1] ++ [.lst (B.sayL true)]) (by simp)
  rw [e7]
  simp
theorem hear_new {so : Bool} {L : Loc} {h : Hq} (l5 : L[5]? = some (some (.str (srt so)))) (l13 : L[13]? = some (some (due so))) : ∃ h', (mBin (fNeA tbE) (mMethK 22 2 1 [0, 1] m_Asker_hear [] (mMakeK 22 2 1 1 [0, 1] m_Asker___init__ [] mNil (mCons (mVar 5) (mNil))) (mCons (mC (.str [110, 111])) (mNil))) (mVar 13)) L h = .ok (.bl false) h' ∧ ∀ b c, b < h.length → h[b]? = some c → h'[b]? = some c := by
  have e1 := askerK_e (L := L) (h := h) l5
  have hw : okW (s0 so).so .no = true := by cases so <;> rfl
  obtain ⟨n, h', e2, D⟩ := hear_ok (h := h ++ [insS (s0 so)]) (a := h.length) (s := s0 so) (w := .no) (by cases so <;> rfl) hnew hw
  have e3 := mkM (c := 22) (n := 2) (nk := 1) (idx := [0, 1]) (mw := []) (f := m_Asker_hear) (mk := mCons (mC (.str [110, 111])) (mNil)) (ws := [.str [110, 111]]) e1 (fs := fS (s0 so)) hnew (by simp) rfl rfl e2
  have e4 : fNeA tbE (.cell n) (due so) h' = .ok (.bl false) h' := by
    rw [fNeA_cell D.out (by cases so <;> rfl)]
    cases so with
    | true => exact fNe_same (d := .list [.str (sV [115, 117, 114, 101]), .str (sV [117, 112])]) (by rw [toD_cell D.out]; rfl) rfl
    | false => exact fNe_same (d := .list [.str (sV [117, 112])]) (by rw [toD_cell D.out]; rfl) rfl
  refine ⟨h', ?_, fun b c hb e => D.fr b c (by simp; omega) (happ e)⟩
  rw [bin2s (u := due so) e3 (by simp [l13]), e4]
theorem b5_ok {sc : W} {p : Nat} {L : Loc} {h : Hq} {so : Bool} (Z : PP sc p L h) : ∃ L' h', b_law_5 (L.set 5 (some (.str (srt so)))) h = .nx L' h' ∧ PP sc p L' h' := by
  obtain ⟨⟨x1, x3, x4, x5, x6, x7, x8, x9, x10, x11, x12, x13, x14, rfl⟩, ⟨x, y, hp⟩⟩ := Z
  obtain ⟨a, h1, s, u1, v1, e1, a1, oks, es, p1, F1, la⟩ := to_state_ok (so := so) hp
  -- the twin, the asked ones
  have e3 := twin_ok a1
  have a2 : (h1 ++ [insS s])[a]? = some (insS s) := happ a1
  have t2 : (h1 ++ [insS s])[h1.length]? = some (insS s) := hnew
  have p2 : (h1 ++ [insS s])[p]? = some (.lst [.int u1, .int v1]) := happ p1
  generalize h1.length = t at *
  generalize h1 ++ [insS s] = h2 at *
  have e4 : m_Asked___init__ [.cell h2.length, .str (srt so)] (h2 ++ [.ins 23 []]) = .ok .non (h2 ++ [B.insS (B.s0 so)]) := by
    have := B.make_new (h := h2) (so := so)
    rw [srt_B] at this; exact this
  have a3 : (h2 ++ [B.insS (B.s0 so)])[a]? = some (insS s) := happ a2
  have t3 : (h2 ++ [B.insS (B.s0 so)])[t]? = some (insS s) := happ t2
  have p3 : (h2 ++ [B.insS (B.s0 so)])[p]? = some (.lst [.int u1, .int v1]) := happ p2
  have q3 : (h2 ++ [B.insS (B.s0 so)])[h2.length]? = some (B.insS (B.s0 so)) := hnew
  have m4 : (mMake 23 2 m_Asked___init__ [] (mCons (mVar 5) (mNil))) [some sc, x1, some (.cell p), x3, x4, some (.str (srt so)), some (.cell a), some (.lst (kept s)), some (.cell t), x9, x10, x11, x12, x13, x14] h2 = .ok (.cell h2.length) (h2 ++ [B.insS (B.s0 so)]) := by simp [e4]
  generalize h2.length = q at *
  generalize h2 ++ [B.insS (B.s0 so)] = h3 at *
  have e5 : m_Asked___init__ [.cell h3.length, .str (srt so)] (h3 ++ [.ins 23 []]) = .ok .non (h3 ++ [B.insS (B.s0 so)]) := by
    have := B.make_new (h := h3) (so := so)
    rw [srt_B] at this; exact this
  have a4 : (h3 ++ [B.insS (B.s0 so)])[a]? = some (insS s) := happ a3
  have t4 : (h3 ++ [B.insS (B.s0 so)])[t]? = some (insS s) := happ t3
  have p4 : (h3 ++ [B.insS (B.s0 so)])[p]? = some (.lst [.int u1, .int v1]) := happ p3
  have q4 : (h3 ++ [B.insS (B.s0 so)])[q]? = some (B.insS (B.s0 so)) := happ q3
  have r4 : (h3 ++ [B.insS (B.s0 so)])[h3.length]? = some (B.insS (B.s0 so)) := hnew
  have qr : q ≠ h3.length := by have := hlt q3; omega
  have m5 : (mMake 23 2 m_Asked___init__ [] (mCons (mVar 5) (mNil))) [some sc, x1, some (.cell p), x3, x4, some (.str (srt so)), some (.cell a), some (.lst (kept s)), some (.cell t), some (.cell q), x10, x11, x12, x13, x14] h3 = .ok (.cell h3.length) (h3 ++ [B.insS (B.s0 so)]) := by simp [e5]
  generalize h3.length = r at *
  generalize h3 ++ [B.insS (B.s0 so)] = h4 at *
  have Z4 : Q sc so p a t q r s [some sc, x1, some (.cell p), x3, x4, some (.str (srt so)), some (.cell a), some (.lst (kept s)), some (.cell t), some (.cell q), some (.cell r), x11, x12, x13, x14] h4 := ⟨⟨_, _, _, _, _, _, _, rfl⟩, a4, t4, ⟨_, rfl, q4, r4⟩, qr, _, _, p4⟩
  obtain ⟨j, u5, v5, j0, j1, e6⟩ := take_ok p4 (many := 3) (by decide) (by decide)
  have Z5 := Z4.draw (x := u5) (y := v5)
  have m6 : (mCons (mCall 2 m__law_take [] (mCons (mVar 2) (mCons (mC (.int 3)) (mNil)))) (mNil)) [some sc, x1, some (.cell p), x3, x4, some (.str (srt so)), some (.cell a), some (.lst (kept s)), some (.cell t), some (.cell q), some (.cell r), x11, x12, x13, x14] h4 = .ok (.tup [.int j]) (h4.set p (.lst [.int u5, .int v5])) := by
    have := (mcall2 (f := m__law_take) (m1 := mVar 2) (m2 := mC (.int 3)) (L := [some sc, x1, some (.cell p), x3, x4, some (.str (srt so)), some (.cell a), some (.lst (kept s)), some (.cell t), some (.cell q), some (.cell r), x11, x12, x13, x14]) (by simp) (by simp)).trans e6
    simp [↓this]
  generalize h4.set p (.lst [.int u5, .int v5]) = h5 at *
  obtain ⟨L6, h6, e7, Z6⟩ := loopW_invV (i := 11) (s := b_law_2) (P := Q sc so p a t q r s) (V := fun _ => True) (fun w L h v P => by
    obtain ⟨h', e, P'⟩ := (P.set11 (w := w)).no
    exact ⟨_, h', .inl e, P'⟩) (rangeW 0 j.toNat) _ h5 (fun _ _ => trivial) Z5
  have hj : -4611686018427387904 ≤ j ∧ j < 4611686018427387904 := by omega
  have m7 : (sForR1 (mCons (mCall 2 m__law_take [] (mCons (mVar 2) (mCons (mC (.int 3)) (mNil)))) (mNil)) (tgN 11) (b_law_2)) [some sc, x1, some (.cell p), x3, x4, some (.str (srt so)), some (.cell a), some (.lst (kept s)), some (.cell t), some (.cell q), some (.cell r), x11, x12, x13, x14] h4 = .nx L6 h6 := by
    rw [sForR1_ap, m6]
    simp [hj, e7]
  -- words that are none
  have L6l := Z6.loc
  obtain ⟨y1, y3, y4, y11, y12, y13, y14, rfl⟩ := L6l
  obtain ⟨u6, v6, p6⟩ := Z6.pool
  obtain ⟨l, h7, d, u7, v7, e8, hl, d7, p7, F7, ld⟩ := odd_words_ok (so := so) p6
  have Z7 := Z6.frp F7 p7
  have m8 : (mCall 2 m__law_odd_words [] (mCons (mVar 2) (mCons (mVar 5) (mNil)))) [some sc, y1, some (.cell p), y3, y4, some (.str (srt so)), some (.cell a), some (.lst (kept s)), some (.cell t), some (.cell q), some (.cell r), y11, y12, y13, y14] h6 = .ok (.lst l) h7 := (mcall2 (by simp) (by simp)).trans e8
  obtain ⟨L8, h8, e9, Z8, d8⟩ := loopW_invV (i := 12) (s := b_law_4) (P := fun L h => Q sc so p a t q r s L h ∧ h[d]? = some (.dk false [])) (V := fun w => ∃ z, WordBad so d w z) (fun w L h ⟨z, v⟩ ⟨P, hd⟩ => by
    obtain ⟨L', h', e, P'⟩ := P.bad es v hd
    exact ⟨_, h', .inl e, P'⟩) l _ h7 hl ⟨Z7, d7⟩
  have m9 := (forQ_lst (mt := tgN 12) (s := b_law_4) m8).trans e9
  obtain ⟨z1, z3, z4, z11, z12, z13, z14, rfl⟩ := Z8.loc
  obtain ⟨-, a8, t8, ⟨bs, ebs, q8, r8⟩, -, u8, v8, p8⟩ := Z8
  -- alike
  have m10 : (sIf (mBin fNe (mLst (mCons (mMeth tb_manner (mVar 6) mNil) (mCons (mMeth tb_state (mVar 6) mNil) (mCons (mMeth tb_end (mVar 6) mNil) (mCons (mMeth tb_beats (mVar 6) mNil) (mNil)))))) (mVar 7)) (sRet (mC (.bl false))) (sPass)) [some sc, z1, some (.cell p), z3, z4, some (.str (srt so)), some (.cell a), some (.lst (kept s)), some (.cell t), some (.cell q), some (.cell r), z11, z12, z13, z14] h8 = .nx [some sc, z1, some (.cell p), z3, z4, some (.str (srt so)), some (.cell a), some (.lst (kept s)), some (.cell t), some (.cell q), some (.cell r), z11, z12, z13, z14] h8 := by
    rw [if_F (h' := h8)]
    · simp
    · rw [bin2s (u := .lst (kept s)) (kept_e (by simp) a8) (by simp), kept_ne]
  have c1 := eqA_ok a8 t8
  rw [eqS_self] at c1
  have q9 : (h8 ++ [Cell.lst (pts s), .lst (pts s)])[q]? = some (B.insS bs) := happ q8
  have r9 : (h8 ++ [Cell.lst (pts s), .lst (pts s)])[r]? = some (B.insS bs) := happ r8
  have a9 : (h8 ++ [Cell.lst (pts s), .lst (pts s)])[a]? = some (insS s) := happ a8
  have p9 : (h8 ++ [Cell.lst (pts s), .lst (pts s)])[p]? = some (.lst [.int u8, .int v8]) := happ p8
  generalize h8 ++ [Cell.lst (pts s), .lst (pts s)] = h9 at *
  obtain ⟨xx, c2⟩ := B.same_ne q9 r9
  have a10 : (h9 ++ xx)[a]? = some (insS s) := happ a9
  have p10 : (h9 ++ xx)[p]? = some (.lst [.int u8, .int v8]) := happ p9
  generalize h9 ++ xx = h10 at *
  have m11 : (sIf (mOrT (mNotT (mBin (fEqA tbE) (mVar 6) (mVar 8))) (mBin (fNeA tbE) (mVar 9) (mVar 10))) (sRet (mC (.bl false))) (sPass)) [some sc, z1, some (.cell p), z3, z4, some (.str (srt so)), some (.cell a), some (.lst (kept s)), some (.cell t), some (.cell q), some (.cell r), z11, z12, z13, z14] h8 = .nx [some sc, z1, some (.cell p), z3, z4, some (.str (srt so)), some (.cell a), some (.lst (kept s)), some (.cell t), some (.cell q), some (.cell r), z11, z12, z13, z14] h10 := by
    rw [if_F (h' := h10)]
    · simp
    · rw [or_F (h' := h9)]
      · rw [bin2 (w := .cell q) (u := .cell r) (h1 := h9) (h2 := h9) (by simp) (by simp), c2]
      · have : (mBin (fEqA tbE) (mVar 6) (mVar 8)) [some sc, z1, some (.cell p), z3, z4, some (.str (srt so)), some (.cell a), some (.lst (kept s)), some (.cell t), some (.cell q), some (.cell r), z11, z12, z13, z14] h8 = .ok (.bl true) h9 := by
          rw [bin2 (w := .cell a) (u := .cell t) (h1 := h8) (h2 := h8) (by simp) (by simp), c1]
        simp [↓this]
  -- given up
  have g1 := give_ok a10
  have pa : a ≠ p := ne_of a10 p10 (by simp [insS])
  have a11 : (h10.set a (insS (giveS s).1) ++ [.lst (giveS s).2.l])[a]? = some (insS (giveS s).1) := happ (hset_self a10)
  have p11 : (h10.set a (insS (giveS s).1) ++ [.lst (giveS s).2.l])[p]? = some (.lst [.int u8, .int v8]) := happ (by rw [hset_ne pa]; exact p10)
  have m12 : (sExpr (mMeth tb_give_up (mVar 6) mNil)) [some sc, z1, some (.cell p), z3, z4, some (.str (srt so)), some (.cell a), some (.lst (kept s)), some (.cell t), some (.cell q), some (.cell r), z11, z12, z13, z14] h10 = .nx [some sc, z1, some (.cell p), z3, z4, some (.str (srt so)), some (.cell a), some (.lst (kept s)), some (.cell t), some (.cell q), some (.cell r), z11, z12, z13, z14] (h10.set a (insS (giveS s).1) ++ [.lst (giveS s).2.l]) := by
    have := (meth0 (mv := mVar 6) (tb := tb_give_up) (L := [some sc, z1, some (.cell p), z3, z4, some (.str (srt so)), some (.cell a), some (.lst (kept s)), some (.cell t), some (.cell q), some (.cell r), z11, z12, z13, z14]) (by simp) a10 rfl).trans g1
    simp [↓this]
  generalize h10.set a (insS (giveS s).1) ++ [.lst (giveS s).2.l] = h11 at *
  have m13 : (sSet 13 (mBin fIdx (mLst (mCons (mLst (mCons (mC (.str [115, 117, 114, 101])) (mCons (mC (.str [117, 112])) (mNil)))) (mCons (mLst (mCons (mC (.str [117, 112])) (mNil))) (mNil)))) (mBlt bInt (mCons (mBin fEq (mVar 5) (mC (.str [111, 116, 104, 101, 114]))) (mNil))))) [some sc, z1, some (.cell p), z3, z4, some (.str (srt so)), some (.cell a), some (.lst (kept s)), some (.cell t), some (.cell q), some (.cell r), z11, z12, z13, z14] h11 = .nx [some sc, z1, some (.cell p), z3, z4, some (.str (srt so)), some (.cell a), some (.lst (kept s)), some (.cell t), some (.cell q), some (.cell r), z11, z12, some (due so), z14] h11 := by
    rw [sSet_ap, due_e (so := so) rfl]; rfl
  obtain ⟨xs, c3⟩ := say_new (so := so) (L := [some sc, z1, some (.cell p), z3, z4, some (.str (srt so)), some (.cell a), some (.lst (kept s)), some (.cell t), some (.cell q), some (.cell r), z11, z12, some (due so), z14]) (h := h11) rfl
  have a12 : (h11 ++ xs)[a]? = some (insS (giveS s).1) := happ a11
  have p12 : (h11 ++ xs)[p]? = some (.lst [.int u8, .int v8]) := happ p11
  have m14 := (if_F (s1 := sRet (mC (.bl false))) (s2 := sPass) c3).trans pass_e
  generalize h11 ++ xs = h12 at *
  have g2 := give_ok a12
  rw [give2] at g2
  have a13 : (h12.set a (insS (giveS (giveS s).1).1) ++ [.lst (O.n).l])[h12.length]? = some (.lst (O.n).l) := by
    have : h12.length = (h12.set a (insS (giveS (giveS s).1).1)).length := by simp
    rw [this]; exact hnew
  have p13 : (h12.set a (insS (giveS (giveS s).1).1) ++ [.lst (O.n).l])[p]? = some (.lst [.int u8, .int v8]) := happ (by rw [hset_ne pa]; exact p12)
  have c4 : (mBin fNe (mMeth tb_give_up (mVar 6) mNil) (mLst (mNil))) [some sc, z1, some (.cell p), z3, z4, some (.str (srt so)), some (.cell a), some (.lst (kept s)), some (.cell t), some (.cell q), some (.cell r), z11, z12, some (due so), z14] h12 = .ok (.bl false) (h12.set a (insS (giveS (giveS s).1).1) ++ [.lst (O.n).l]) := by
    rw [bin2s (u := .lst []) ((meth0 (mv := mVar 6) (tb := tb_give_up) (by simp) a12 rfl).trans g2) (by simp)]
    exact fNe_same (d := .list []) (by rw [toD_cell a13]; rfl) rfl
  generalize h12.set a (insS (giveS (giveS s).1).1) ++ [.lst (O.n).l] = h13 at *
  obtain ⟨h14, c5, F14⟩ := hear_new (so := so) (L := [some sc, z1, some (.cell p), z3, z4, some (.str (srt so)), some (.cell a), some (.lst (kept s)), some (.cell t), some (.cell q), some (.cell r), z11, z12, some (due so), z14]) (h := h13) rfl rfl
  have p14 : h14[p]? = some (.lst [.int u8, .int v8]) := F14 _ _ (hlt p13) p13
  have c6 := (or_F c4).trans c5
  have m15 := (if_F (s1 := sRet (mC (.bl false))) (s2 := sPass) c6).trans pass_e
  refine ⟨[some sc, z1, some (.cell p), z3, z4, some (.str (srt so)), some (.cell a), some (.lst (kept s)), some (.cell t), some (.cell q), some (.cell r), z11, z12, some (due so), z14], h14, ?_, ⟨_, _, _, _, _, _, _, _, _, _, _, _, _, rfl⟩, u8, v8, p14⟩
  show b_law_5 [some sc, x1, some (.cell p), x3, x4, some (.str (srt so)), x6, x7, x8, x9, x10, x11, x12, x13, x14] h = _
  unfold b_law_5
  rw [seq_nx (show sSet 6 _ [some sc, x1, some (.cell p), x3, x4, some (.str (srt so)), x6, x7, x8, x9, x10, x11, x12, x13, x14] h = .nx [some sc, x1, some (.cell p), x3, x4, some (.str (srt so)), some (.cell a), x7, x8, x9, x10, x11, x12, x13, x14] h1 by
    rw [sSet_ap, (mcall2 (by simp) (by simp)).trans e1]; rfl)]
  rw [seq_nx (show sSet 7 _ _ h1 = .nx [some sc, x1, some (.cell p), x3, x4, some (.str (srt so)), some (.cell a), some (.lst (kept s)), x8, x9, x10, x11, x12, x13, x14] h1 by
    rw [sSet_ap, kept_e rfl a1]; rfl)]
  rw [seq_nx (show sSet 8 _ _ h1 = .nx [some sc, x1, some (.cell p), x3, x4, some (.str (srt so)), some (.cell a), some (.lst (kept s)), some (.cell t), x9, x10, x11, x12, x13, x14] h2 by
    rw [sSet_ap, (meth0 (mv := mVar 6) (tb := tb_twin) (by simp) a1 rfl).trans e3]; rfl)]
  rw [seq_nx (show sSet 9 _ _ h2 = .nx [some sc, x1, some (.cell p), x3, x4, some (.str (srt so)), some (.cell a), some (.lst (kept s)), some (.cell t), some (.cell q), x10, x11, x12, x13, x14] h3 by
    rw [sSet_ap, m4]; rfl)]
  rw [seq_nx (show sSet 10 _ _ h3 = .nx [some sc, x1, some (.cell p), x3, x4, some (.str (srt so)), some (.cell a), some (.lst (kept s)), some (.cell t), some (.cell q), some (.cell r), x11, x12, x13, x14] h4 by
    rw [sSet_ap, m5]; rfl)]
  rw [seq_nx m7, seq_nx m9, seq_nx m10, seq_nx m11, seq_nx m12, seq_nx m13, seq_nx m14]
  exact m15
theorem b6_ok {ns : List Int} {k : Int} {L : Loc} {h : Hq} (k0 : 0 ≤ k) (k1 : k < 64) (P : PO (.rol (ns.map W.int)) L h) : ∃ L' h', b_law_6 (L.set 1 (some (.int k))) h = .nx L' h' ∧ PO (.rol (ns.map W.int)) L' h' := by
  obtain ⟨x1, x2, x3, x4, x5, x6, x7, x8, x9, x10, x11, x12, x13, x14, rfl⟩ := P
  obtain ⟨x, y, e1⟩ := pool_ok (h := h) (ns := ns) k0 k1
  have e2 := odd_e (L := [some (.rol (ns.map W.int)), some (.int k), some (.cell h.length), x3, x4, x5, x6, x7, x8, x9, x10, x11, x12, x13, x14]) (h := h ++ [.lst [.int x, .int y]])
  have hp1 : (h ++ [Cell.lst [.int x, .int y]] ++ [Cell.dk false []])[h.length]? = some (.lst [.int x, .int y]) := happ hnew
  have hd1 : (h ++ [Cell.lst [.int x, .int y]] ++ [Cell.dk false []])[(h ++ [Cell.lst [.int x, .int y]]).length]? = some (.dk false []) := hnew
  have pd : h.length ≠ (h ++ [Cell.lst [.int x, .int y]]).length := by simp
  have m1 : sSet 2 (mCall 2 m__law_pool [] (mCons (mVar 0) (mCons (mVar 1) (mNil)))) [some (.rol (ns.map W.int)), some (.int k), x2, x3, x4, x5, x6, x7, x8, x9, x10, x11, x12, x13, x14] h = .nx [some (.rol (ns.map W.int)), some (.int k), some (.cell h.length), x3, x4, x5, x6, x7, x8, x9, x10, x11, x12, x13, x14] (h ++ [.lst [.int x, .int y]]) := by
    rw [sSet_ap, (mcall2 (by simp) (by simp)).trans e1]; rfl
  generalize (h ++ [Cell.lst [.int x, .int y]]).length = d at *
  generalize h ++ [Cell.lst [.int x, .int y]] ++ [Cell.dk false []] = h1 at *
  generalize h ++ [Cell.lst [.int x, .int y]] = h01 at *
  generalize h.length = p at *
  obtain ⟨w, a1, b1, w0, w1, e3⟩ := take_ok hp1 (many := 11) (by decide) (by decide)
  obtain ⟨v, z, ev, D⟩ := pick_odd (d := d) w0 w1
  have hp2 : (h1.set p (.lst [.int a1, .int b1]))[p]? = some (.lst [.int a1, .int b1]) := hset_self hp1
  have hd2 : (h1.set p (.lst [.int a1, .int b1]))[d]? = some (.dk false []) := by rw [hset_ne pd]; exact hd1
  generalize h1.set p (.lst [.int a1, .int b1]) = h2 at *
  have m2 : sSet 3 (mBin fIdx (mLst (mCons (mC .non) (mCons (mC (.int 0)) (mCons (mC (.bl true)) (mCons (mC (.str [])) (mCons (mC (.str [82, 105, 110, 103])) (mCons (mC (.str [114, 105, 110, 103, 32])) (mCons (mC (.str [110, 111])) (mCons (mLst (mCons (mC (.str [114, 105, 110, 103])) (mNil))) (mCons (mTup (mCons (mC (.str [111, 116, 104, 101, 114])) (mNil))) (mCons (mDict0) (mCons (mBin fPow (mC (.int 10)) (mC (.int 20))) (mNil))))))))))))) (mCall 2 m__law_take [] (mCons (mVar 2) (mCons (mC (.int 11)) (mNil))))) [some (.rol (ns.map W.int)), some (.int k), some (.cell p), x3, x4, x5, x6, x7, x8, x9, x10, x11, x12, x13, x14] h01 = .nx [some (.rol (ns.map W.int)), some (.int k), some (.cell p), some v, x4, x5, x6, x7, x8, x9, x10, x11, x12, x13, x14] h2 := by
    rw [sSet_ap, bin2 e2 (show (mCall 2 m__law_take [] (mCons (mVar 2) (mCons (mC (.int 11)) (mNil)))) _ h1 = _ from (mcall2 (by simp) (by simp)).trans e3), ev]
    rfl
  -- both doors
  have one : ∀ (j : Int) (y4 : Option W) (g : Hq), (j = 0 ∨ j = 1) → g[d]? = some (.dk false []) → ∃ u, b_law_1 [some (.rol (ns.map W.int)), some (.int k), some (.cell p), some v, some (.int j), x5, x6, x7, x8, x9, x10, x11, x12, x13, x14] g = .nx [some (.rol (ns.map W.int)), some (.int k), some (.cell p), some v, some (.int j), x5, x6, x7, x8, x9, x10, x11, x12, x13, x14] (g ++ u) := by
    intro j y4 g c hd
    obtain ⟨u, c1⟩ : ∃ u, m__law_none [.int j, .non, v] g = .ok (.lst [.bl true, .bl false, .bl true, .str z]) (g ++ u) := by
      rcases c with rfl | rfl
      · exact ⟨_, D.door0 hd⟩
      · exact ⟨_, D.door1 hd⟩
    have c2 := D.re (g ++ u) (happ hd)
    have c3 := quad_ne (b1 := true) (b2 := false) (b3 := true) D.os (g ++ u)
    refine ⟨u, ?_⟩
    simp [b_law_1, ↓c1, c1, ↓c2, c2, ↓c3, c3]
  obtain ⟨u1, d1⟩ := one 0 x4 h2 (.inl rfl) hd2
  obtain ⟨u2, d2⟩ := one 1 x4 (h2 ++ u1) (.inr rfl) (happ hd2)
  have m3 : sForR1 (mCons (mC (.int 2)) (mNil)) (tgN 4) (b_law_1) [some (.rol (ns.map W.int)), some (.int k), some (.cell p), some v, x4, x5, x6, x7, x8, x9, x10, x11, x12, x13, x14] h2 = .nx [some (.rol (ns.map W.int)), some (.int k), some (.cell p), some v, some (.int 1), x5, x6, x7, x8, x9, x10, x11, x12, x13, x14] (h2 ++ u1 ++ u2) := by
    have lw : loopW (tgN 4) b_law_1 [.int 0, .int 1] [some (.rol (ns.map W.int)), some (.int k), some (.cell p), some v, x4, x5, x6, x7, x8, x9, x10, x11, x12, x13, x14] h2 = .nx [some (.rol (ns.map W.int)), some (.int k), some (.cell p), some v, some (.int 1), x5, x6, x7, x8, x9, x10, x11, x12, x13, x14] (h2 ++ u1 ++ u2) := by
      rw [loopW_N]
      simp only [List.set]
      rw [d1]
      show loopW _ _ _ _ _ = _
      rw [loopW_N]
      simp only [List.set]
      rw [d2]
      rfl
    rw [sForR1_ap]
    have e : (mCons (mC (.int 2)) (mNil)) [some (.rol (ns.map W.int)), some (.int k), some (.cell p), some v, x4, x5, x6, x7, x8, x9, x10, x11, x12, x13, x14] h2 = .ok (.tup [.int 2]) h2 := by simp
    rw [e]
    have e' : rangeW 0 2 = [.int 0, .int 1] := rfl
    simp [e', lw]
  have Z0 : PP (.rol (ns.map W.int)) p [some (.rol (ns.map W.int)), some (.int k), some (.cell p), some v, some (.int 1), x5, x6, x7, x8, x9, x10, x11, x12, x13, x14] (h2 ++ u1 ++ u2) := ⟨⟨_, _, _, _, _, _, _, _, _, _, _, _, _, rfl⟩, _, _, happ (happ hp2)⟩
  obtain ⟨L5, h5, e5, Z5⟩ := loopW_invV (i := 5) (s := b_law_5) (P := PP (.rol (ns.map W.int)) p) (V := fun w => ∃ so, w = .str (srt so)) (fun w L h ⟨so, ew⟩ P => by
    subst ew
    obtain ⟨L', h', e, P'⟩ := b5_ok (so := so) P
    exact ⟨L', h', .inl e, P'⟩) [.str [114, 105, 110, 103], .str [111, 116, 104, 101, 114]] _ _ (fun w hw => by
      simp only [List.mem_cons, List.not_mem_nil, or_false] at hw
      rcases hw with rfl | rfl
      · exact ⟨true, rfl⟩
      · exact ⟨false, rfl⟩) Z0
  obtain ⟨⟨w1', w3, w4, w5, w6, w7, w8, w9, w10, w11, w12, w13, w14, rfl⟩, -⟩ := Z5
  refine ⟨[some (.rol (ns.map W.int)), w1', some (.cell p), w3, w4, w5, w6, w7, w8, w9, w10, w11, w12, w13, w14], h5, ?_, ⟨_, _, _, _, _, _, _, _, _, _, _, _, _, _, rfl⟩⟩
  show b_law_6 [some (.rol (ns.map W.int)), some (.int k), x2, x3, x4, x5, x6, x7, x8, x9, x10, x11, x12, x13, x14] h = _
  unfold b_law_6
  rw [seq_nx m1, seq_nx m2, seq_nx m3]
  rw [forQ_lst (l := [.str [114, 105, 110, 103], .str [111, 116, 104, 101, 114]]) (h1 := h2 ++ u1 ++ u2) (by simp)]
  exact e5
theorem law_ok (ns : List Int) : ∃ h', m_law [.rol (ns.map W.int)] [] = .ok (.bl true) h' := law_of fun k L h k0 k1 P => b6_ok k0 k1 P
end K07
open PyProof.Rows PySem.Calls PySem.W PySem
theorem PySem.Challenge.cw_ringingcalls_k07_askers_refuse_holds : PySem.Challenge.rw_ringingcalls_k07_askers_refuse.Holds := by
  w_on; o_law
  refine HandSHeadRun.head_any (r := OpenLaw.row PySem.Challenge.rw_ringingcalls_k07_askers_refuse) (q := view (OpenLaw.row PySem.Challenge.rw_ringingcalls_k07_askers_refuse).prog [24]) (H := K07.hkx) (ob := K07.ob) (M := 6000) (loose := K07.loose)
    (d := HandSHeadRun.topDef (OpenLaw.row PySem.Challenge.rw_ringingcalls_k07_askers_refuse).prog 24) (kwd := []) K07.ob_eq (by kernel_rfl) (fun s => by kernel_rfl) K07.run (by kernel_rfl) (by kernel_rfl) (by kernel_rfl) (by rfl)
    (by first | assumption | decide +kernel) (by decide +kernel) ⟨rfl, rfl, rfl, rfl, rfl, by decide +kernel⟩ ?hw ?hc
  case hw => w_witness2
  case hc =>
    refine MR.walk_ofG (l := PySem.Challenge.rw_ringingcalls_k07_askers_refuse) (n := 63) (k := 7) (x := "_law_script") rfl (by decide) (by kernel_rfl) ⟨rfl, by decide, by decide⟩ ?F
    intro w mg fa h Y G hmg
    obtain ⟨K, KX, c⟩ := Y
    have t : K07.Tx w K mg := ⟨c.t, c.more, h, KX, G⟩
    have nm : (HandSHeadRun.topDef (OpenLaw.row PySem.Challenge.rw_ringingcalls_k07_askers_refuse).prog 24).name = ("law" : PySem.Str) := by kernel_rfl
    rw [nm] at hmg
    have ef := hmg.symm.trans t.glo_law
    cases ef
    obtain ⟨fd, F⟩ := t.d.def_ 41 (d := K07.d_law) rfl
    have b := L2.FunD.bindsA (ps := ["_law_script"]) F fun _ _ _ _ _ _ us hl => match us, hl with
      | [_], _ => rfl
    exact ⟨K, fd, fun vs H Q _ => MR.spM (K07.gm K) 1 K07.m_law vs H Q fun _ _ _ => False, KX, fun s v => b s [v] rfl, fun H a ns S => MR.law_sp (g := K07.gm K) (f := K07.m_law) S (K07.law_ok ns), fun base _ _ => MR.law_cx0G (K07.fn_law t F)⟩
