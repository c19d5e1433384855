import PyProof.Rows.All
import Wide.All
import OpenK.AllK
import Wide.FinOn
import HandS.ForMost
import HandS.ForExc
import HandS.Wide
import HandS.WideMore
import HandS.WideBits
import HandS.Deep
import HandS.SortOrd
import HandS.Small
import HandS.Flow
import KE.KeyNested
import KE.SortData
import KE.DataMinMax
import KE.DataFind
import KE.DataEq
import KE.DataIsa
import KE.DataAny
import KE.DataCmp
import PyProof.DictRoadsH
import PyProof.DictMoreH
import HandS.TupAny
import HandS.TupMul
import HandS.Style
import HandS.Iter
import KE.KTupSum
import HandS.TupLen
import HandS.ExcOwn
import HandS.TryOnly
import HandS.TryMany
import HandS.More
import HandS.WordsExc
import HandS.TupSets
import HandS.SetFor
import HandS.EndBits
import PySem.Challenge.RW_turnsum_k26_whole_bars_bitten_to_the_end
set_option Elab.async false
set_option linter.all false
set_option maxRecDepth 100000
namespace J
open PySem PySem.Spec PyProof.Rows L2

/-! ## values, stores -/
inductive D where
  | non | bl (b : Bool) | int (i : Int) | str (x : Str) | tup (l : List D) | lst (l : List D) | ref (a : Addr) | scr (l : List Int)

inductive O where
  | lst (l : List D)
  /-- a dict whose keys are ints and texts; one whose keys are tuples -/
  | dct (l : List (D × D)) | dcT (l : List (D × D))
abbrev Store := Addr → Option O
def put (S : Store) (p : Addr) (o : O) : Store := fun q => if q = p then some o else S q
def del (S : Store) (p : Addr) : Store := fun q => if q = p then none else S q
theorem put_same {S : Store} {p : Addr} {o : O} : put S p o p = some o := if_pos rfl
theorem put_ne {S : Store} {p q : Addr} {o : O} (h : q ≠ p) : put S p o q = S q := if_neg h
theorem del_same {S : Store} {p : Addr} : del S p p = none := if_pos rfl
theorem del_ne {S : Store} {p q : Addr} (h : q ≠ p) : del S p q = S q := if_neg h
/-- S holds no more than S' -/
def Sub (S S' : Store) : Prop := ∀ p o, S p = some o → S' p = some o
theorem Sub.refl (S : Store) : Sub S S := fun _ _ h => h
theorem Sub.trans {A B C : Store} (h : Sub A B) (k : Sub B C) : Sub A C := fun p o e => k p o (h p o e)
theorem Sub.put {S S' : Store} {p : Addr} {o : O} (h : Sub S S') (n : S p = none) : Sub S (J.put S' p o) := fun q u e => by
  rw [put_ne (by rintro rfl; rw [n] at e; cases e)]; exact h q u e

/-- the script: a list of ints from outside, locked or written -/
def Scr (K : PySem.W.Frag) (H : Hp) (a : Addr) (l : List Int) : Prop := (∃ o, H a = some (.frz o (.lst (l.map V.int)))) ∨
  ∃ (o : Obj) (its : Array Value) (n : Nat), K.lookup a = some o ∧ o.cls = .type "list" ∧ o.dict = none ∧ o.data = .seq its n ∧ its.size ≤ sizeLine ∧ Vals (l.map V.int) its.toList
theorem Scr.sq {K : PySem.W.Frag} {H : Hp} {a : Addr} {l : List Int} (h : Scr K H a l) : SqL K H a (l.map V.int) := h.elim (fun x => .inl (.inr x)) .inr
/-- lists that nobody writes any more (true), lists that are set aside for a while (false) -/
abbrev Fz := Addr → Option Bool
def fz1 (F : Fz) (p : Addr) (b : Bool) : Fz := fun a => if a = p then some b else F a
theorem fz1_same {F : Fz} {p : Addr} {b : Bool} : fz1 F p b p = some b := if_pos rfl
theorem fz1_ne {F : Fz} {p q : Addr} {b : Bool} (h : q ≠ p) : fz1 F p b q = F q := if_neg h
section
variable (K : PySem.W.Frag) (H : Hp) (F : Fz)
mutual
/-- the datum d lies at the value v -/
def Rp : D → V → Prop
  | .non, v => v = .non
  | .bl b, v => v = .bl b
  | .int i, v => v = .int i
  | .str x, v => v = .str x
  | .tup l, v => ∃ a vs, v = .ref a ∧ SqT K H a vs ∧ RpAll l vs
  | .lst l, v => ∃ a vs, v = .ref a ∧ (F a = some true ∧ H a = some (.lst vs)) ∧ RpAll l vs
  | .ref a, v => v = .ref a
  | .scr l, v => ∃ a, v = .ref a ∧ Scr K H a l
def RpAll : List D → List V → Prop
  | [], vs => vs = []
  | d :: ds, vs => ∃ w ws, vs = w :: ws ∧ Rp d w ∧ RpAll ds ws
end
end

structure Ext (H : Hp) (F : Fz) (H' : Hp) (F' : Fz) : Prop where
  f : ∀ a b, F a = some b → F' a = some b
  l : ∀ a b, F a = some b → H' a = H a
  t : ∀ a xs, H a = some (.tup xs) → H' a = some (.tup xs)
  z : ∀ a o u, H a = some (.frz o u) → H' a = some (.frz o u)
theorem Ext.refl (H : Hp) (F : Fz) : Ext H F H F := ⟨fun _ _ h => h, fun _ _ _ => rfl, fun _ _ h => h, fun _ _ _ h => h⟩
theorem Ext.trans {H H1 H2 : Hp} {F F1 F2 : Fz} (a : Ext H F H1 F1) (b : Ext H1 F1 H2 F2) : Ext H F H2 F2 :=
  ⟨fun x c h => b.f x c (a.f x c h), fun x c h => (b.l x c (a.f x c h)).trans (a.l x c h), fun x xs h => b.t x xs (a.t x xs h), fun x o u h => b.z x o u (a.z x o u h)⟩
section
variable {K : PySem.W.Frag} {H H' : Hp} {F F' : Fz}
theorem Ext.sqT (e : Ext H F H' F') {a : Addr} {vs : List V} (h : SqT K H a vs) : SqT K H' a vs := by
  rcases h with (h | ⟨o, h⟩) | h
  · exact .inl (.inl (e.t _ _ h))
  · exact .inl (.inr ⟨o, e.z _ _ _ h⟩)
  · exact .inr h
theorem Ext.scr (e : Ext H F H' F') {a : Addr} {l : List Int} (h : Scr K H a l) : Scr K H' a l := h.elim (fun ⟨o, x⟩ => .inl ⟨o, e.z _ _ _ x⟩) .inr
theorem Ext.fz (e : Ext H F H' F') {a : Addr} {vs : List V} (h : F a = some true ∧ H a = some (.lst vs)) : F' a = some true ∧ H' a = some (.lst vs) := ⟨e.f _ _ h.1, (e.l _ _ h.1).trans h.2⟩
mutual
theorem Ext.rp (e : Ext H F H' F') : ∀ {d : D} {v : V}, Rp K H F d v → Rp K H' F' d v
  | .non, _, h => h
  | .bl _, _, h => h
  | .int _, _, h => h
  | .str _, _, h => h
  | .ref _, _, h => h
  | .scr _, _, h => by
    simp only [Rp] at h ⊢
    obtain ⟨a, e1, h1⟩ := h
    exact ⟨a, e1, e.scr h1⟩
  | .tup l, v, h => by
    simp only [Rp] at h ⊢
    obtain ⟨a, vs, e1, h1, h2⟩ := h
    exact ⟨a, vs, e1, e.sqT h1, e.rpAll h2⟩
  | .lst l, v, h => by
    simp only [Rp] at h ⊢
    obtain ⟨a, vs, e1, h1, h2⟩ := h
    exact ⟨a, vs, e1, e.fz h1, e.rpAll h2⟩
theorem Ext.rpAll (e : Ext H F H' F') : ∀ {ds : List D} {vs : List V}, RpAll K H F ds vs → RpAll K H' F' ds vs
  | [], _, h => h
  | d :: ds, vs, h => by
    simp only [RpAll] at h ⊢
    obtain ⟨w, ws, e1, h1, h2⟩ := h
    exact ⟨w, ws, e1, e.rp h1, e.rpAll h2⟩
end
theorem RpAll.nil : RpAll K H F [] [] := by simp only [RpAll]
theorem RpAll.cons {d : D} {ds : List D} {v : V} {vs : List V} (h : Rp K H F d v) (t : RpAll K H F ds vs) : RpAll K H F (d :: ds) (v :: vs) := by
  simp only [RpAll]; exact ⟨v, vs, rfl, h, t⟩
theorem RpAll.len : ∀ {ds : List D} {vs : List V}, RpAll K H F ds vs → vs.length = ds.length
  | [], _, h => by simp only [RpAll] at h; rw [h]; rfl
  | d :: ds, vs, h => by
    simp only [RpAll] at h
    obtain ⟨w, ws, rfl, _, h2⟩ := h
    simp [RpAll.len h2]
theorem RpAll.app : ∀ {ds es : List D} {vs ws : List V}, RpAll K H F ds vs → RpAll K H F es ws → RpAll K H F (ds ++ es) (vs ++ ws)
  | [], _, _, _, h, k => by simp only [RpAll] at h; subst h; exact k
  | d :: ds, es, vs, ws, h, k => by
    simp only [RpAll] at h
    obtain ⟨w, vr, rfl, h1, h2⟩ := h
    exact RpAll.cons h1 (RpAll.app h2 k)
theorem RpAll.get : ∀ {ds : List D} {vs : List V} {i : Nat} {d : D}, RpAll K H F ds vs → ds[i]? = some d → ∃ v, vs[i]? = some v ∧ Rp K H F d v
  | [], _, _, _, _, e => by simp at e
  | d :: ds, vs, i, x, h, e => by
    simp only [RpAll] at h
    obtain ⟨w, vr, rfl, h1, h2⟩ := h
    cases i with
    | zero => simp at e; subst e; exact ⟨w, rfl, h1⟩
    | succ i => simp at e; obtain ⟨v, e1, r⟩ := RpAll.get h2 e; exact ⟨v, by simpa using e1, r⟩
theorem RpAll.getV : ∀ {ds : List D} {vs : List V} {i : Nat} {v : V}, RpAll K H F ds vs → vs[i]? = some v → ∃ d, ds[i]? = some d ∧ Rp K H F d v := fun {ds vs i v} h e => by
  obtain ⟨hi, _⟩ := List.getElem?_eq_some_iff.mp e
  rw [RpAll.len h] at hi
  obtain ⟨v', e1, r⟩ := RpAll.get h (List.getElem?_eq_getElem hi)
  rw [e] at e1; cases e1
  exact ⟨_, List.getElem?_eq_getElem hi, r⟩
theorem RpAll.set : ∀ {ds : List D} {vs : List V} (i : Nat) {d : D} {v : V}, RpAll K H F ds vs → Rp K H F d v → RpAll K H F (ds.set i d) (vs.set i v)
  | [], _, _, _, _, h, _ => by simp only [RpAll] at h; subst h; exact RpAll.nil
  | x :: ds, vs, i, d, v, h, r => by
    simp only [RpAll] at h
    obtain ⟨w, vr, rfl, h1, h2⟩ := h
    cases i with
    | zero => exact RpAll.cons r h2
    | succ i => exact RpAll.cons h1 (RpAll.set i h2 r)
theorem RpAll.take : ∀ (n : Nat) {ds : List D} {vs : List V}, RpAll K H F ds vs → RpAll K H F (ds.take n) (vs.take n)
  | 0, _, _, _ => by simp only [List.take_zero]; exact RpAll.nil
  | n + 1, [], _, h => by simp only [RpAll] at h; subst h; simp only [List.take_nil]; exact RpAll.nil
  | n + 1, d :: ds, vs, h => by
    simp only [RpAll] at h
    obtain ⟨w, vr, rfl, h1, h2⟩ := h
    simp only [List.take_succ_cons]
    exact RpAll.cons h1 (RpAll.take n h2)
theorem RpAll.drop : ∀ (n : Nat) {ds : List D} {vs : List V}, RpAll K H F ds vs → RpAll K H F (ds.drop n) (vs.drop n)
  | 0, _, _, h => h
  | n + 1, [], _, h => by simp only [RpAll] at h; subst h; simp only [List.drop_nil]; exact RpAll.nil
  | n + 1, d :: ds, vs, h => by
    simp only [RpAll] at h
    obtain ⟨w, vr, rfl, h1, h2⟩ := h
    simp only [List.drop_succ_cons]
    exact RpAll.drop n h2
theorem RpAll.ints : ∀ {ns : List Int} {vs : List V}, RpAll K H F (ns.map D.int) vs → vs = ns.map V.int
  | [], _, h => by simpa only [List.map_nil, RpAll] using h
  | n :: ns, vs, h => by
    simp only [List.map_cons, RpAll] at h
    obtain ⟨w, vr, rfl, h1, h2⟩ := h
    simp only [Rp] at h1
    rw [h1, RpAll.ints h2]; rfl
theorem RpAll.bls : ∀ {ns : List Bool} {vs : List V}, RpAll K H F (ns.map D.bl) vs → vs = ns.map V.bl
  | [], _, h => by simpa only [List.map_nil, RpAll] using h
  | n :: ns, vs, h => by
    simp only [List.map_cons, RpAll] at h
    obtain ⟨w, vr, rfl, h1, h2⟩ := h
    simp only [Rp] at h1
    rw [h1, RpAll.bls h2]; rfl
theorem RpAll.of_ints : ∀ {ns : List Int}, RpAll K H F (ns.map D.int) (ns.map V.int)
  | [] => RpAll.nil
  | _ :: _ => RpAll.cons (by simp only [Rp]) RpAll.of_ints
end

/-! ## data -/
mutual
def toPy : D → PyData
  | .non => .none
  | .bl b => .bool b
  | .int i => .int i
  | .str x => .str x
  | .tup l => .tuple (toPys l)
  | .lst l => .list (toPys l)
  | .ref _ => .none
  | .scr _ => .none
def toPys : List D → List PyData
  | [] => []
  | d :: ds => toPy d :: toPys ds
end
mutual
/-- no address within, texts in order, at most n deep -/
def shp : Nat → D → Bool
  | _, .non => true
  | _, .bl _ => true
  | _, .int _ => true
  | _, .str _ => true
  | 0, .tup _ => false
  | 0, .lst _ => false
  | n + 1, .tup l => shps n l
  | n + 1, .lst l => shps n l
  | _, .ref _ => false
  | _, .scr _ => false
def shps : Nat → List D → Bool
  | _, [] => true
  | n, d :: ds => shp n d && shps n ds
end
mutual
/-- Python's == -/
def eqv : D → D → Bool
  | .non, .non => true
  | .bl a, .bl b => a == b
  | .bl a, .int b => b2i a == b
  | .int a, .bl b => a == b2i b
  | .int a, .int b => a == b
  | .str a, .str b => a == b
  | .tup a, .tup b => eqvs a b
  | .lst a, .lst b => eqvs a b
  | _, _ => false
def eqvs : List D → List D → Bool
  | [], [] => true
  | a :: as, b :: bs => eqv a b && eqvs as bs
  | _, _ => false
end
mutual
/-- as a key -/
def toNK : D → NestedKey
  | .non => .none
  | .bl b => .num (b2i b)
  | .int i => .num i
  | .str x => .text x
  | .tup l => .tup (toNKs l)
  | .lst _ => .none
  | .ref _ => .none
  | .scr _ => .none
def toNKs : List D → List NestedKey
  | [] => []
  | d :: ds => toNK d :: toNKs ds
end
mutual
/-- may be a key: no list, no address -/
def keyd : Nat → D → Bool
  | _, .non => true
  | _, .bl _ => true
  | _, .int _ => true
  | _, .str _ => true
  | 0, .tup _ => false
  | n + 1, .tup l => keyds n l
  | _, .lst _ => false
  | _, .ref _ => false
  | _, .scr _ => false
def keyds : Nat → List D → Bool
  | _, [] => true
  | n, d :: ds => keyd n d && keyds n ds
end
def scK : D → Option Key
  | .int i => some (.inl i)
  | .str x => some (.inr x)
  | _ => none
/-- a dict's value at a key -/
def look (l : List (D × D)) (k : D) : Option D := (l.find? fun p => eqv p.1 k).map (·.2)
def look? (l : List (D × D)) (k : D) : Bool := (look l k).isSome
/-- d[k] = v -/
def putD (l : List (D × D)) (k v : D) : List (D × D) := if (look l k).isSome then l.map (fun p => if eqv p.1 k then (p.1, v) else p) else l ++ [(k, v)]

/-- a dict whose keys are tuples, at a -/
def dNO (P : Program) (w : World) (a : Addr) (xs : List (NestedKey × Addr × V)) : HO := .ext fun h => (a == sysModules) = false ∧ xs.length ≤ sizeLine ∧
  ∃ ys : List (NestedKey × Addr × Value), Paired (fun (p : NestedKey × Addr × V) (q : NestedKey × Addr × Value) => p.1 = q.1 ∧ p.2.1 = q.2.1 ∧ RelV p.2.2 q.2.2) xs ys ∧
    ∃ o es ep, h.get? a = some o ∧ o.ExactDict ∧ o.data = .dict es ep ∧ es.toList = ys.map (entryOfKey (nestedKind P w)) ∧ (ys.map (·.1)).Nodup
/-- scalars as keys -/
def KvR (K : PySem.W.Frag) (H : Hp) (F : Fz) : List (D × D) → List (Key × V) → Prop
  | [], ks => ks = []
  | (d, e) :: l, ks => ∃ k v r, ks = (k, v) :: r ∧ scK d = some k ∧ Rp K H F e v ∧ KvR K H F l r
def NvR (K : PySem.W.Frag) (H : Hp) (F : Fz) : List (D × D) → List (NestedKey × Addr × V) → Prop
  | [], ks => ks = []
  | (d, e) :: l, ks => ∃ a v r ds, ks = (toNK d, a, v) :: r ∧ d = .tup ds ∧ keyd 8 d = true ∧ Rp K H F d (.ref a) ∧ Rp K H F e v ∧ NvR K H F l r
/-- where one stands: the program, its world, the written part, the own error classes -/
structure Cl where
  of : String → Addr
  /-- the ground: what a def's frame knows of the heap since its entry -/
  gr : Hp → Fz → Prop
  gx : ∀ {H : Hp} {F : Fz} {H' : Hp} {F' : Fz}, gr H F → Ext H F H' F' → gr H' F'
structure Ct where
  P : Program
  w : World
  K : PySem.W.Frag
  cl : Cl
def ObR (C : Ct) (H : Hp) (F : Fz) (a : Addr) : O → HO → Prop
  | .lst l, u => ∃ vs, u = .lst vs ∧ RpAll C.K H F l vs
  | .dct l, u => ∃ ks, u = .dK ks ∧ KvR C.K H F l ks
  | .dcT l, u => ∃ xs, u = dNO C.P C.w a xs ∧ NvR C.K H F l xs
theorem KvR.ext {K : PySem.W.Frag} {H H' : Hp} {F F' : Fz} (e : Ext H F H' F') : ∀ {l : List (D × D)} {ks : List (Key × V)}, KvR K H F l ks → KvR K H' F' l ks
  | [], _, h => h
  | (d, x) :: l, ks, h => by
    obtain ⟨k, v, r, e1, e2, e3, h⟩ := h
    exact ⟨k, v, r, e1, e2, e.rp e3, KvR.ext e h⟩
theorem NvR.ext {K : PySem.W.Frag} {H H' : Hp} {F F' : Fz} (e : Ext H F H' F') : ∀ {l : List (D × D)} {ks : List (NestedKey × Addr × V)}, NvR K H F l ks → NvR K H' F' l ks
  | [], _, h => h
  | (d, x) :: l, ks, h => by
    obtain ⟨a, v, r, ds, e1, e2, e3, e4, e5, h⟩ := h
    exact ⟨a, v, r, ds, e1, e2, e3, e.rp e4, e.rp e5, NvR.ext e h⟩
theorem ObR.ext {C : Ct} {H H' : Hp} {F F' : Fz} (e : Ext H F H' F') {a : Addr} {o : O} {u : HO} (h : ObR C H F a o u) : ObR C H' F' a o u := by
  cases o with
  | lst l => obtain ⟨vs, e1, h⟩ := h; exact ⟨vs, e1, e.rpAll h⟩
  | dct l => obtain ⟨ks, e1, h⟩ := h; exact ⟨ks, e1, h.ext e⟩
  | dcT l => obtain ⟨ks, e1, h⟩ := h; exact ⟨ks, e1, h.ext e⟩
theorem ObR.mut {C : Ct} {H : Hp} {F : Fz} {a : Addr} {o : O} {u : HO} (h : ObR C H F a o u) : (∀ xs, u ≠ .tup xs) ∧ ∀ ob x, u ≠ .frz ob x := by
  cases o with
  | lst l => obtain ⟨vs, rfl, _⟩ := h; exact ⟨fun _ q => (nomatch q), fun _ _ q => (nomatch q)⟩
  | dct l => obtain ⟨ks, rfl, h⟩ := h; exact ⟨fun _ q => (nomatch q), fun _ _ q => (nomatch q)⟩
  | dcT l => obtain ⟨xs, rfl, h⟩ := h; exact ⟨fun _ q => (nomatch q), fun _ _ q => (nomatch q)⟩

structure Sim (C : Ct) (H : Hp) (F : Fz) (S : Store) : Prop where
  o : ∀ p o, S p = some o → F p = none ∧ ∃ u, H p = some u ∧ ObR C H F p o u
  f : ∀ p b, F p = some b → ∃ vs, H p = some (.lst vs)
  g : C.cl.gr H F
section
variable {C : Ct} {H H' : Hp} {F F' : Fz} {S S' : Store}
theorem Sim.sub (m : Sim C H F S) (h : Sub S' S) : Sim C H F S' := ⟨fun p o e => m.o p o (h p o e), m.f, m.g⟩
theorem Sim.free (m : Sim C H F S) {p : Addr} (h : H p = none) : S p = none := by
  cases q : S p with
  | none => rfl
  | some o => obtain ⟨_, u, e, _⟩ := m.o p o q; rw [h] at e; cases e
theorem Sim.nf (m : Sim C H F S) {p : Addr} (h : H p = none) : F p = none := by
  cases q : F p with
  | none => rfl
  | some b => obtain ⟨vs, e⟩ := m.f p b q; rw [h] at e; cases e
theorem fne {F : Fz} {p q : Addr} {b : Bool} (h : F q = some b) (n : F p = none) : q ≠ p := by rintro rfl; rw [n] at h; cases h
/-- a new object that is not frozen -/
theorem Sim.ext_new (m : Sim C H F S) {p : Addr} (h : H p = none) (u : HO) : Ext H F (upd H p u) F :=
  ⟨fun _ _ f => f, fun a b f => upd_ne (fne f (m.nf h)), fun a xs e => by rw [upd_ne (ne_of_none e h)]; exact e, fun a o x e => by rw [upd_ne (ne_of_none e h)]; exact e⟩
theorem Sim.new (m : Sim C H F S) {p : Addr} (h : H p = none) (u : HO) : Sim C (upd H p u) F S :=
  ⟨fun q o e => by
    obtain ⟨a, x, b, c⟩ := m.o q o e
    exact ⟨a, x, by rw [upd_ne (ne_of_none b h)]; exact b, c.ext (m.ext_new h u)⟩, fun q b f => by
    obtain ⟨vs, e⟩ := m.f q b f
    exact ⟨vs, by rw [upd_ne (ne_of_none e h)]; exact e⟩, C.cl.gx m.g (m.ext_new h u)⟩
/-- .. tracked in the store -/
theorem Sim.new_put (m : Sim C H F S) {p : Addr} (h : H p = none) {u : HO} {o : O} (r : ObR C (upd H p u) F p o u) : Sim C (upd H p u) F (put S p o) :=
  ⟨fun q x e => by
    by_cases hq : q = p
    · subst hq; rw [put_same] at e; cases e
      exact ⟨m.nf h, u, upd_same, r⟩
    · rw [put_ne hq] at e; exact (m.new h u).o q x e, (m.new h u).f, (m.new h u).g⟩
/-- a new frozen list; one that is set aside -/
theorem Sim.ext_fz (m : Sim C H F S) {p : Addr} (h : H p = none) (u : HO) (b : Bool) : Ext H F (upd H p u) (fz1 F p b) :=
  ⟨fun _ _ f => by rw [fz1_ne (fne f (m.nf h))]; exact f, (m.ext_new h u).l, (m.ext_new h u).t, (m.ext_new h u).z⟩
theorem Sim.fz (m : Sim C H F S) {p : Addr} (h : H p = none) (vs : List V) (b : Bool) : Sim C (upd H p (.lst vs)) (fz1 F p b) S :=
  ⟨fun q o e => by
    obtain ⟨a, x, e1, c⟩ := m.o q o e
    have hq := ne_of_none e1 h
    exact ⟨by rw [fz1_ne hq]; exact a, x, by rw [upd_ne hq]; exact e1, c.ext (m.ext_fz h _ b)⟩, fun q c f => by
    by_cases hq : q = p
    · subst hq; exact ⟨vs, upd_same⟩
    · rw [fz1_ne hq] at f
      obtain ⟨vs, e⟩ := m.f q c f
      exact ⟨vs, by rw [upd_ne hq]; exact e⟩, C.cl.gx m.g (m.ext_fz h _ b)⟩
theorem Sim.ext_frz (m : Sim C H F S) {p : Addr} (h : H p = none) (u : HO) : Ext H F (upd H p u) (fz1 F p true) := m.ext_fz h u true
theorem Sim.frz (m : Sim C H F S) {p : Addr} (h : H p = none) (vs : List V) : Sim C (upd H p (.lst vs)) (fz1 F p true) S := m.fz h vs true
/-- a tracked object is written -/
theorem Sim.ext_put (m : Sim C H F S) {p : Addr} {o : O} (h : S p = some o) (u : HO) : Ext H F (upd H p u) F := by
  obtain ⟨a, x, b, c⟩ := m.o p o h
  refine ⟨fun _ _ f => f, fun q c f => upd_ne (fne f a), fun q xs e => ?_, fun q ob y e => ?_⟩
  · rw [upd_ne (by rintro rfl; rw [b] at e; cases e; exact c.mut.1 _ rfl)]; exact e
  · rw [upd_ne (by rintro rfl; rw [b] at e; cases e; exact c.mut.2 _ _ rfl)]; exact e
theorem Sim.put (m : Sim C H F S) {p : Addr} {o o' : O} {u : HO} (h : S p = some o) (r : ObR C (upd H p u) F p o' u) : Sim C (upd H p u) F (J.put S p o') :=
  ⟨fun q x e => by
    by_cases hq : q = p
    · subst hq; rw [put_same] at e; cases e
      exact ⟨(m.o _ _ h).1, u, upd_same, r⟩
    · rw [put_ne hq] at e
      obtain ⟨a, y, b, c⟩ := m.o q x e
      exact ⟨a, y, by rw [upd_ne hq]; exact b, c.ext (m.ext_put h u)⟩, fun q b f => by
    obtain ⟨vs, e⟩ := m.f q b f
    exact ⟨vs, by rw [upd_ne (fne f (m.o _ _ h).1)]; exact e⟩, C.cl.gx m.g (m.ext_put h u)⟩
/-- a tracked list is written no more -/
theorem Sim.freeze (m : Sim C H F S) {p : Addr} {l : List D} (h : S p = some (.lst l)) :
    ∃ vs, H p = some (.lst vs) ∧ RpAll C.K H (fz1 F p true) l vs ∧ Ext H F H (fz1 F p true) ∧ Sim C H (fz1 F p true) (J.del S p) := by
  obtain ⟨a, x, b, vs, rfl, r⟩ := m.o p _ h
  have ex : Ext H F H (fz1 F p true) := ⟨fun _ _ f => by rw [fz1_ne (fne f a)]; exact f, fun _ _ _ => rfl, fun _ _ e => e, fun _ _ _ e => e⟩
  refine ⟨vs, b, ex.rpAll r, ex, fun q o e => ?_, fun q c f => ?_, C.cl.gx m.g ex⟩
  · by_cases hq : q = p
    · subst hq; rw [J.del_same] at e; cases e
    · rw [J.del_ne hq] at e
      obtain ⟨a', y, b', c'⟩ := m.o q o e
      exact ⟨by rw [fz1_ne hq]; exact a', y, b', c'.ext ex⟩
  · by_cases hq : q = p
    · subst hq; exact ⟨vs, b⟩
    · rw [fz1_ne hq] at f; exact m.f q c f
/-! a list that was set aside, and is no more -/
def fz0 (F : Fz) (p : Addr) : Fz := fun a => if a = p then none else F a
theorem fz0_same {F : Fz} {p : Addr} : fz0 F p p = none := if_pos rfl
theorem fz0_ne {F : Fz} {p q : Addr} (h : q ≠ p) : fz0 F p q = F q := if_neg h
mutual
theorem rp_weak {K : PySem.W.Frag} {H : Hp} {F F' : Fz} (k : ∀ a, F a = some true → F' a = some true) : ∀ {d : D} {v : V}, Rp K H F d v → Rp K H F' d v
  | .non, _, h => h
  | .bl _, _, h => h
  | .int _, _, h => h
  | .str _, _, h => h
  | .ref _, _, h => h
  | .scr _, _, h => h
  | .tup l, v, h => by
    simp only [Rp] at h ⊢
    obtain ⟨a, vs, e1, h1, h2⟩ := h
    exact ⟨a, vs, e1, h1, rps_weak k h2⟩
  | .lst l, v, h => by
    simp only [Rp] at h ⊢
    obtain ⟨a, vs, e1, h1, h2⟩ := h
    exact ⟨a, vs, e1, ⟨k a h1.1, h1.2⟩, rps_weak k h2⟩
theorem rps_weak {K : PySem.W.Frag} {H : Hp} {F F' : Fz} (k : ∀ a, F a = some true → F' a = some true) : ∀ {ds : List D} {vs : List V}, RpAll K H F ds vs → RpAll K H F' ds vs
  | [], _, h => h
  | d :: ds, vs, h => by
    simp only [RpAll] at h ⊢
    obtain ⟨w, ws, e1, h1, h2⟩ := h
    exact ⟨w, ws, e1, rp_weak k h1, rps_weak k h2⟩
end
theorem kv_weak {K : PySem.W.Frag} {H : Hp} {F F' : Fz} (k : ∀ a, F a = some true → F' a = some true) : ∀ {l : List (D × D)} {ks : List (Key × V)}, KvR K H F l ks → KvR K H F' l ks
  | [], _, h => h
  | (d, x) :: l, ks, h => by
    obtain ⟨a, v, r, e1, e2, e3, h⟩ := h
    exact ⟨a, v, r, e1, e2, rp_weak k e3, kv_weak k h⟩
theorem nv_weak {K : PySem.W.Frag} {H : Hp} {F F' : Fz} (k : ∀ a, F a = some true → F' a = some true) : ∀ {l : List (D × D)} {ks : List (NestedKey × Addr × V)}, NvR K H F l ks → NvR K H F' l ks
  | [], _, h => h
  | (d, x) :: l, ks, h => by
    obtain ⟨a, v, r, ds, e1, e2, e3, e4, e5, h⟩ := h
    exact ⟨a, v, r, ds, e1, e2, e3, rp_weak k e4, rp_weak k e5, nv_weak k h⟩
theorem ob_weak {H : Hp} {F F' : Fz} (k : ∀ a, F a = some true → F' a = some true) {a : Addr} {o : O} {u : HO} (h : ObR C H F a o u) : ObR C H F' a o u := by
  cases o with
  | lst l => obtain ⟨vs, e1, h⟩ := h; exact ⟨vs, e1, rps_weak k h⟩
  | dct l => obtain ⟨vs, e1, h⟩ := h; exact ⟨vs, e1, kv_weak k h⟩
  | dcT l => obtain ⟨vs, e1, h⟩ := h; exact ⟨vs, e1, nv_weak k h⟩
theorem Sim.guard (m : Sim C H F S) {p : Addr} (h : F p = none) (hs : S p = none) {ws : List V} (hw : H p = some (.lst ws)) : Sim C H (fz1 F p false) S ∧ Ext H F H (fz1 F p false) := by
  have k : ∀ a, F a = some true → fz1 F p false a = some true := fun a f => by rw [fz1_ne (fne f h)]; exact f
  have ex : Ext H F H (fz1 F p false) := ⟨fun a b f => by rw [fz1_ne (fne f h)]; exact f, fun _ _ _ => rfl, fun _ _ e => e, fun _ _ _ e => e⟩
  refine ⟨⟨fun q o e => ?_, fun q b f => ?_, C.cl.gx m.g ex⟩, ex⟩
  · obtain ⟨a, x, b, c⟩ := m.o q o e
    exact ⟨by rw [fz1_ne (by rintro rfl; rw [hs] at e; cases e)]; exact a, x, b, ob_weak k c⟩
  · by_cases hq : q = p
    · subst hq; exact ⟨ws, hw⟩
    · rw [fz1_ne hq] at f; exact m.f q b f
theorem Ext.grow (m : Sim C H F S) {p : Addr} (h : F p = some false) (vs : List V) : Ext H (fz0 F p) (upd H p (.lst vs)) (fz0 F p) := by
  obtain ⟨ws, hw⟩ := m.f p false h
  refine ⟨fun _ _ f => f, fun a b f => ?_, fun a xs e => by rw [upd_ne (ne_of e hw (fun z => nomatch z))]; exact e, fun a o x e => by rw [upd_ne (ne_of e hw (fun z => nomatch z))]; exact e⟩
  by_cases ha : a = p
  · subst ha; rw [fz0_same] at f; cases f
  · exact upd_ne ha
theorem fz0_weak {p : Addr} (h : F p = some false) : ∀ a, F a = some true → fz0 F p a = some true := fun a f => by
  rw [fz0_ne (by rintro rfl; rw [h] at f; cases f)]; exact f
theorem Sim.grow (m : Sim C H F S) {p : Addr} (h : F p = some false) (vs : List V) (hg : C.cl.gr (upd H p (.lst vs)) (fz0 F p)) : Sim C (upd H p (.lst vs)) (fz0 F p) S := by
  refine ⟨fun q o e => ?_, fun q b f => ?_, hg⟩
  · obtain ⟨a, x, b, c⟩ := m.o q o e
    have hq : q ≠ p := by rintro rfl; rw [h] at a; cases a
    exact ⟨by rw [fz0_ne hq]; exact a, x, by rw [upd_ne hq]; exact b, (ob_weak (fz0_weak h) c).ext (Ext.grow m h vs)⟩
  · by_cases hq : q = p
    · subst hq; rw [fz0_same] at f; cases f
    · rw [fz0_ne hq] at f
      obtain ⟨ws, e⟩ := m.f q b f
      exact ⟨ws, by rw [upd_ne hq]; exact e⟩
/-- another ground -/
theorem Sim.to {C' : Ct} (m : Sim C H F S) (hg : C'.cl.gr H F) (hP : C'.P = C.P) (hw : C'.w = C.w) (hK : C'.K = C.K) : Sim C' H F S := by
  obtain ⟨P, w, K, cl⟩ := C
  obtain ⟨P', w', K', cl'⟩ := C'
  obtain rfl : P' = P := hP
  obtain rfl : w' = w := hw
  obtain rfl : K' = K := hK
  refine ⟨fun p o e => ?_, m.f, hg⟩
  obtain ⟨a, u, b, c⟩ := m.o p o e
  exact ⟨a, u, b, by cases o <;> exact c⟩
end
end J
set_option Elab.async false
set_option linter.all false
set_option maxRecDepth 100000
namespace J
open PySem PySem.Spec L2

/-! ## readings over data -/
abbrev Sg := List (Option D)
abbrev QE := D → Store → Prop
abbrev WE := Sg → Store → QE → Prop
abbrev WT := Sg → Store → (Bool → Store → Prop) → Prop
abbrev WA := Sg → Store → (List D → Store → Prop) → Prop
structure En where
  nx : Sg → Store → Prop
  rt : QE
  bk : Sg → Store → Prop := fun _ _ => False
  ct : Sg → Store → Prop := fun _ _ => False
abbrev WS := En → Sg → Store → Prop
/-- what is wished of an exception -/
abbrev XD := Sg → String → Store → Prop
abbrev CallW := List D → Store → QE → (String → Store → Prop) → Prop

def orF {α : Type} : Option α → (α → Prop) → Prop
  | some a, k => k a
  | none, _ => False
theorem orF_some {α : Type} {a : α} {k : α → Prop} : orF (some a) k = k a := rfl
theorem orF_none {α : Type} {k : α → Prop} : orF none k = False := rfl
theorem orF_iff {α : Type} {o : Option α} {k : α → Prop} : orF o k ↔ ∃ a, o = some a ∧ k a := by
  cases o with
  | none => exact ⟨fun h => h.elim, fun ⟨_, e, _⟩ => nomatch e⟩
  | some a => exact ⟨fun h => ⟨a, rfl, h⟩, fun ⟨b, e, h⟩ => by cases e; exact h⟩
def getS (g : Sg) (i : Nat) : Option D := (g[i]?).join

def SgR (K : PySem.W.Frag) (H : Hp) (F : Fz) (g : Sg) (σ : St) : Prop := g.length = σ.length ∧ ∀ (i : Nat) (d : D), g[i]? = some (some d) → ∃ v, σ[i]? = some (some v) ∧ Rp K H F d v
theorem SgR.ext {K : PySem.W.Frag} {H H' : Hp} {F F' : Fz} {g : Sg} {σ : St} (r : SgR K H F g σ) (e : Ext H F H' F') : SgR K H' F' g σ :=
  ⟨r.1, fun i d h => let ⟨v, a, b⟩ := r.2 i d h; ⟨v, a, e.rp b⟩⟩
theorem SgR.set {K : PySem.W.Frag} {H : Hp} {F : Fz} {g : Sg} {σ : St} (r : SgR K H F g σ) (i : Nat) {d : D} {v : V} (h : Rp K H F d v) : SgR K H F (g.set i (some d)) (σ.set i (some v)) := by
  refine ⟨by simp [r.1], fun j x e => ?_⟩
  by_cases hj : i = j
  · subst hj
    by_cases hi : i < g.length
    · rw [List.getElem?_set_self hi] at e; cases e
      exact ⟨v, by rw [List.getElem?_set_self (by rw [← r.1]; exact hi)], h⟩
    · rw [List.getElem?_eq_none (by simp; omega)] at e; cases e
  · rw [List.getElem?_set_ne hj] at e
    obtain ⟨w, a, b⟩ := r.2 j x e
    exact ⟨w, by rw [List.getElem?_set_ne hj]; exact a, b⟩
theorem SgR.unset {K : PySem.W.Frag} {H : Hp} {F : Fz} {g : Sg} {σ : St} (r : SgR K H F g σ) (i : Nat) : SgR K H F (g.set i none) (σ.set i none) := by
  refine ⟨by simp [r.1], fun j x e => ?_⟩
  by_cases hj : i = j
  · subst hj
    by_cases hi : i < g.length
    · rw [List.getElem?_set_self hi] at e; cases e
    · rw [List.getElem?_eq_none (by simp; omega)] at e; cases e
  · rw [List.getElem?_set_ne hj] at e
    obtain ⟨w, a, b⟩ := r.2 j x e
    exact ⟨w, by rw [List.getElem?_set_ne hj]; exact a, b⟩
theorem getS_some {g : Sg} {i : Nat} {d : D} (h : getS g i = some d) : g[i]? = some (some d) := by
  unfold getS at h
  cases e : g[i]? with
  | none => rw [e] at h; cases h
  | some o => rw [e] at h; cases o with
    | none => cases h
    | some x => cases h; rfl
theorem SgR.get {K : PySem.W.Frag} {H : Hp} {F : Fz} {g : Sg} {σ : St} (r : SgR K H F g σ) {i : Nat} {d : D} (h : getS g i = some d) : ∃ v, σ[i]? = some (some v) ∧ Rp K H F d v := r.2 i d (getS_some h)

def tE (C : Ct) (w : WE) : TE := fun σ H Q => ∃ F S g Qd, Sim C H F S ∧ SgR C.K H F g σ ∧ w g S Qd ∧ ∀ d S' v H' F', Qd d S' → Ext H F H' F' → Sim C H' F' S' → Rp C.K H' F' d v → Q v H'
def tT (C : Ct) (w : WT) : TT := fun σ H Q => ∃ F S g Qd, Sim C H F S ∧ SgR C.K H F g σ ∧ w g S Qd ∧ ∀ b S' H' F', Qd b S' → Ext H F H' F' → Sim C H' F' S' → Q b H'
def tA (C : Ct) (w : WA) : TA := fun σ H Q => ∃ F S g Qd, Sim C H F S ∧ SgR C.K H F g σ ∧ w g S Qd ∧ ∀ ds S' vs H' F', Qd ds S' → Ext H F H' F' → Sim C H' F' S' → RpAll C.K H' F' ds vs → Q vs H'
def gTo (C : Ct) (H : Hp) (F : Fz) (q : Sg → Store → Prop) (Q : St → Hp → Prop) : Prop := ∀ g' S' σ' H' F', q g' S' → Ext H F H' F' → Sim C H' F' S' → SgR C.K H' F' g' σ' → Q σ' H'
def rTo (C : Ct) (H : Hp) (F : Fz) (q : QE) (Q : VK) : Prop := ∀ d S' v H' F', q d S' → Ext H F H' F' → Sim C H' F' S' → Rp C.K H' F' d v → Q v H'
theorem gTo.ext {C : Ct} {H H1 : Hp} {F F1 : Fz} {q : Sg → Store → Prop} {Q : St → Hp → Prop} (h : gTo C H F q Q) (e : Ext H F H1 F1) : gTo C H1 F1 q Q := fun g' S' σ' H' F' a b c d => h g' S' σ' H' F' a (e.trans b) c d
theorem rTo.ext {C : Ct} {H H1 : Hp} {F F1 : Fz} {q : QE} {Q : VK} (h : rTo C H F q Q) (e : Ext H F H1 F1) : rTo C H1 F1 q Q := fun g' S' σ' H' F' a b c d => h g' S' σ' H' F' a (e.trans b) c d
structure EnTo (C : Ct) (H : Hp) (F : Fz) (De : En) (E : Ends) : Prop where
  nx : gTo C H F De.nx E.nx
  rt : rTo C H F De.rt E.rt
  bk : gTo C H F De.bk E.bk
  ct : gTo C H F De.ct E.ct
theorem EnTo.ext {C : Ct} {H H1 : Hp} {F F1 : Fz} {De : En} {E : Ends} (h : EnTo C H F De E) (e : Ext H F H1 F1) : EnTo C H1 F1 De E := ⟨h.nx.ext e, h.rt.ext e, h.bk.ext e, h.ct.ext e⟩
def tS (C : Ct) (w : WS) : TS := fun E σ H => ∃ F S g De, Sim C H F S ∧ SgR C.K H F g σ ∧ w De g S ∧ EnTo C H F De E
def tX (C : Ct) (xd : XD) : WX := fun cls d σ H => ∃ F S g x, Sim C H F S ∧ SgR C.K H F g σ ∧ xd g x S ∧ cls = .ref (C.cl.of x) ∧ d = none
/-- targets -/
abbrev WG := D → Sg → Store → (Sg → Store → Prop) → Prop
abbrev WGs := List D → Sg → Store → (Sg → Store → Prop) → Prop
def tG (C : Ct) (w : WG) : TG := fun v σ H Q => ∃ F S g d Qd, Sim C H F S ∧ SgR C.K H F g σ ∧ Rp C.K H F d v ∧ w d g S Qd ∧ gTo C H F Qd Q
def tGs (C : Ct) (w : WGs) : TGs := fun vs σ H Q => ∃ F S g ds Qd, Sim C H F S ∧ SgR C.K H F g σ ∧ RpAll C.K H F ds vs ∧ w ds g S Qd ∧ gTo C H F Qd Q

abbrev Cof (X : Cx) (cl : Cl) : Ct := ⟨X.prog, X.w, X.K, cl⟩

theorem _root_.L2.PE.imp {X : Cx} {e : Expr} {t t' : TE} (h : PE X e t) (i : ∀ σ H Q, t' σ H Q → t σ H Q) : PE X e t' := ⟨fun pins s σ H Q I q => h.run pins s σ H Q I (i σ H Q q)⟩
theorem _root_.L2.PT.imp {X : Cx} {e : Expr} {t t' : TT} (h : PT X e t) (i : ∀ σ H Q, t' σ H Q → t σ H Q) : PT X e t' := ⟨fun pins s σ H Q I q => h.run pins s σ H Q I (i σ H Q q)⟩
theorem _root_.L2.PW.imp {X : Cx} {e : Expr} {t t' : TT} (h : PW X e t) (i : ∀ σ H Q, t' σ H Q → t σ H Q) : PW X e t' := ⟨fun wh pins s σ H Q I q => h.run wh pins s σ H Q I (i σ H Q q)⟩
theorem _root_.L2.PA.imp {X : Cx} {es : List Expr} {t t' : TA} (h : PA X es t) (i : ∀ σ H Q, t' σ H Q → t σ H Q) : PA X es t' := ⟨fun pos pins s σ H Q I q => h.run pos pins s σ H Q I (i σ H Q q)⟩
theorem _root_.L2.PS.imp {X : Cx} {e : Stmt} {t t' : TS} (h : PS X e t) (i : ∀ D σ H, t' D σ H → t D σ H) : PS X e t' := ⟨fun pins s σ H D I q => h.run pins s σ H D I (i D σ H q)⟩
theorem _root_.L2.PSs.imp {X : Cx} {e : List Stmt} {t t' : TS} (h : PSs X e t) (i : ∀ D σ H, t' D σ H → t D σ H) : PSs X e t' := ⟨fun pins s σ H D I q => h.run pins s σ H D I (i D σ H q)⟩
theorem _root_.L2.PG.imp {X : Cx} {e : Expr} {t t' : TG} (h : PG X e t) (i : ∀ v σ H Q, t' v σ H Q → t v σ H Q) : PG X e t' := ⟨fun pins s σ H v u Q I r q => h.run pins s σ H v u Q I r (i v σ H Q q)⟩
theorem _root_.L2.PGs.imp {X : Cx} {e : List Expr} {t t' : TGs} (h : PGs X e t) (i : ∀ v σ H Q, t' v σ H Q → t v σ H Q) : PGs X e t' := ⟨fun pins s σ H v u Q I r q => h.run pins s σ H v u Q I r (i v σ H Q q)⟩

section
variable (cl : Cl) (X : Cx)
abbrev JE (e : Expr) (w : WE) : Prop := PE X e (tE (Cof X cl) w)
abbrev JT (e : Expr) (w : WT) : Prop := PT X e (tT (Cof X cl) w)
abbrev JW (e : Expr) (w : WT) : Prop := PW X e (tT (Cof X cl) w)
abbrev JL (es : List Expr) (w : WA) : Prop := PA X es (tA (Cof X cl) w)
abbrev JS (s : Stmt) (w : WS) : Prop := PS X s (tS (Cof X cl) w)
abbrev JSs (s : List Stmt) (w : WS) : Prop := PSs X s (tS (Cof X cl) w)
abbrev JG (e : Expr) (w : WG) : Prop := PG X e (tG (Cof X cl) w)
abbrev JGs (e : List Expr) (w : WGs) : Prop := PGs X e (tGs (Cof X cl) w)
/-- an operation on two values -/
abbrev W2 := D → D → Store → QE → Prop
def OpJ (f : Value → Value → Sem Value) (k : W2) : Prop := ∀ (pins : List (Addr × Obj)) (s : Shared) (σ : St) (H : Hp) (F : Fz) (S : Store) (x y : V) (v u : Value) (a b : D) (Qd : QE) (Q : VK),
  Inv X pins σ H s → Sim (Cof X cl) H F S → RelV x v → RelV y u → Rp X.K H F a x → Rp X.K H F b y → k a b S Qd → rTo (Cof X cl) H F Qd Q → wpAny (model X.prog X.w) X.A (f v u) (EP X pins σ Q) X.xe s
/-- a call of a built-in thing -/
abbrev WCall := List D → Store → QE → Prop
def CallJ (f : Value) (k : WCall) : Prop := ∀ (pins : List (Addr × Obj)) (s : Shared) (σ : St) (H : Hp) (F : Fz) (S : Store) (xs : List V) (us : List Value) (ds : List D) (Qd : QE) (Q : VK),
  Inv X pins σ H s → Sim (Cof X cl) H F S → Vals xs us → RpAll X.K H F ds xs → k ds S Qd → rTo (Cof X cl) H F Qd Q → wpAny (model X.prog X.w) X.A (call f us) (EP X pins σ Q) X.xe s
end

section
variable {cl : Cl} {X : Cx} {e a b c : Expr} {es : List Expr} {pos pos' : Pos} {wa wb : WE}
/-- a rule's answer with the same heap -/
theorem rTo.here {C : Ct} {H : Hp} {F : Fz} {S : Store} {q : QE} {Q : VK} (h : rTo C H F q Q) (m : Sim C H F S) {d : D} {v : V} (r : Rp C.K H F d v) (k : q d S) : Q v H := h d S v H F k (Ext.refl H F) m r

/-! ### names, constants -/
def wVar (i : Nat) : WE := fun g S Q => orF (getS g i) fun d => Q d S
def wC (d : D) : WE := fun _ S Q => Q d S
theorem je_of_pv {i : Nat} (h : PE X e (tVar i)) : JE cl X e (wVar i) := h.imp fun σ H Q ⟨F, S, g, Qd, m, r, w, k⟩ => by
  obtain ⟨d, e1, q⟩ := orF_iff.mp w
  obtain ⟨v, e2, r2⟩ := r.get e1
  exact ⟨v, e2, k d S v H F q (Ext.refl H F) m r2⟩
theorem je_var (i : Nat) {x : Str} {pos : Pos} (hN : X.N[i]? = some x := by rfl) (hv : Vis X.env.scope x := by first | exact Or.inl rfl | exact Or.inr (Or.inl rfl) | exact Or.inr (Or.inr rfl)) (hd : (x == ("__debug__" : Str)) = false := by decide)
    (hcd : (x == ("__classdict__" : Str)) = false := by decide) : JE cl X (.Name x pos) (wVar i) := je_of_pv (pv i hN hv hd hcd)
theorem je_const {d : D} {v : V} (h : PE X e (tC v)) (hr : ∀ H F, Rp X.K H F d v) : JE cl X e (wC d) := h.imp fun σ H Q ⟨F, S, g, Qd, m, r, w, k⟩ => k d S v H F w (Ext.refl H F) m (hr H F)
theorem je_int {i j pos} : JE cl X (.Constant (.int i) j pos) (wC (.int i)) := je_const pe_int fun _ _ => by simp only [Rp]
theorem je_bl {i j pos} : JE cl X (.Constant (.bool i) j pos) (wC (.bl i)) := je_const pe_bl fun _ _ => by simp only [Rp]
theorem je_non {j pos} : JE cl X (.Constant .none j pos) (wC .non) := je_const pe_non fun _ _ => by simp only [Rp]
theorem je_str {i j pos} : JE cl X (.Constant (.str i) j pos) (wC (.str i)) := je_const pe_str fun _ _ => by simp only [Rp]
/-- a module's constant -/
theorem je_globI {x : Str} {i : Int} {t : Tok} {pos : Pos} (hg : Gl X x) (hm : X.mg x = some (.int i t)) (hd : (x == ("__debug__" : Str)) = false := by decide) : JE cl X (.Name x pos) (wC (.int i)) :=
  je_const (v := .int i) (pe_glob hg hm ⟨t, rfl⟩ hd) fun _ _ => by simp only [Rp]

/-! ### operators -/
def w2 (k : W2) (wa wb : WE) : WE := fun g S Q => wa g S fun x S1 => wb g S1 fun y S2 => k x y S2 Q
def rJ (C : Ct) (k : W2) : R2 := fun x y H Q => ∃ F S a b Qd, Sim C H F S ∧ Rp C.K H F a x ∧ Rp C.K H F b y ∧ k a b S Qd ∧ rTo C H F Qd Q
theorem OpJ.op {f : Value → Value → Sem Value} {k : W2} (h : OpJ cl X f k) : OpR X f (rJ (Cof X cl) k) := fun pins s σ H x y v u Q I rx ry ⟨F, S, a, b, Qd, m, r1, r2, q, to⟩ =>
  h pins s σ H F S x y v u a b Qd Q I m rx ry r1 r2 q to
theorem OpJ.of {f : Value → Value → Sem Value} {k : W2} {r : R2} (h : OpR X f r) (i : ∀ (H : Hp) (F : Fz) (S : Store) (x y : V) (a b : D) (Qd : QE) (Q : VK), Sim (Cof X cl) H F S → Rp X.K H F a x → Rp X.K H F b y → k a b S Qd → rTo (Cof X cl) H F Qd Q → r x y H Q) : OpJ cl X f k :=
  fun pins s σ H F S x y v u a b Qd Q I m rx ry r1 r2 q to => h pins s σ H x y v u Q I rx ry (i H F S x y a b Qd Q m r1 r2 q to)
theorem w2_en {k : W2} {C : Ct} {σ : St} {H : Hp} {Q : VK} (h : tE C (w2 k wa wb) σ H Q) : tOp (rJ C k) (tE C wa) (tE C wb) σ H Q := by
  obtain ⟨F, S, g, Qd, m, r, w, to⟩ := h
  exact ⟨F, S, g, _, m, r, w, fun x S1 v1 H1 F1 q1 e1 m1 r1 => ⟨F1, S1, g, _, m1, r.ext e1, q1, fun y S2 v2 H2 F2 q2 e2 m2 r2 =>
    ⟨F2, S2, x, y, Qd, m2, e2.rp r1, r2, q2, (rTo.ext to e1).ext e2⟩⟩⟩
theorem je_op {op : Operator} {k : W2} (ho : OpJ cl X (binaryOp op) k) (ha : JE cl X a wa) (hb : JE cl X b wb) : JE cl X (.BinOp a op b pos) (w2 k wa wb) := (pe_op ho.op ha hb).imp fun _ _ _ h => w2_en h
theorem je_cmp {op : CmpOp} {k : W2} (ho : OpJ cl X (compareOp op) k) (ha : JE cl X a wa) (hb : JE cl X b wb) (hm : behindInMarks op b = false := by first | exact nomark _ | rfl) : JE cl X (.Compare a [op] [b] pos) (w2 k wa wb) := (pe_cmpR ho.op ha hb hm).imp fun _ _ _ h => w2_en h
/-- one value -/
abbrev W1 := D → Store → QE → Prop
def w1 (k : W1) (wa : WE) : WE := fun g S Q => wa g S fun x S1 => k x S1 Q
def kNeg : W1 := fun x S Q => match x with | .int i => Q (.int (-i)) S | _ => False
theorem je_neg (ha : JE cl X a wa) : JE cl X (.UnaryOp .USub a pos) (w1 kNeg wa) := (pe_un un_neg ha).imp fun σ H Q ⟨F, S, g, Qd, m, r, w, to⟩ =>
  ⟨F, S, g, _, m, r, w, fun x S1 v1 H1 F1 q1 e1 m1 r1 => by
    cases x <;> first | exact q1.elim | skip
    simp only [Rp] at r1
    exact ⟨_, r1, to _ S1 _ H1 F1 q1 e1 m1 (by simp only [Rp])⟩⟩
/-- a chain of two comparisons -/
def wCh (k k' : W2) (wa wb wc : WE) : WE := fun g S Q => wa g S fun x S1 => wb g S1 fun y S2 => k x y S2 fun t S3 => match t with | .bl true => wc g S3 fun z S4 => k' y z S4 Q | .bl false => Q (.bl false) S3 | _ => False
end
end J
set_option Elab.async false
set_option linter.all false
set_option maxRecDepth 100000
namespace J
open PySem PySem.Spec L2
open PyProof.Rows (b2i)

/-! ## data at the heap -/
mutual
theorem plain_toPy : ∀ (n : Nat) (d : D), shp n d = true → (toPy d).plain = true
  | _, .non, _ => rfl
  | _, .bl _, _ => rfl
  | _, .int _, _ => rfl
  | _, .str _, _ => rfl
  | 0, .tup _, h => by simp [shp] at h
  | 0, .lst _, h => by simp [shp] at h
  | n + 1, .tup l, h => by simp only [toPy, PyData.plain]; exact plain_toPys n l (by simpa only [shp] using h)
  | n + 1, .lst l, h => by simp only [toPy, PyData.plain]; exact plain_toPys n l (by simpa only [shp] using h)
  | _, .ref _, h => by simp [shp] at h
  | _, .scr _, h => by simp [shp] at h
theorem plain_toPys : ∀ (n : Nat) (l : List D), shps n l = true → PyData.plainAll (toPys l) = true
  | _, [], _ => rfl
  | n, d :: l, h => by
    simp only [shps, Bool.and_eq_true] at h
    simp only [toPys, PyData.plainAll, plain_toPy n d h.1, plain_toPys n l h.2, Bool.and_self]
end
mutual
theorem depth_toPy : ∀ (n : Nat) (d : D), shp n d = true → (toPy d).depth ≤ n
  | _, .non, _ => Nat.zero_le _
  | _, .bl _, _ => Nat.zero_le _
  | _, .int _, _ => Nat.zero_le _
  | _, .str _, _ => Nat.zero_le _
  | 0, .tup _, h => by simp [shp] at h
  | 0, .lst _, h => by simp [shp] at h
  | n + 1, .tup l, h => by simp only [toPy, PyData.depth]; exact Nat.succ_le_succ (depth_toPys n l (by simpa only [shp] using h))
  | n + 1, .lst l, h => by simp only [toPy, PyData.depth]; exact Nat.succ_le_succ (depth_toPys n l (by simpa only [shp] using h))
  | _, .ref _, h => by simp [shp] at h
  | _, .scr _, h => by simp [shp] at h
theorem depth_toPys : ∀ (n : Nat) (l : List D), shps n l = true → PyData.depthAll (toPys l) ≤ n
  | _, [], _ => Nat.zero_le _
  | n, d :: l, h => by
    simp only [shps, Bool.and_eq_true] at h
    simp only [toPys, PyData.depthAll]
    exact Nat.max_le.mpr ⟨depth_toPy n d h.1, depth_toPys n l h.2⟩
end
theorem b2i_if (b : Bool) : (if b = true then (1 : Int) else 0) = b2i b := by cases b <;> rfl
mutual
theorem eqv_toPy : ∀ (n m : Nat) (a b : D), shp n a = true → shp m b = true → PyData.eqv (toPy a) (toPy b) = eqv a b
  | n, m, .non, b, ha, hb => by cases b <;> simp_all [toPy, PyData.eqv, eqv, shp]
  | n, m, .bl x, b, ha, hb => by cases b <;> simp_all [toPy, PyData.eqv, eqv, shp] <;> (try (rename_i z; cases z)) <;> (try cases x) <;> rfl
  | n, m, .int x, b, ha, hb => by cases b <;> simp_all [toPy, PyData.eqv, eqv, shp] <;> (try (rename_i z; cases z)) <;> (try cases x) <;> rfl
  | n, m, .str x, b, ha, hb => by cases b <;> simp_all [toPy, PyData.eqv, eqv, shp]
  | 0, _, .tup _, _, h, _ => by simp [shp] at h
  | 0, _, .lst _, _, h, _ => by simp [shp] at h
  | n + 1, m, .tup l, b, ha, hb => by
    cases b with
    | tup k =>
      cases m with
      | zero => simp [shp] at hb
      | succ m => simp only [toPy, PyData.eqv, eqv]; exact eqv_toPys n m l k (by simpa only [shp] using ha) (by simpa only [shp] using hb)
    | _ => simp_all [toPy, PyData.eqv, eqv, shp]
  | n + 1, m, .lst l, b, ha, hb => by
    cases b with
    | lst k =>
      cases m with
      | zero => simp [shp] at hb
      | succ m => simp only [toPy, PyData.eqv, eqv]; exact eqv_toPys n m l k (by simpa only [shp] using ha) (by simpa only [shp] using hb)
    | _ => simp_all [toPy, PyData.eqv, eqv, shp]
  | _, _, .ref _, _, h, _ => by simp [shp] at h
  | _, _, .scr _, _, h, _ => by simp [shp] at h
theorem eqv_toPys : ∀ (n m : Nat) (a b : List D), shps n a = true → shps m b = true → PyData.eqvAll (toPys a) (toPys b) = eqvs a b
  | _, _, [], [], _, _ => by simp only [toPys, PyData.eqvAll, eqvs]
  | _, _, [], _ :: _, _, _ => by simp only [toPys, PyData.eqvAll, eqvs]
  | _, _, _ :: _, [], _, _ => by simp only [toPys, PyData.eqvAll, eqvs]
  | n, m, x :: xs, y :: ys, ha, hb => by
    simp only [shps, Bool.and_eq_true] at ha hb
    simp only [toPys, PyData.eqvAll, eqvs, eqv_toPy n m x y ha.1 hb.1, eqv_toPys n m xs ys ha.2 hb.2]
end
section
variable {X : Cx} {pins : List (Addr × Obj)} {σ : L2.St} {H : Hp} {F : Fz} {s : Shared}
mutual
theorem reads_of (I : Inv X pins σ H s) : ∀ (n : Nat) (d : D) (v : V) (u : Value), shp n d = true → Rp X.K H F d v → RelV v u → ∃ as, Reads s.heap u (toPy d) as
  | _, .non, v, u, _, h, r => by simp only [Rp] at h; subst h; cases r; exact ⟨_, Reads.none⟩
  | _, .bl b, v, u, _, h, r => by simp only [Rp] at h; subst h; cases r; exact ⟨_, Reads.bool b⟩
  | _, .int i, v, u, _, h, r => by simp only [Rp] at h; subst h; obtain ⟨t, rfl⟩ := r; exact ⟨_, Reads.int i t⟩
  | _, .str x, v, u, _, h, r => by simp only [Rp] at h; subst h; obtain ⟨t, rfl⟩ := r; exact ⟨_, Reads.str x t⟩
  | 0, .tup _, _, _, h, _, _ => by simp [shp] at h
  | 0, .lst _, _, _, h, _, _ => by simp [shp] at h
  | n + 1, .tup l, v, u, h, hr, r => by
    simp only [Rp] at hr
    obtain ⟨a, vs, rfl, hs, ha⟩ := hr
    cases r
    obtain ⟨its, rv, ⟨o, ho, hc, k, hd⟩, _⟩ := I.tuple hs
    obtain ⟨as, q⟩ := reads_all I n l vs its (by simpa only [shp] using h) ha rv
    exact ⟨_, Reads.tuple ho hc hd q⟩
  | n + 1, .lst l, v, u, h, hr, r => by
    simp only [Rp] at hr
    obtain ⟨a, vs, rfl, ⟨_, hs⟩, ha⟩ := hr
    cases r
    obtain ⟨its, rv, ⟨o, k, ho, hc, _, hd⟩, _⟩ := I.list (SqL.of hs)
    obtain ⟨as, q⟩ := reads_all I n l vs its (by simpa only [shp] using h) ha rv
    exact ⟨_, Reads.list ho hc hd q⟩
  | _, .ref _, _, _, h, _, _ => by simp [shp] at h
  | _, .scr _, _, _, h, _, _ => by simp [shp] at h
theorem reads_all (I : Inv X pins σ H s) : ∀ (n : Nat) (l : List D) (vs : List V) (us : List Value), shps n l = true → RpAll X.K H F l vs → Vals vs us → ∃ as, ReadsAll s.heap us (toPys l) as
  | _, [], _, _, _, h, r => by simp only [RpAll] at h; subst h; cases r; exact ⟨_, ReadsAll.nil⟩
  | n, d :: l, vs, us, h, hr, r => by
    simp only [shps, Bool.and_eq_true] at h
    simp only [RpAll] at hr
    obtain ⟨w, ws, rfl, h1, h2⟩ := hr
    cases r with
    | cons r1 r2 =>
      obtain ⟨as, q1⟩ := reads_of I n d w _ h.1 h1 r1
      obtain ⟨bs, q2⟩ := reads_all I n l ws _ h.2 h2 r2
      exact ⟨_, ReadsAll.cons q1 q2⟩
end
end

/-! ## operators -/
section
variable {cl : Cl} {X : Cx} {e a b c : Expr} {es : List Expr} {pos pos' : Pos} {wa wb wc : WE} {Q : QE} {S : Store}
theorem op_int {f : Value → Value → Sem Value} {k : W2} {R : Int → Int → Prop} {g : Int → Int → V} {gd : Int → Int → D} (h : OpR X f (rI R g)) (hg : ∀ i j H F, Rp X.K H F (gd i j) (g i j))
    (hk : ∀ a b S Q, k a b S Q → ∃ i j, a = .int i ∧ b = .int j ∧ R i j ∧ Q (gd i j) S) : OpJ cl X f k := OpJ.of h fun H F S x y a b Qd Q m r1 r2 q to => by
  obtain ⟨i, j, rfl, rfl, c, q'⟩ := hk _ _ _ _ q
  simp only [Rp] at r1 r2
  exact ⟨i, j, r1, r2, c, to.here m (hg i j H F) q'⟩
theorem op_int0 {f : Value → Value → Sem Value} {k : W2} {g : Int → Int → V} {gd : Int → Int → D} (h : OpR X f (rI0 g)) (hg : ∀ i j H F, Rp X.K H F (gd i j) (g i j))
    (hk : ∀ a b S Q, k a b S Q → ∃ i j, a = .int i ∧ b = .int j ∧ Q (gd i j) S) : OpJ cl X f k := OpJ.of h fun H F S x y a b Qd Q m r1 r2 q to => by
  obtain ⟨i, j, rfl, rfl, q'⟩ := hk _ _ _ _ q
  simp only [Rp] at r1 r2
  exact ⟨i, j, r1, r2, to.here m (hg i j H F) q'⟩
def kI0 (f : Int → Int → D) : W2 := fun a b S Q => match a, b with | .int i, .int j => Q (f i j) S | _, _ => False
def kIC (R : Int → Int → Prop) (f : Int → Int → D) : W2 := fun a b S Q => match a, b with | .int i, .int j => R i j ∧ Q (f i j) S | _, _ => False
theorem kI0_inv {f : Int → Int → D} {a b : D} (h : kI0 f a b S Q) : ∃ i j, a = .int i ∧ b = .int j ∧ Q (f i j) S := by
  unfold kI0 at h; split at h
  · exact ⟨_, _, rfl, rfl, h⟩
  · exact h.elim
theorem kIC_inv {R : Int → Int → Prop} {f : Int → Int → D} {a b : D} (h : kIC R f a b S Q) : ∃ i j, a = .int i ∧ b = .int j ∧ R i j ∧ Q (f i j) S := by
  unfold kIC at h; split at h
  · exact ⟨_, _, rfl, rfl, h⟩
  · exact h.elim
theorem rp_int {K : PySem.W.Frag} {H : Hp} {F : Fz} {i : Int} : Rp K H F (.int i) (.int i) := by simp only [Rp]
theorem rp_bl {K : PySem.W.Frag} {H : Hp} {F : Fz} {i : Bool} : Rp K H F (.bl i) (.bl i) := by simp only [Rp]
theorem rp_str {K : PySem.W.Frag} {H : Hp} {F : Fz} {i : Str} : Rp K H F (.str i) (.str i) := by simp only [Rp]
theorem rp_non {K : PySem.W.Frag} {H : Hp} {F : Fz} : Rp K H F .non .non := by simp only [Rp]
theorem rp_ref {K : PySem.W.Frag} {H : Hp} {F : Fz} {p : Addr} : Rp K H F (.ref p) (.ref p) := by simp only [Rp]
abbrev kSub : W2 := kI0 fun i j => .int (i - j)
abbrev kAnd : W2 := kI0 fun i j => .int (Builtin.bitAnd i j)
abbrev kOr : W2 := kI0 fun i j => .int (Builtin.bitOr i j)
abbrev kXor : W2 := kI0 fun i j => .int (Builtin.bitXor i j)
abbrev kMod : W2 := kIC (fun _ j => 0 < j) fun i j => .int (i % j)
abbrev kFdiv : W2 := kIC CDivP fun i j => .int (i / j)
abbrev kPow : W2 := kIC CPow fun i j => .int (i ^ j.toNat)
abbrev kShl : W2 := kIC CShl fun i j => .int (i * 2 ^ j.toNat)
abbrev kShr : W2 := kIC (fun _ j => 0 ≤ j) fun i j => .int (i / 2 ^ j.toNat)
abbrev kLt : W2 := kI0 fun i j => .bl (decide (i < j))
abbrev kLe : W2 := kI0 fun i j => .bl (decide (i ≤ j))
abbrev kGt : W2 := kI0 fun i j => .bl (decide (j < i))
abbrev kGe : W2 := kI0 fun i j => .bl (decide (j ≤ i))
theorem jo_sub : OpJ cl X (binaryOp .Sub) kSub := op_int0 op_sub (fun _ _ _ _ => rp_int) fun _ _ _ _ h => kI0_inv h
theorem jo_and : OpJ cl X (binaryOp .BitAnd) kAnd := op_int0 op_and (fun _ _ _ _ => rp_int) fun _ _ _ _ h => kI0_inv h
theorem jo_or : OpJ cl X (binaryOp .BitOr) kOr := op_int0 op_or (fun _ _ _ _ => rp_int) fun _ _ _ _ h => kI0_inv h
theorem jo_xor : OpJ cl X (binaryOp .BitXor) kXor := op_int0 op_xor (fun _ _ _ _ => rp_int) fun _ _ _ _ h => kI0_inv h
theorem jo_mod : OpJ cl X (binaryOp .Mod) kMod := op_int op_mod (fun _ _ _ _ => rp_int) fun _ _ _ _ h => kIC_inv h
theorem op_fdivP : OpR X (binaryOp .FloorDiv) (rI CDivP fun i j => .int (i / j)) := opI fun i j _ _ _ _ _ hc q => by
  refine PyProof.Rows.floordiv_int (Int.ne_of_gt hc.1) ?_ (.inl hc.2)
  rw [Int.fdiv_eq_ediv_of_nonneg _ (Int.le_of_lt hc.1)]; exact q
theorem iop_fdivP : OpR X (inplaceOp .FloorDiv) (rI CDivP fun i j => .int (i / j)) := opI fun i j _ _ _ _ _ hc q => by
  refine PyProof.Rows.ifloordiv_int (Int.ne_of_gt hc.1) ?_ (.inl hc.2)
  rw [Int.fdiv_eq_ediv_of_nonneg _ (Int.le_of_lt hc.1)]; exact q
theorem jo_fdiv : OpJ cl X (binaryOp .FloorDiv) kFdiv := op_int op_fdivP (fun _ _ _ _ => rp_int) fun _ _ _ _ h => kIC_inv h
theorem jo_pow : OpJ cl X (binaryOp .Pow) kPow := op_int op_pow (fun _ _ _ _ => rp_int) fun _ _ _ _ h => kIC_inv h
theorem jo_shl : OpJ cl X (binaryOp .LShift) kShl := op_int op_shlW (fun _ _ _ _ => rp_int) fun _ _ _ _ h => kIC_inv h
theorem jo_shr : OpJ cl X (binaryOp .RShift) kShr := op_int op_shr (fun _ _ _ _ => rp_int) fun _ _ _ _ h => kIC_inv h
theorem jo_lt : OpJ cl X (compareOp .Lt) kLt := op_int0 op_lt (fun _ _ _ _ => rp_bl) fun _ _ _ _ h => kI0_inv h
theorem jo_le : OpJ cl X (compareOp .LtE) kLe := op_int0 op_le (fun _ _ _ _ => rp_bl) fun _ _ _ _ h => kI0_inv h
theorem jo_gt : OpJ cl X (compareOp .Gt) kGt := op_int0 op_gt (fun _ _ _ _ => rp_bl) fun _ _ _ _ h => kI0_inv h
theorem jo_ge : OpJ cl X (compareOp .GtE) kGe := op_int0 op_ge (fun _ _ _ _ => rp_bl) fun _ _ _ _ h => kI0_inv h
/-- a + b: ints, texts, tuples, lists -/
def kAdd : W2 := fun a b S Q => match a, b with
  | .int i, .int j => Q (.int (i + j)) S
  | .str x, .str y => x.length + y.length ≤ sizeLine ∧ Q (.str (x ++ y)) S
  | .tup xs, .tup ys => xs.length + ys.length ≤ sizeLine ∧ Q (.tup (xs ++ ys)) S
  | .lst xs, .lst ys => xs.length + ys.length ≤ sizeLine ∧ Q (.lst (xs ++ ys)) S
  | _, _ => False
theorem nil_of {K : PySem.W.Frag} {H : Hp} {F : Fz} {ds : List D} (h : RpAll K H F ds []) : ds = [] := by
  cases ds with
  | nil => rfl
  | cons d ds => have := h.len; simp at this
theorem jo_add : OpJ cl X (binaryOp .Add) kAdd := by
  intro pins s σ H F S x y v u a b Qd Q I m rx ry r1 r2 q to
  unfold kAdd at q
  split at q
  · simp only [Rp] at r1 r2
    exact op_add pins s σ H x y v u Q I rx ry ⟨_, _, r1, r2, to.here m rp_int q⟩
  · simp only [Rp] at r1 r2
    exact op_add_str pins s σ H x y v u Q I rx ry ⟨_, _, r1, r2, q.1, to.here m rp_str q.2⟩
  · simp only [Rp] at r1 r2
    obtain ⟨p, vs, rfl, h1, k1⟩ := r1
    obtain ⟨p', vs', rfl, h2, k2⟩ := r2
    refine op_catA pins s σ H _ _ v u Q I rx ry ⟨p, p', vs, vs', rfl, rfl, h1, h2, by rw [k1.len, k2.len]; exact q.1, fun e => ?_, fun e1 e2 => ?_, fun _ _ p hp => ?_⟩
    · subst e; rw [nil_of k1] at q
      exact to.here m (by simp only [Rp, List.nil_append]; exact ⟨p', vs', rfl, h2, k2⟩) q.2
    · subst e2; rw [nil_of k2] at q
      exact to.here m (by simp only [Rp, List.append_nil]; exact ⟨p, vs, rfl, h1, k1⟩) q.2
    · have ex := m.ext_new hp (.tup (vs ++ vs'))
      exact to _ _ _ _ _ q.2 ex (m.new hp _) (by simp only [Rp]; exact ⟨p, _, rfl, SqT.of upd_same, (ex.rpAll k1).app (ex.rpAll k2)⟩)
  · simp only [Rp] at r1 r2
    obtain ⟨p, vs, rfl, h1, k1⟩ := r1
    obtain ⟨p', vs', rfl, h2, k2⟩ := r2
    refine op_cat pins s σ H _ _ v u Q I rx ry ⟨p, p', vs, vs', rfl, rfl, h1.2, h2.2, by rw [k1.len, k2.len]; exact q.1, fun p hp => ?_⟩
    have ex := m.ext_frz hp (.lst (vs ++ vs'))
    exact to _ _ _ _ _ q.2 ex (m.frz hp _) (by simp only [Rp]; exact ⟨p, _, rfl, ⟨fz1_same, upd_same⟩, (ex.rpAll k1).app (ex.rpAll k2)⟩)
  · exact q.elim
/-- a * b: ints; a tuple, a list so many times -/
def kMul : W2 := fun a b S Q => match a, b with
  | .int i, .int j => CMulX i j ∧ Q (.int (i * j)) S
  | .tup xs, .int k => (xs ≠ [] ∧ 2 ≤ k ∧ k ≤ 1000 ∧ xs.length ≤ 1000) ∧ Q (.tup (List.replicate k.toNat xs).flatten) S
  | .lst xs, .int k => (-(2 ^ 63) ≤ k ∧ k < 2 ^ 63 ∧ xs.length * k.toNat ≤ sizeLine) ∧ Q (.lst (List.replicate k.toNat xs).flatten) S
  | _, _ => False
theorem RpAll.rep {K : PySem.W.Frag} {H : Hp} {F : Fz} {ds : List D} {vs : List V} (h : RpAll K H F ds vs) : ∀ k : Nat, RpAll K H F (List.replicate k ds).flatten (List.replicate k vs).flatten
  | 0 => RpAll.nil
  | k + 1 => by simp only [List.replicate_succ, List.flatten_cons]; exact h.app (RpAll.rep h k)
theorem jo_mul : OpJ cl X (binaryOp .Mult) kMul := by
  intro pins s σ H F S x y v u a b Qd Q I m rx ry r1 r2 q to
  unfold kMul at q
  split at q
  · simp only [Rp] at r1 r2
    exact op_mulX pins s σ H x y v u Q I rx ry ⟨_, _, r1, r2, q.1, to.here m rp_int q.2⟩
  · simp only [Rp] at r1 r2
    obtain ⟨p, vs, rfl, h1, k1⟩ := r1
    subst r2
    obtain ⟨⟨q1, q2, q3, q4⟩, q5⟩ := q
    refine op_repT pins s σ H _ _ v u Q I rx ry ⟨p, _, vs, rfl, rfl, h1, fun e => q1 (by subst e; exact nil_of k1), q2, q3, by rw [k1.len]; exact q4, fun p hp => ?_⟩
    rename_i k _
    have ex := m.ext_new hp (.tup (List.replicate (Int.toNat k) vs).flatten)
    exact to _ _ _ _ _ q5 ex (m.new hp _) (by simp only [Rp]; exact ⟨p, _, rfl, SqT.of upd_same, (ex.rpAll k1).rep _⟩)
  · simp only [Rp] at r1 r2
    obtain ⟨p, vs, rfl, h1, k1⟩ := r1
    subst r2
    obtain ⟨⟨q1, q2, q3⟩, q5⟩ := q
    refine op_rep pins s σ H _ _ v u Q I rx ry ⟨p, _, vs, rfl, rfl, h1.2, q1, q2, by rw [k1.len]; exact q3, fun p hp => ?_⟩
    rename_i k _
    have ex := m.ext_frz hp (.lst (List.replicate (Int.toNat k) vs).flatten)
    exact to _ _ _ _ _ q5 ex (m.frz hp _) (by simp only [Rp]; exact ⟨p, _, rfl, ⟨fz1_same, upd_same⟩, (ex.rpAll k1).rep _⟩)
  · exact q.elim
/-- == of data -/
def kEq : W2 := fun a b S Q => shp 60 a = true ∧ shp 60 b = true ∧ Q (.bl (eqv a b)) S
def kNe : W2 := fun a b S Q => shp 60 a = true ∧ shp 60 b = true ∧ Q (.bl (!eqv a b)) S
theorem room64 {a b : D} {A : Around} (hu : A.units + 64 < cLine) (ha : shp 60 a = true) : A.units + min (toPy a).depth (toPy b).depth < cLine := by
  have := depth_toPy 60 a ha
  have h2 : min (toPy a).depth (toPy b).depth ≤ 60 := Nat.le_trans (Nat.min_le_left _ _) this
  omega
theorem jo_eq (hu : X.A.units + 64 < cLine) : OpJ cl X (compareOp .Eq) kEq := by
  intro pins s σ H F S x y v u a b Qd Q I m rx ry r1 r2 q to
  obtain ⟨h1, h2, q⟩ := q
  obtain ⟨as, ra⟩ := reads_of I 60 a x v h1 r1 rx
  obtain ⟨bs, rb⟩ := reads_of I 60 b y u h2 r2 ry
  refine PySem.SeqAt.eq_plain ra rb (plain_toPy _ _ h1) (plain_toPy _ _ h2) (room64 hu h1) ?_
  rw [eqv_toPy 60 60 a b h1 h2]
  exact ⟨.bl _, H, I, rfl, to.here m rp_bl q⟩
theorem jo_ne (hu : X.A.units + 64 < cLine) : OpJ cl X (compareOp .NotEq) kNe := by
  intro pins s σ H F S x y v u a b Qd Q I m rx ry r1 r2 q to
  obtain ⟨h1, h2, q⟩ := q
  obtain ⟨as, ra⟩ := reads_of I 60 a x v h1 r1 rx
  obtain ⟨bs, rb⟩ := reads_of I 60 b y u h2 r2 ry
  refine PySem.SeqAt.ne_plain ra rb (plain_toPy _ _ h1) (plain_toPy _ _ h2) (room64 hu h1) ?_
  rw [eqv_toPy 60 60 a b h1 h2]
  exact ⟨.bl _, H, I, rfl, to.here m rp_bl q⟩
theorem any_toPys {d : D} (hd : shp 60 d = true) : ∀ l : List D, shps 60 l = true → ((toPys l).any fun y => PyData.eqv y (toPy d)) = l.any fun y => eqv y d
  | [], _ => rfl
  | x :: l, h => by
    simp only [shps, Bool.and_eq_true] at h
    simp only [toPys, List.any_cons, eqv_toPy 60 60 x d h.1 hd, any_toPys hd l h.2]
theorem room65 {l : List D} {d : D} {A : Around} (hu : A.units + 64 < cLine) (ha : shp 60 d = true) : A.units + 1 + min (PyData.depthAll (toPys l)) (toPy d).depth < cLine := by
  have := depth_toPy 60 d ha
  have h2 : min (PyData.depthAll (toPys l)) (toPy d).depth ≤ 60 := Nat.le_trans (Nat.min_le_right _ _) this
  omega
end
end J
set_option Elab.async false
set_option linter.all false
set_option maxRecDepth 100000
namespace J
open PySem PySem.Spec L2
open PyProof.Rows (b2i)

/-! ## keys -/
mutual
theorem depth_NK : ∀ (n : Nat) (d : D), keyd n d = true → (toNK d).depth ≤ n
  | _, .non, _ => Nat.zero_le _
  | _, .bl _, _ => Nat.zero_le _
  | _, .int _, _ => Nat.zero_le _
  | _, .str _, _ => Nat.zero_le _
  | 0, .tup _, h => by simp [keyd] at h
  | _, .lst _, h => by simp [keyd] at h
  | n + 1, .tup l, h => by simp only [toNK, NestedKey.depth]; exact Nat.succ_le_succ (depth_NKs n l (by simpa only [keyd] using h))
  | _, .ref _, h => by simp [keyd] at h
  | _, .scr _, h => by simp [keyd] at h
theorem depth_NKs : ∀ (n : Nat) (l : List D), keyds n l = true → NestedKey.depthAll (toNKs l) ≤ n
  | _, [], _ => Nat.zero_le _
  | n, d :: l, h => by
    simp only [keyds, Bool.and_eq_true] at h
    simp only [toNKs, NestedKey.depthAll]
    exact Nat.max_le.mpr ⟨depth_NK n d h.1, depth_NKs n l h.2⟩
end
mutual
theorem eqv_NK : ∀ (n m : Nat) (a b : D), keyd n a = true → keyd m b = true → NestedKey.beq (toNK a) (toNK b) = eqv a b
  | _, _, .non, b, _, hb => by cases b <;> simp_all [toNK, NestedKey.beq, eqv, keyd]
  | _, _, .bl x, b, _, hb => by cases b <;> simp_all [toNK, NestedKey.beq, eqv, keyd] <;> (try (rename_i z; cases z)) <;> (try cases x) <;> (first | rfl | decide | (simp [b2i]; done) | skip)
  | _, _, .int x, b, _, hb => by cases b <;> simp_all [toNK, NestedKey.beq, eqv, keyd] <;> rfl
  | _, _, .str x, b, _, hb => by cases b <;> simp_all [toNK, NestedKey.beq, eqv, keyd] <;> rfl
  | 0, _, .tup _, _, h, _ => by simp [keyd] at h
  | n + 1, m, .tup l, b, ha, hb => by
    cases b with
    | tup k =>
      cases m with
      | zero => simp [keyd] at hb
      | succ m => simp only [toNK, NestedKey.beq, eqv]; exact eqv_NKs n m l k (by simpa only [keyd] using ha) (by simpa only [keyd] using hb)
    | _ => simp_all [toNK, NestedKey.beq, eqv, keyd]
  | _, _, .lst _, _, h, _ => by simp [keyd] at h
  | _, _, .ref _, _, h, _ => by simp [keyd] at h
  | _, _, .scr _, _, h, _ => by simp [keyd] at h
theorem eqv_NKs : ∀ (n m : Nat) (a b : List D), keyds n a = true → keyds m b = true → NestedKey.beqAll (toNKs a) (toNKs b) = eqvs a b
  | _, _, [], [], _, _ => by simp only [toNKs, NestedKey.beqAll, eqvs]
  | _, _, [], _ :: _, _, _ => by simp only [toNKs, NestedKey.beqAll, eqvs]
  | _, _, _ :: _, [], _, _ => by simp only [toNKs, NestedKey.beqAll, eqvs]
  | n, m, x :: xs, y :: ys, ha, hb => by
    simp only [keyds, Bool.and_eq_true] at ha hb
    simp only [toNKs, NestedKey.beqAll, eqvs, eqv_NK n m x y ha.1 hb.1, eqv_NKs n m xs ys ha.2 hb.2]
end
section
variable {X : Cx} {pins : List (Addr × Obj)} {σ : L2.St} {H : Hp} {F : Fz} {s : Shared}
mutual
theorem nested_of (I : Inv X pins σ H s) : ∀ (n : Nat) (d : D) (v : V) (u : Value), keyd n d = true → Rp X.K H F d v → RelV v u → NestedIs s.heap (toNK d) u
  | _, .non, v, u, _, h, r => by simp only [Rp] at h; subst h; cases r; exact .none
  | _, .bl b, v, u, _, h, r => by simp only [Rp] at h; subst h; cases r; exact .bool rfl
  | _, .int i, v, u, _, h, r => by simp only [Rp] at h; subst h; obtain ⟨t, rfl⟩ := r; exact .int i t
  | _, .str x, v, u, _, h, r => by simp only [Rp] at h; subst h; obtain ⟨t, rfl⟩ := r; exact .text x t
  | 0, .tup _, _, _, h, _, _ => by simp [keyd] at h
  | n + 1, .tup l, v, u, h, hr, r => by
    simp only [Rp] at hr
    obtain ⟨a, vs, rfl, hs, ha⟩ := hr
    cases r
    obtain ⟨its, rv, ⟨o, ho, hc, k, hd⟩, _⟩ := I.tuple hs
    exact .tup ho hc hd (nested_all I n l vs _ (by simpa only [keyd] using h) ha (by simpa using rv))
  | _, .lst _, _, _, h, _, _ => by simp [keyd] at h
  | _, .ref _, _, _, h, _, _ => by simp [keyd] at h
  | _, .scr _, _, _, h, _, _ => by simp [keyd] at h
theorem nested_all (I : Inv X pins σ H s) : ∀ (n : Nat) (l : List D) (vs : List V) (us : List Value), keyds n l = true → RpAll X.K H F l vs → Vals vs us → NestedAll s.heap (toNKs l) us
  | _, [], _, _, _, h, r => by simp only [RpAll] at h; subst h; cases r; exact .nil
  | n, d :: l, vs, us, h, hr, r => by
    simp only [keyds, Bool.and_eq_true] at h
    simp only [RpAll] at hr
    obtain ⟨w, ws, rfl, h1, h2⟩ := hr
    cases r with
    | cons r1 r2 => exact .cons (nested_of I n d w _ h.1 h1 r1) (nested_all I n l ws _ h.2 h2 r2)
end
abbrev NYR : List (NestedKey × Addr × V) → List (NestedKey × Addr × Value) → Prop := Paired fun p q => p.1 = q.1 ∧ p.2.1 = q.2.1 ∧ RelV p.2.2 q.2.2
/-- the dict at a, read -/
theorem dn_rd (I : Inv X pins σ H s) {a : Addr} {xs : List (NestedKey × Addr × V)} {l : List (D × D)} (e : H a = some (dNO X.prog X.w a xs)) (r : NvR X.K H F l xs) :
    (a == sysModules) = false ∧ xs.length ≤ sizeLine ∧ ∃ ys, NYR xs ys ∧ s.heap.DictOfH (nestedKind X.prog X.w) a ys := by
  obtain ⟨⟨h1, h2, ys, h3, o, es, ep, g1, g2, g3, g4, g5⟩, _, _⟩ := (show ObjOk X.prog X.w H s.heap a (dNO X.prog X.w a xs) from I.hok a _ e)
  refine ⟨h1, h2, ys, h3, o, es, ep, g1, g2, g3, g4, ?_, g5⟩
  have all : ∀ {l : List (D × D)} {xs : List (NestedKey × Addr × V)} {ys : List (NestedKey × Addr × Value)}, NvR X.K H F l xs → NYR xs ys → ∀ y ∈ ys, (nestedKind X.prog X.w).is s.heap y.1 y.2.1 := by
    intro l
    induction l with
    | nil => intro xs ys hr hp y hy; simp only [NvR] at hr; subst hr; cases hp; cases hy
    | cons p l ih =>
      intro xs ys hr hp y hy
      obtain ⟨d, x⟩ := p
      simp only [NvR] at hr
      obtain ⟨b, v, r, ds, rfl, rfl, k8, rd, _, hr⟩ := hr
      cases hp with
      | cons q t =>
        rcases List.mem_cons.mp hy with e | hy
        · subst e
          rw [← q.1, ← q.2.1]
          exact ⟨nested_of I 8 _ _ _ k8 rd rfl, depth_NK 8 _ k8⟩
        · exact ih hr t y hy
  exact all r h3
/-- what stands at a key -/
theorem look_n {K : PySem.W.Frag} {k : D} (k8 : keyd 8 k = true) : ∀ {l : List (D × D)} {xs : List (NestedKey × Addr × V)} {ys : List (NestedKey × Addr × Value)}, NvR K H F l xs → NYR xs ys →
    match look l k with
    | some d => ∃ p v, atKey ys (toNK k) = some p ∧ Rp K H F d v ∧ RelV v p.2
    | none => atKey ys (toNK k) = none := by
  intro l
  induction l with
  | nil => intro xs ys hr hp; simp only [NvR] at hr; subst hr; cases hp; rfl
  | cons p l ih =>
    intro xs ys hr hp
    obtain ⟨d, x⟩ := p
    simp only [NvR] at hr
    obtain ⟨b, v, r, ds, rfl, rfl, h8, rd, rx, hr⟩ := hr
    cases hp with
    | @cons _ q _ qs hq t =>
      obtain ⟨q1, q2, q3⟩ := hq
      have e1 : eqv (.tup ds) k = decide (q.1 = toNK k) := by rw [← q1, NestedKey.decide_eq, eqv_NK 8 8 _ _ h8 k8]
      have ih' := ih hr t
      by_cases hk : q.1 = toNK k
      · have e2 : eqv (.tup ds) k = true := by rw [e1]; exact decide_eq_true hk
        have e3 : look ((.tup ds, x) :: l) k = some x := by simp [look, List.find?_cons, e2]
        rw [e3]
        exact ⟨q.2, v, by simp [atKey, List.find?_cons, hk], rx, q3⟩
      · have e2 : eqv (.tup ds) k = false := by rw [e1]; exact decide_eq_false hk
        have e3 : look ((.tup ds, x) :: l) k = look l k := by simp [look, List.find?_cons, e2]
        have e4 : atKey (q :: qs) (toNK k) = atKey qs (toNK k) := by simp [atKey, List.find?_cons, hk]
        rw [e3, e4]
        exact ih'
theorem look_s {K : PySem.W.Frag} {k : D} {kk : Key} (hk : scK k = some kk) : ∀ {l : List (D × D)} {ks : List (Key × V)}, KvR K H F l ks →
    match look l k with
    | some d => ∃ v, valV ks kk = some v ∧ Rp K H F d v
    | none => valV ks kk = none := by
  intro l
  induction l with
  | nil => intro ks hr; simp only [KvR] at hr; subst hr; rfl
  | cons p l ih =>
    intro ks hr
    obtain ⟨d, x⟩ := p
    simp only [KvR] at hr
    obtain ⟨k1, v, r, rfl, e1, rx, hr⟩ := hr
    have ih' := ih hr
    have ee : eqv d k = decide (k1 = kk) := by
      cases d <;> simp only [scK] at e1 <;> first | (cases e1; done) | skip
      all_goals cases k <;> simp only [scK] at hk <;> first | (cases hk; done) | skip
      all_goals (cases e1; cases hk; simp [eqv])
      all_goals (rename_i a b; by_cases h : a = b <;> simp [h])
    by_cases h : k1 = kk
    · have e2 : eqv d k = true := by rw [ee]; exact decide_eq_true h
      have e3 : look ((d, x) :: l) k = some x := by simp [look, List.find?_cons, e2]
      rw [e3]
      exact ⟨v, valV_pos h, rx⟩
    · have e2 : eqv d k = false := by rw [ee]; exact decide_eq_false h
      have e3 : look ((d, x) :: l) k = look l k := by simp [look, List.find?_cons, e2]
      rw [e3, valV_neg h]
      exact ih'
theorem scK_rp {K : PySem.W.Frag} {k : D} {kk : Key} (hk : scK k = some kk) {v : V} (r : Rp K H F k v) : v = kV kk := by
  cases k <;> simp only [scK] at hk <;> first | (cases hk; done) | skip
  all_goals (cases hk; simpa only [Rp, kV] using r)
end
end J
set_option Elab.async false
set_option linter.all false
set_option maxRecDepth 100000
namespace J
open PySem PySem.Spec L2
open PyProof.Rows (b2i)

theorem eqv_s {d k : D} {k1 kk : Key} (e1 : scK d = some k1) (hk : scK k = some kk) : eqv d k = decide (k1 = kk) := by
  cases d <;> simp only [scK] at e1 <;> first | (cases e1; done) | skip
  all_goals cases k <;> simp only [scK] at hk <;> first | (cases hk; done) | skip
  all_goals (cases e1; cases hk; simp [eqv])
  all_goals (rename_i a b; by_cases h : a = b <;> simp [h])
section
variable {K : PySem.W.Frag} {H : Hp} {F : Fz}
theorem kv_map {k x : D} {kk : Key} {v : V} (hk : scK k = some kk) (rx : Rp K H F x v) : ∀ {l : List (D × D)} {ks : List (Key × V)}, KvR K H F l ks →
    KvR K H F (l.map fun p => if eqv p.1 k then (p.1, x) else p) (ks.map fun p => if p.1 = kk then (p.1, v) else p) := by
  intro l
  induction l with
  | nil => intro ks hr; simp only [KvR] at hr; subst hr; simp [KvR]
  | cons p l ih =>
    intro ks hr
    obtain ⟨d, y⟩ := p
    simp only [KvR] at hr
    obtain ⟨k1, w, r, rfl, e1, ry, hr⟩ := hr
    have ee := eqv_s e1 hk
    simp only [List.map_cons]
    by_cases h : k1 = kk
    · rw [if_pos (by rw [ee]; exact decide_eq_true h), if_pos h]
      simp only [KvR]
      exact ⟨k1, v, _, rfl, e1, rx, ih hr⟩
    · rw [if_neg (by rw [ee, decide_eq_false h]; exact Bool.false_ne_true), if_neg h]
      simp only [KvR]
      exact ⟨k1, w, _, rfl, e1, ry, ih hr⟩
theorem kv_snoc {k x : D} {kk : Key} {v : V} (hk : scK k = some kk) (rx : Rp K H F x v) : ∀ {l : List (D × D)} {ks : List (Key × V)}, KvR K H F l ks → KvR K H F (l ++ [(k, x)]) (ks ++ [(kk, v)]) := by
  intro l
  induction l with
  | nil => intro ks hr; simp only [KvR] at hr; subst hr; simp only [List.nil_append, KvR]; exact ⟨kk, v, [], rfl, hk, rx, rfl⟩
  | cons p l ih =>
    intro ks hr
    obtain ⟨d, y⟩ := p
    simp only [KvR] at hr
    obtain ⟨k1, w, r, rfl, e1, ry, hr⟩ := hr
    simp only [List.cons_append, KvR]
    exact ⟨k1, w, _, rfl, e1, ry, ih hr⟩
theorem kv_put {k x : D} {kk : Key} {v : V} (hk : scK k = some kk) (rx : Rp K H F x v) {l : List (D × D)} {ks : List (Key × V)} (h : KvR K H F l ks) : KvR K H F (putD l k x) (putK ks kk v) := by
  have hl := look_s hk h
  cases e : look l k with
  | some d =>
    rw [e] at hl
    obtain ⟨w, hv, _⟩ := hl
    have e2 : putK ks kk v = ks.map fun p => if p.1 = kk then (p.1, v) else p := by
      unfold putK
      rw [if_pos (by rw [valV_any, hv]; rfl)]
    rw [e2]; unfold putD; rw [e]
    exact kv_map hk rx h
  | none =>
    rw [e] at hl
    rw [putK_new v hl]; unfold putD; rw [e]
    exact kv_snoc hk rx h
theorem kv_len : ∀ {l : List (D × D)} {ks : List (Key × V)}, KvR K H F l ks → ks.length = l.length := by
  intro l
  induction l with
  | nil => intro ks hr; simp only [KvR] at hr; subst hr; rfl
  | cons p l ih =>
    intro ks hr
    obtain ⟨d, y⟩ := p
    simp only [KvR] at hr
    obtain ⟨k1, w, r, rfl, e1, ry, hr⟩ := hr
    simp [ih hr]
theorem nv_len : ∀ {l : List (D × D)} {ks : List (NestedKey × Addr × V)}, NvR K H F l ks → ks.length = l.length := by
  intro l
  induction l with
  | nil => intro ks hr; simp only [NvR] at hr; subst hr; rfl
  | cons p l ih =>
    intro ks hr
    obtain ⟨d, y⟩ := p
    simp only [NvR] at hr
    obtain ⟨b, w, r, ds, rfl, rfl, _, _, _, hr⟩ := hr
    simp [ih hr]
theorem nv_map {k x : D} {v : V} {r : Value} {b : Addr} (k8 : keyd 8 k = true) (rx : Rp K H F x v) (rr : RelV v r) : ∀ {l : List (D × D)} {xs : List (NestedKey × Addr × V)} {ys : List (NestedKey × Addr × Value)}, NvR K H F l xs → NYR xs ys →
    ∃ xs', NvR K H F (l.map fun p => if eqv p.1 k then (p.1, x) else p) xs' ∧ NYR xs' (ys.map (putAt (toNK k) r)) ∧ xs'.length = xs.length := by
  intro l
  induction l with
  | nil => intro xs ys hr hp; simp only [NvR] at hr; subst hr; cases hp; exact ⟨[], by simp [NvR], .nil, rfl⟩
  | cons p l ih =>
    intro xs ys hr hp
    obtain ⟨d, y⟩ := p
    simp only [NvR] at hr
    obtain ⟨a, w, rest, ds, rfl, rfl, h8, rd, ry, hr⟩ := hr
    cases hp with
    | @cons _ q _ qs hq t =>
      obtain ⟨q1, q2, q3⟩ := hq
      obtain ⟨xs', i1, i2, i3⟩ := ih hr t
      have ee : eqv (.tup ds) k = decide (toNK (.tup ds) = toNK k) := by rw [NestedKey.decide_eq, eqv_NK 8 8 _ _ h8 k8]
      simp only [List.map_cons]
      by_cases h : toNK (.tup ds) = toNK k
      · rw [if_pos (by rw [ee]; exact decide_eq_true h)]
        refine ⟨(toNK (.tup ds), a, v) :: xs', ?_, .cons ?_ i2, by simp [i3]⟩
        · simp only [NvR]; exact ⟨a, v, xs', ds, rfl, rfl, h8, rd, rx, i1⟩
        · have : putAt (toNK k) r q = (q.1, q.2.1, r) := by unfold putAt; rw [if_pos (q1.symm.trans h)]
          rw [this]; exact ⟨q1, q2, rr⟩
      · rw [if_neg (by rw [ee, decide_eq_false h]; exact Bool.false_ne_true)]
        refine ⟨(toNK (.tup ds), a, w) :: xs', ?_, .cons ?_ i2, by simp [i3]⟩
        · simp only [NvR]; exact ⟨a, w, xs', ds, rfl, rfl, h8, rd, ry, i1⟩
        · have : putAt (toNK k) r q = q := by unfold putAt; rw [if_neg (fun z => h (q1.trans z))]
          rw [this]; exact ⟨q1, q2, q3⟩
theorem nv_snoc {k x : D} {v : V} {r : Value} {b : Addr} {dk : List D} (ek : k = .tup dk) (k8 : keyd 8 k = true) (rk : Rp K H F k (.ref b)) (rx : Rp K H F x v) (rr : RelV v r) : ∀ {l : List (D × D)} {xs : List (NestedKey × Addr × V)} {ys : List (NestedKey × Addr × Value)}, NvR K H F l xs → NYR xs ys →
    NvR K H F (l ++ [(k, x)]) (xs ++ [(toNK k, b, v)]) ∧ NYR (xs ++ [(toNK k, b, v)]) (ys ++ [(toNK k, b, r)]) := by
  intro l
  induction l with
  | nil =>
    intro xs ys hr hp; simp only [NvR] at hr; subst hr; cases hp
    refine ⟨?_, .cons ⟨rfl, rfl, rr⟩ .nil⟩
    simp only [List.nil_append, NvR]
    exact ⟨b, v, [], dk, rfl, ek, k8, rk, rx, rfl⟩
  | cons p l ih =>
    intro xs ys hr hp
    obtain ⟨d, y⟩ := p
    simp only [NvR] at hr
    obtain ⟨a, w, rest, ds, rfl, rfl, h8, rd, ry, hr⟩ := hr
    cases hp with
    | cons hq t =>
      obtain ⟨i1, i2⟩ := ih hr t
      refine ⟨?_, .cons hq i2⟩
      simp only [List.cons_append, NvR]
      exact ⟨a, w, _, ds, rfl, rfl, h8, rd, ry, i1⟩
theorem nv_put {k x : D} {v : V} {r : Value} {b : Addr} {dk : List D} (ek : k = .tup dk) (k8 : keyd 8 k = true) (rk : Rp K H F k (.ref b)) (rx : Rp K H F x v) (rr : RelV v r) {l : List (D × D)} {xs : List (NestedKey × Addr × V)} {ys : List (NestedKey × Addr × Value)}
    (h : NvR K H F l xs) (hy : NYR xs ys) : ∃ xs', NvR K H F (putD l k x) xs' ∧ NYR xs' (storedH ys (toNK k) b r) ∧ xs'.length ≤ xs.length + 1 := by
  have hl := look_n k8 h hy
  cases e : look l k with
  | some d =>
    rw [e] at hl
    obtain ⟨p, w, h1, _, _⟩ := hl
    obtain ⟨xs', i1, i2, i3⟩ := nv_map (b := b) k8 rx rr h hy
    refine ⟨xs', ?_, ?_, by omega⟩
    · unfold putD; rw [e]; exact i1
    · rw [storedH_old h1]; exact i2
  | none =>
    rw [e] at hl
    obtain ⟨i1, i2⟩ := nv_snoc ek k8 rk rx rr h hy
    refine ⟨xs ++ [(toNK k, b, v)], ?_, ?_, by simp⟩
    · unfold putD; rw [e]; exact i1
    · rw [storedH_new hl]; exact i2
end

section
variable {cl : Cl} {X : Cx} {pins : List (Addr × Obj)} {σ : L2.St} {H : Hp} {F : Fz} {s : Shared} {S : Store}
/-- a[k], a a dict of the store; k in a -/
theorem Sim.dct {C : Ct} (m : Sim C H F S) {p : Addr} {l : List (D × D)} (h : S p = some (.dct l)) : ∃ ks, H p = some (.dK ks) ∧ KvR C.K H F l ks := by
  obtain ⟨_, u, e, ks, rfl, r⟩ := m.o p _ h; exact ⟨ks, e, r⟩
theorem Sim.dcT {C : Ct} (m : Sim C H F S) {p : Addr} {l : List (D × D)} (h : S p = some (.dcT l)) : ∃ xs, H p = some (dNO C.P C.w p xs) ∧ NvR C.K H F l xs := by
  obtain ⟨_, u, e, ks, rfl, r⟩ := m.o p _ h; exact ⟨ks, e, r⟩
theorem Sim.lst {C : Ct} (m : Sim C H F S) {p : Addr} {l : List D} (h : S p = some (.lst l)) : ∃ vs, H p = some (.lst vs) ∧ RpAll C.K H F l vs := by
  obtain ⟨_, u, e, ks, rfl, r⟩ := m.o p _ h; exact ⟨ks, e, r⟩
/-- o[i] -/
def kIx : W2 := fun a b S Q => match a, b with
  | .lst xs, .int i => orF (atI xs i) fun d => Q d S
  | .tup xs, .int i => orF (atI xs i) fun d => Q d S
  | .scr xs, .int i => orF (atI xs i) fun d => Q (.int d) S
  | .str z, .int i => z.length ≤ sizeLine ∧ orF (atI z.cps.toList i) fun c => Q (.str ⟨#[c]⟩) S
  | .ref p, k => match S p with
    | some (.lst xs) => match k with
      | .int i => orF (atI xs i) fun d => Q d S
      | _ => False
    | some (.dct l) => orF (scK k) fun _ => orF (look l k) fun d => Q d S
    | some (.dcT l) => match k with
      | .tup ds => keyd 8 (.tup ds) = true ∧ orF (look l (.tup ds)) fun d => Q d S
      | _ => False
    | none => False
  | _, _ => False
theorem atI_rp {K : PySem.W.Frag} {xs : List D} {vs : List V} {i : Int} {d : D} (r : RpAll K H F xs vs) (h : atI xs i = some d) : ∃ v, atI vs i = some v ∧ Rp K H F d v := by
  obtain ⟨j, h1, h2, h3, _⟩ := atI_get h
  obtain ⟨v, e, rv⟩ := r.get h2
  refine ⟨v, ?_, rv⟩
  unfold atI at h ⊢
  rw [r.len]
  cases q : ixN xs.length i with
  | none => rw [q] at h; cases h
  | some k =>
    rw [q] at h
    have h' : xs[k]? = some d := h
    obtain ⟨v', e', rv'⟩ := r.get h'
    show vs[k]? = some v
    have hk := (ixN_seq q).1
    rw [h1] at hk
    cases hk
    exact e
/-- the rule by values, for a dict's subscript -/
theorem ix_of_get {value slice : Expr} {v u : Value} {T id : String} {Q : Value → Shared → Prop} {prog : Program} {w : World} {A : Around} {E : Value → Shared → Prop} (hl : typeLookup (.type T) "__getitem__" = pure (some (.builtin id)))
    (hs : subscripted slice false v u = operate [v, u] (getItem v u)) (hT : s.TypeIs v T) (h : wpAny (model prog w) A (getItem v u) Q E s) : wpAny (model prog w) A (PyProof.Rows.subscriptTail value slice v u) Q E s := by
  unfold PyProof.Rows.subscriptTail
  refine wpAny_bind ?_
  rw [getitemInPython_of_ne hT.not_modules]
  refine wpAny_bind (wpAny_specialOf hT hl ?_)
  have fin : wpAny (model prog w) A (subscripted slice false v u) (fun r s₃ => wpAny (model prog w) A (letTemporaryGo value v r >>= fun _ => pure r) Q E s₃) E s := by
    rw [hs]
    exact wpAny_operating (wpAny_mono h (fun r s₃ h₃ => wpAny_bind (wpAny_letTemporaryGo (wpAny_pure h₃))) fun _ _ x => x)
  first
    | exact wpAny_pure (wpAny_bind fin)
    | exact wpAny_bind (wpAny_pure (wpAny_bind fin))
    | exact wpAny_bind fin
end
end J
set_option Elab.async false
set_option linter.all false
set_option maxRecDepth 100000
namespace J
open PySem PySem.Spec L2
open PyProof.Rows (b2i)

section
variable {cl : Cl} {X : Cx} {e a b c : Expr} {es : List Expr} {pos pos' : Pos} {wa wb wc : WE} {pins : List (Addr × Obj)} {σ : L2.St} {H : Hp} {F : Fz} {s : Shared} {S : Store}
/-! ### o[i] -/
theorem ix_J (hu : X.A.units + 64 < cLine) : IxR X (rJ (Cof X cl) kIx) := by
  intro value slice pins s σ H x y v u Q I rx ry ⟨F, S, a, b, Qd, m, r1, r2, q, to⟩ hs
  unfold kIx at q
  split at q
  · simp only [Rp] at r1 r2
    obtain ⟨p, vs, rfl, h1, k1⟩ := r1
    obtain ⟨d, e1, q1⟩ := orF_iff.mp q
    obtain ⟨w, e2, r⟩ := atI_rp k1 e1
    exact ix_list value slice pins s σ H _ y v u Q I rx ry ⟨p, vs, _, w, rfl, r2, SqL.of h1.2, e2, to.here m r q1⟩ hs
  · simp only [Rp] at r1 r2
    obtain ⟨p, vs, rfl, h1, k1⟩ := r1
    obtain ⟨d, e1, q1⟩ := orF_iff.mp q
    obtain ⟨w, e2, r⟩ := atI_rp k1 e1
    exact ix_tup value slice pins s σ H _ y v u Q I rx ry ⟨p, vs, _, w, rfl, r2, h1, e2, to.here m r q1⟩ hs
  · simp only [Rp] at r1 r2
    obtain ⟨p, rfl, h1⟩ := r1
    obtain ⟨d, e1, q1⟩ := orF_iff.mp q
    refine ix_list value slice pins s σ H _ y v u Q I rx ry ⟨p, _, _, .int d, rfl, r2, h1.sq, ?_, to.here m rp_int q1⟩ hs
    unfold atI at e1 ⊢
    rw [List.length_map]
    rename_i xs i
    cases q : ixN xs.length i with
    | none => rw [q] at e1; cases e1
    | some k =>
      rw [q] at e1
      have h' : xs[k]? = some d := e1
      show (xs.map V.int)[k]? = some (.int d)
      rw [List.getElem?_map, h']; rfl
  · simp only [Rp] at r1 r2
    obtain ⟨z, q⟩ := q
    obtain ⟨d, e1, q1⟩ := orF_iff.mp q
    exact ix_str value slice pins s σ H _ y v u Q I rx ry ⟨_, _, d, r1, r2, z, e1, to.here m rp_str q1⟩ hs
  · simp only [Rp] at r1
    subst r1
    split at q
    · rename_i p k xs e
      split at q
      · simp only [Rp] at r2
        obtain ⟨vs, h1, k1⟩ := m.lst e
        obtain ⟨d, e1, q1⟩ := orF_iff.mp q
        obtain ⟨w, e2, r⟩ := atI_rp k1 e1
        exact ix_list value slice pins s σ H _ y v u Q I rx ry ⟨p, vs, _, w, rfl, r2, SqL.of h1, e2, to.here m r q1⟩ hs
      · exact q.elim
    · rename_i p k l e
      obtain ⟨kk, e0, q⟩ := orF_iff.mp q
      obtain ⟨d, e1, q1⟩ := orF_iff.mp q
      obtain ⟨ks, h1, k1⟩ := m.dct e
      have hl := look_s e0 k1
      rw [e1] at hl
      obtain ⟨w, e2, r⟩ := hl
      have g : DGet H p y (some w) := by rw [scK_rp e0 r2, ← e2]; exact DGet.k h1
      cases (show v = Value.ref p from rx)
      exact ix_of_get PySem.F.slot_dict_getitem.lookup hs (dict_typeIs I g) (d_getItem (by omega) I g ry fun w' s' I' rw' => ⟨w, H, I', rw', to.here m r q1⟩)
    · rename_i p k l e
      split at q
      · obtain ⟨k8, q⟩ := q
        obtain ⟨d, e1, q1⟩ := orF_iff.mp q
        obtain ⟨xs, h1, k1⟩ := m.dcT e
        obtain ⟨g1, g2, ys, g3, g4⟩ := dn_rd I h1 k1
        have hl := look_n k8 k1 g3
        rw [e1] at hl
        obtain ⟨p', w, e2, r, rv⟩ := hl
        cases (show v = Value.ref p from rx)
        have hn := nested_of I 8 _ y u k8 r2 ry
        simp only [Rp] at r2
        obtain ⟨t, _, rfl, _, _⟩ := r2
        cases (show u = Value.ref t from ry)
        exact ix_of_get PySem.F.slot_dict_getitem.lookup hs g4.typeIs (wpAny_getItem_heap (knd := nestedKind X.prog X.w) (by show X.A.units + 1 + 8 < cLine; omega) ⟨hn, depth_NK 8 _ k8⟩ g4 e2 ⟨w, H, I.tok _, rv, to.here m r q1⟩)
      · exact q.elim
    · exact q.elim
  · exact q.elim
theorem je_ix (hu : X.A.units + 64 < cLine) (ha : JE cl X a wa) (hb : JE cl X b wb) (hs : PlainIx b := by exact fun _ _ => rfl) : JE cl X (.Subscript a b pos) (w2 kIx wa wb) := (pe_ix (ix_J hu) ha hb hs).imp fun _ _ _ h => w2_en h

/-! ### in -/
def kInB (neg : Bool) : W2 := fun a b S Q => match b with
  | .lst xs => shp 60 a = true ∧ shps 60 xs = true ∧ Q (.bl (neg != xs.any fun y => eqv y a)) S
  | .tup xs => shp 60 a = true ∧ shps 60 xs = true ∧ Q (.bl (neg != xs.any fun y => eqv y a)) S
  | .str z => match a with
    | .str y => Q (.bl (neg != !(Builtin.Str.occurrences z y 0 z.length 1).isEmpty)) S
    | _ => False
  | .ref p => match S p with
    | some (.lst xs) => shp 60 a = true ∧ shps 60 xs = true ∧ Q (.bl (neg != xs.any fun y => eqv y a)) S
    | some (.dct l) => orF (scK a) fun _ => Q (.bl (neg != (look l a).isSome)) S
    | some (.dcT l) => match a with
      | .tup ds => keyd 8 (.tup ds) = true ∧ Q (.bl (neg != (look l (.tup ds)).isSome)) S
      | _ => False
    | none => False
  | _ => False
theorem reads_list (I : L2.Inv X pins σ H s) {p : Addr} {vs : List V} {xs : List D} (h : H p = some (.lst vs)) (r : RpAll X.K H F xs vs) (hs : shps 60 xs = true) : ∃ as, Reads s.heap (.ref p) (.list (toPys xs)) as := by
  obtain ⟨its, rv, ⟨o, k, ho, hc, _, hd⟩, _⟩ := I.list (SqL.of h)
  obtain ⟨as, q⟩ := reads_all I 60 xs vs its hs r rv
  exact ⟨_, Reads.list ho hc hd q⟩
theorem reads_tup (I : L2.Inv X pins σ H s) {p : Addr} {vs : List V} {xs : List D} (h : SqT X.K H p vs) (r : RpAll X.K H F xs vs) (hs : shps 60 xs = true) : ∃ as, Reads s.heap (.ref p) (.tuple (toPys xs)) as := by
  obtain ⟨its, rv, ⟨o, ho, hc, k, hd⟩, _⟩ := I.tuple h
  obtain ⟨as, q⟩ := reads_all I 60 xs vs its hs r rv
  exact ⟨_, Reads.tuple ho hc hd q⟩
theorem jo_in (hu : X.A.units + 64 < cLine) : OpJ cl X (compareOp .In) (kInB false) := by
  intro pins s σ H F S x y v u a b Qd Q I m rx ry r1 r2 q to
  unfold kInB at q
  have seqL : ∀ {p : Addr} {vs : List V} {xs : List D}, y = .ref p → H p = some (.lst vs) → RpAll X.K H F xs vs → shp 60 a = true → shps 60 xs = true → Qd (.bl (false != xs.any fun y => eqv y a)) S → wpAny (model X.prog X.w) X.A (compareOp .In v u) (EP X pins σ Q) X.xe s := by
    intro p vs xs ey h1 k1 ha hx q
    subst ey
    cases (show u = Value.ref p from ry)
    obtain ⟨as, rc⟩ := reads_list I h1 k1 hx
    obtain ⟨bs, ra⟩ := reads_of I 60 a x v ha r1 rx
    refine PySem.SeqAt.in_list_data rc ra (plain_toPys _ _ hx) (plain_toPy _ _ ha) (room65 hu ha) ?_
    rw [any_toPys ha xs hx]
    exact ⟨.bl _, H, I, rfl, to.here m rp_bl (by simpa using q)⟩
  split at q
  · simp only [Rp] at r2
    obtain ⟨p, vs, ey, h1, k1⟩ := r2
    exact seqL ey h1.2 k1 q.1 q.2.1 q.2.2
  · simp only [Rp] at r2
    obtain ⟨p, vs, rfl, h1, k1⟩ := r2
    cases (show u = Value.ref p from ry)
    obtain ⟨ha, hx, q⟩ := q
    obtain ⟨as, rc⟩ := reads_tup I h1 k1 hx
    obtain ⟨bs, ra⟩ := reads_of I 60 a x v ha r1 rx
    refine PySem.SeqAt.in_tuple_data rc ra (plain_toPys _ _ hx) (plain_toPy _ _ ha) (room65 hu ha) ?_
    rw [any_toPys ha _ hx]
    exact ⟨.bl _, H, I, rfl, to.here m rp_bl (by simpa using q)⟩
  · split at q
    · simp only [Rp] at r1 r2
      exact op_in_str pins s σ H x y v u Q I rx ry ⟨_, _, r1, r2, to.here m rp_bl (by simpa using q)⟩
    · exact q.elim
  · rename_i p
    simp only [Rp] at r2
    split at q
    · rename_i xs e
      obtain ⟨vs, h1, k1⟩ := m.lst e
      exact seqL r2 h1 k1 q.1 q.2.1 q.2.2
    · rename_i l e
      subst r2
      obtain ⟨kk, e0, q⟩ := orF_iff.mp q
      obtain ⟨ks, h1, k1⟩ := m.dct e
      have hl := look_s e0 k1
      have g : DGet H p x (valV ks kk) := by rw [scK_rp e0 r1]; exact DGet.k h1
      cases (show u = Value.ref p from ry)
      refine d_in (by omega) I g rx fun s' I' => ⟨.bl _, H, I', rfl, to.here m rp_bl ?_⟩
      have e2 : (valV ks kk).isSome = (look l a).isSome := by
        cases q2 : look l a with
        | none => rw [q2] at hl; rw [hl]; rfl
        | some d => rw [q2] at hl; obtain ⟨w, h, _⟩ := hl; rw [h]; rfl
      rw [e2]; simpa using q
    · rename_i l e
      subst r2
      split at q
      · rename_i ds
        obtain ⟨k8, q⟩ := q
        obtain ⟨xs, h1, k1⟩ := m.dcT e
        obtain ⟨g1, g2, ys, g3, g4⟩ := dn_rd I h1 k1
        have hl := look_n k8 k1 g3
        cases (show u = Value.ref p from ry)
        have hn := nested_of I 8 _ x v k8 r1 rx
        simp only [Rp] at r1
        obtain ⟨t, _, rfl, _, _⟩ := r1
        cases (show v = Value.ref t from rx)
        refine wpAny_in_heap (knd := nestedKind X.prog X.w) (by show X.A.units + 1 + 8 < cLine; omega) ⟨hn, depth_NK 8 _ k8⟩ g1 g4 ⟨.bl _, H, I.tok _, rfl, to.here m rp_bl ?_⟩
        have e2 : (atKey ys (toNK (.tup ds))).isSome = (look l (.tup ds)).isSome := by
          cases q2 : look l (.tup ds) with
          | none => rw [q2] at hl; rw [hl]; rfl
          | some d => rw [q2] at hl; obtain ⟨w, _, h, _⟩ := hl; rw [h]; rfl
        rw [e2]; simpa using q
      · exact q.elim
    · exact q.elim
  · exact q.elim
theorem jo_notIn (hu : X.A.units + 64 < cLine) : OpJ cl X (compareOp .NotIn) (kInB true) := by
  intro pins s σ H F S x y v u a b Qd Q I m rx ry r1 r2 q to
  unfold kInB at q
  have seqL : ∀ {p : Addr} {vs : List V} {xs : List D}, y = .ref p → H p = some (.lst vs) → RpAll X.K H F xs vs → shp 60 a = true → shps 60 xs = true → Qd (.bl (true != xs.any fun y => eqv y a)) S → wpAny (model X.prog X.w) X.A (compareOp .NotIn v u) (EP X pins σ Q) X.xe s := by
    intro p vs xs ey h1 k1 ha hx q
    subst ey
    cases (show u = Value.ref p from ry)
    obtain ⟨as, rc⟩ := reads_list I h1 k1 hx
    obtain ⟨bs, ra⟩ := reads_of I 60 a x v ha r1 rx
    refine PySem.SeqAt.notIn_list_data rc ra (plain_toPys _ _ hx) (plain_toPy _ _ ha) (room65 hu ha) ?_
    rw [any_toPys ha xs hx]
    exact ⟨.bl _, H, I, rfl, to.here m rp_bl (by simpa using q)⟩
  split at q
  · simp only [Rp] at r2
    obtain ⟨p, vs, ey, h1, k1⟩ := r2
    exact seqL ey h1.2 k1 q.1 q.2.1 q.2.2
  · simp only [Rp] at r2
    obtain ⟨p, vs, rfl, h1, k1⟩ := r2
    cases (show u = Value.ref p from ry)
    obtain ⟨ha, hx, q⟩ := q
    obtain ⟨as, rc⟩ := reads_tup I h1 k1 hx
    obtain ⟨bs, ra⟩ := reads_of I 60 a x v ha r1 rx
    refine PySem.SeqAt.notIn_tuple_data rc ra (plain_toPys _ _ hx) (plain_toPy _ _ ha) (room65 hu ha) ?_
    rw [any_toPys ha _ hx]
    exact ⟨.bl _, H, I, rfl, to.here m rp_bl (by simpa using q)⟩
  · split at q
    · simp only [Rp] at r1 r2
      exact op_notIn_str pins s σ H x y v u Q I rx ry ⟨_, _, r1, r2, to.here m rp_bl (by simpa using q)⟩
    · exact q.elim
  · rename_i p
    simp only [Rp] at r2
    split at q
    · rename_i xs e
      obtain ⟨vs, h1, k1⟩ := m.lst e
      exact seqL r2 h1 k1 q.1 q.2.1 q.2.2
    · rename_i l e
      subst r2
      obtain ⟨kk, e0, q⟩ := orF_iff.mp q
      obtain ⟨ks, h1, k1⟩ := m.dct e
      have hl := look_s e0 k1
      have g : DGet H p x (valV ks kk) := by rw [scK_rp e0 r1]; exact DGet.k h1
      cases (show u = Value.ref p from ry)
      refine d_notIn (by omega) I g rx fun s' I' => ⟨.bl _, H, I', rfl, to.here m rp_bl ?_⟩
      have e2 : (valV ks kk).isSome = (look l a).isSome := by
        cases q2 : look l a with
        | none => rw [q2] at hl; rw [hl]; rfl
        | some d => rw [q2] at hl; obtain ⟨w, h, _⟩ := hl; rw [h]; rfl
      rw [e2]; simpa using q
    · rename_i l e
      subst r2
      split at q
      · rename_i ds
        obtain ⟨k8, q⟩ := q
        obtain ⟨xs, h1, k1⟩ := m.dcT e
        obtain ⟨g1, g2, ys, g3, g4⟩ := dn_rd I h1 k1
        have hl := look_n k8 k1 g3
        cases (show u = Value.ref p from ry)
        have hn := nested_of I 8 _ x v k8 r1 rx
        simp only [Rp] at r1
        obtain ⟨t, _, rfl, _, _⟩ := r1
        cases (show v = Value.ref t from rx)
        refine PyProof.Rows.wpAny_notIn_heap (knd := nestedKind X.prog X.w) (by show X.A.units + 1 + 8 < cLine; omega) ⟨hn, depth_NK 8 _ k8⟩ g1 g4 ⟨.bl _, H, I.tok _, rfl, to.here m rp_bl ?_⟩
        have e2 : (atKey ys (toNK (.tup ds))).isSome = (look l (.tup ds)).isSome := by
          cases q2 : look l (.tup ds) with
          | none => rw [q2] at hl; rw [hl]; rfl
          | some d => rw [q2] at hl; obtain ⟨w, _, h, _⟩ := hl; rw [h]; rfl
        rw [e2]; simpa using q
      · exact q.elim
    · exact q.elim
  · exact q.elim
end
end J
set_option Elab.async false
set_option linter.all false
set_option maxRecDepth 100000
namespace J
open PySem PySem.Spec L2
open PyProof.Rows (b2i)

section
variable {cl : Cl} {X : Cx} {e a b c : Expr} {es : List Expr} {pos pos' : Pos} {wa wb wc : WE} {pins : List (Addr × Obj)} {σ : L2.St} {H : Hp} {F : Fz} {s : Shared} {S : Store}
/-! ### is -/
def isNon : D → Bool | .non => true | _ => false
def kIsB (neg : Bool) : W2 := fun a b S Q => match b with
  | .non => Q (.bl (neg != isNon a)) S
  | .bl y => match a with
    | .bl x => Q (.bl (neg != decide (x = y))) S
    | _ => Q (.bl neg) S
  | _ => False
theorem isNon_rp {K : PySem.W.Frag} {d : D} {v : V} (r : Rp K H F d v) : decide (v = .non) = isNon d := by
  cases d <;> simp only [Rp] at r <;> first
    | (subst r; simp [isNon]; done)
    | (obtain ⟨_, _, rfl, _⟩ := r; simp [isNon]; done)
    | (obtain ⟨_, rfl, _⟩ := r; simp [isNon]; done)
theorem op_isNB {neg : Bool} : OpR X (compareOp (if neg then .IsNot else .Is)) (fun x y H Q => (∀ c, x ≠ .bl c) ∧ (∀ n, x ≠ .ty n) ∧ (∀ n, x ≠ .byt n) ∧ (∀ n, x ≠ .flt n) ∧ ∃ b, y = .bl b ∧ Q (.bl neg) H) := by
  intro pins s σ H x y v u Q I rx ry h
  obtain ⟨h1, h2, h3, h4, b, rfl, q⟩ := h
  cases (show u = Value.bool b from ry)
  cases x with
  | bl c => exact absurd rfl (h1 c)
  | ty c => exact absurd rfl (h2 c)
  | byt c => exact absurd rfl (h3 c)
  | flt c => exact absurd rfl (h4 c)
  | non =>
    cases (show v = Value.none from rx)
    cases neg with
    | false => exact wpAny_is_other rfl (fun z => (nomatch z)) ⟨.bl false, H, I, rfl, q⟩
    | true => exact wpAny_isNot_other rfl (fun z => (nomatch z)) ⟨.bl true, H, I, rfl, q⟩
  | int i =>
    obtain ⟨t, rfl⟩ := rx
    cases neg with
    | false => exact wpAny_is_other rfl (fun z => (nomatch z)) ⟨.bl false, H, I, rfl, q⟩
    | true => exact wpAny_isNot_other rfl (fun z => (nomatch z)) ⟨.bl true, H, I, rfl, q⟩
  | str i =>
    obtain ⟨t, rfl⟩ := rx
    cases neg with
    | false => exact wpAny_is_other rfl (fun z => (nomatch z)) ⟨.bl false, H, I, rfl, q⟩
    | true => exact wpAny_isNot_other rfl (fun z => (nomatch z)) ⟨.bl true, H, I, rfl, q⟩
  | ref a =>
    cases rx
    cases neg with
    | false => exact wpAny_is_other rfl (fun z => (nomatch z)) ⟨.bl false, H, I, rfl, q⟩
    | true => exact wpAny_isNot_other rfl (fun z => (nomatch z)) ⟨.bl true, H, I, rfl, q⟩
theorem rp_kind {K : PySem.W.Frag} {d : D} {v : V} (r : Rp K H F d v) (h : ∀ c, d ≠ .bl c) : (∀ c, v ≠ .bl c) ∧ (∀ n, v ≠ .ty n) ∧ (∀ n, v ≠ .byt n) ∧ (∀ n, v ≠ .flt n) := by
  cases d with
  | bl c => exact absurd rfl (h c)
  | tup l => simp only [Rp] at r; obtain ⟨p, vs, rfl, _⟩ := r; exact ⟨fun _ z => (nomatch z), fun _ z => (nomatch z), fun _ z => (nomatch z), fun _ z => (nomatch z)⟩
  | lst l => simp only [Rp] at r; obtain ⟨p, vs, rfl, _⟩ := r; exact ⟨fun _ z => (nomatch z), fun _ z => (nomatch z), fun _ z => (nomatch z), fun _ z => (nomatch z)⟩
  | scr l => simp only [Rp] at r; obtain ⟨p, rfl, _⟩ := r; exact ⟨fun _ z => (nomatch z), fun _ z => (nomatch z), fun _ z => (nomatch z), fun _ z => (nomatch z)⟩
  | _ => simp only [Rp] at r; subst r; exact ⟨fun _ z => (nomatch z), fun _ z => (nomatch z), fun _ z => (nomatch z), fun _ z => (nomatch z)⟩
theorem jo_is : OpJ cl X (compareOp .Is) (kIsB false) := by
  intro pins s σ H F S x y v u a b Qd Q I m rx ry r1 r2 q to
  unfold kIsB at q
  split at q
  · simp only [Rp] at r2
    exact op_isN pins s σ H x y v u Q I rx ry ⟨r2, to.here m rp_bl (by rw [isNon_rp r1]; simpa using q)⟩
  · split at q
    · simp only [Rp] at r1 r2
      exact op_isBl pins s σ H x y v u Q I rx ry ⟨_, _, r1, r2, to.here m rp_bl (by simpa using q)⟩
    · rename_i hnb
      obtain ⟨k1, k2, k3, k4⟩ := rp_kind r1 (fun c e => hnb c e)
      simp only [Rp] at r2
      exact op_isNB (neg := false) pins s σ H x y v u Q I rx ry ⟨k1, k2, k3, k4, _, r2, to.here m rp_bl q⟩
  · exact q.elim
theorem jo_isNot : OpJ cl X (compareOp .IsNot) (kIsB true) := by
  intro pins s σ H F S x y v u a b Qd Q I m rx ry r1 r2 q to
  unfold kIsB at q
  split at q
  · simp only [Rp] at r2
    exact op_notN pins s σ H x y v u Q I rx ry ⟨r2, to.here m rp_bl (by rw [isNon_rp r1]; simpa using q)⟩
  · split at q
    · simp only [Rp] at r1 r2
      exact op_notBl pins s σ H x y v u Q I rx ry ⟨_, _, r1, r2, to.here m rp_bl (by simpa using q)⟩
    · rename_i hnb
      obtain ⟨k1, k2, k3, k4⟩ := rp_kind r1 (fun c e => hnb c e)
      simp only [Rp] at r2
      exact op_isNB (neg := true) pins s σ H x y v u Q I rx ry ⟨k1, k2, k3, k4, _, r2, to.here m rp_bl q⟩
  · exact q.elim

/-! ### tests -/
def kB : D → (Bool → Prop) → Prop | .bl b, k => k b | _, _ => False
theorem kB_inv {d : D} {k : Bool → Prop} (h : kB d k) : ∃ b, d = .bl b ∧ k b := by cases d <;> first | exact h.elim | exact ⟨_, rfl, h⟩
def wTst (wa : WE) : WT := fun g S k => wa g S fun d S1 => kB d fun b => k b S1
theorem tst_en {C : Ct} {Q : Bool → Hp → Prop} (h : tT C (wTst wa) σ H Q) : tB (tE C wa) σ H Q := by
  obtain ⟨F, S, g, Qd, m, r, w, to⟩ := h
  refine ⟨F, S, g, _, m, r, w, fun d S1 v1 H1 F1 q1 e1 m1 r1 => ?_⟩
  obtain ⟨b, rfl, q⟩ := kB_inv q1
  simp only [Rp] at r1
  exact ⟨b, r1, to b S1 H1 F1 q e1 m1⟩
theorem jt_val (h : JE cl X e wa) (he : ∀ whole, isTrue e X.env whole = (do let v ← whole; standAt e.pos; PySem.holding [v] (truthy v)) := by intro _; rfl) : JT cl X e (wTst wa) := (pt_val h he).imp fun _ _ _ h => tst_en h
theorem jt_cmp {op : CmpOp} {k : W2} (ho : OpJ cl X (compareOp op) k) (ha : JE cl X a wa) (hb : JE cl X b wb) (hm : behindInMarks op b = false := by first | exact nomark _ | rfl) : JT cl X (.Compare a [op] [b] pos) (wTst (w2 k wa wb)) :=
  (pt_cmpR ho.op ha hb hm).imp fun σ H Q h => by
    obtain ⟨F, S, g, Qd, m, r, w, to⟩ := h
    refine w2_en (σ := σ) (H := H) ⟨F, S, g, _, m, r, w, fun d S1 v1 H1 F1 q1 e1 m1 r1 => ?_⟩
    obtain ⟨b, rfl, q⟩ := kB_inv q1
    simp only [Rp] at r1
    exact ⟨b, r1, to b S1 H1 F1 q e1 m1⟩
def wAndT (t u : WT) : WT := fun g S k => t g S fun b S1 => if b = true then u g S1 k else k false S1
def wOrT (t u : WT) : WT := fun g S k => t g S fun b S1 => if b = true then k true S1 else u g S1 k
def wNotT (t : WT) : WT := fun g S k => t g S fun b S1 => k (!b) S1
variable {ta tb : WT} {rest : List Expr}
theorem and_en {C : Ct} {Q : Bool → Hp → Prop} (h : tT C (wAndT ta tb) σ H Q) : tAnd (tT C ta) (tT C tb) σ H Q := by
  obtain ⟨F, S, g, Qd, m, r, w, to⟩ := h
  refine ⟨F, S, g, _, m, r, w, fun b S1 H1 F1 q1 e1 m1 => ?_⟩
  cases b with
  | true => rw [if_pos rfl] at q1 ⊢; exact ⟨F1, S1, g, Qd, m1, r.ext e1, q1, fun b S2 H2 F2 q e m => to b S2 H2 F2 q (e1.trans e) m⟩
  | false => rw [if_neg Bool.false_ne_true] at q1 ⊢; exact to false S1 H1 F1 q1 e1 m1
theorem or_en {C : Ct} {Q : Bool → Hp → Prop} (h : tT C (wOrT ta tb) σ H Q) : tOr (tT C ta) (tT C tb) σ H Q := by
  obtain ⟨F, S, g, Qd, m, r, w, to⟩ := h
  refine ⟨F, S, g, _, m, r, w, fun b S1 H1 F1 q1 e1 m1 => ?_⟩
  cases b with
  | false => rw [if_neg Bool.false_ne_true] at q1 ⊢; exact ⟨F1, S1, g, Qd, m1, r.ext e1, q1, fun b S2 H2 F2 q e m => to b S2 H2 F2 q (e1.trans e) m⟩
  | true => rw [if_pos rfl] at q1 ⊢; exact to true S1 H1 F1 q1 e1 m1
theorem jw_and1 (h : JT cl X a ta) : JW cl X (.BoolOp .And [a] pos) ta := pw_and1 h
theorem jw_or1 (h : JT cl X a ta) : JW cl X (.BoolOp .Or [a] pos) ta := pw_or1 h
theorem jw_and (h : JT cl X a ta) (k : JW cl X (.BoolOp .And (b :: rest) pos) tb) : JW cl X (.BoolOp .And (a :: b :: rest) pos) (wAndT ta tb) := (pw_and h k).imp fun _ _ _ h => and_en h
theorem jw_or (h : JT cl X a ta) (k : JW cl X (.BoolOp .Or (b :: rest) pos) tb) : JW cl X (.BoolOp .Or (a :: b :: rest) pos) (wOrT ta tb) := (pw_or h k).imp fun _ _ _ h => or_en h
theorem jw_pt (h : JW cl X e ta) : JT cl X e ta := h.pt
theorem jt_not (h : JT cl X a ta) : JT cl X (.UnaryOp .Not a pos) (wNotT ta) := (pt_not h).imp fun σ H Q ⟨F, S, g, Qd, m, r, w, to⟩ =>
  ⟨F, S, g, _, m, r, w, fun b S1 H1 F1 q1 e1 m1 => to _ S1 H1 F1 q1 e1 m1⟩
/-- .. as values -/
def wAndV (wa wb : WE) : WE := fun g S Q => wa g S fun d S1 => kB d fun b => if b = true then wb g S1 Q else Q (.bl false) S1
def wOrV (wa wb : WE) : WE := fun g S Q => wa g S fun d S1 => kB d fun b => if b = true then Q (.bl true) S1 else wb g S1 Q
def wNotV (wa : WE) : WE := fun g S Q => wa g S fun d S1 => kB d fun b => Q (.bl (!b)) S1
theorem je_one {op} (h : JE cl X a wa) : JE cl X (.BoolOp op [a] pos) wa := pe_one h
theorem je_and (h : JE cl X a wa) (k : JE cl X (.BoolOp .And (b :: rest) pos) wb) : JE cl X (.BoolOp .And (a :: b :: rest) pos) (wAndV wa wb) := (pe_and h k).imp fun σ H Q ⟨F, S, g, Qd, m, r, w, to⟩ => by
  refine ⟨F, S, g, _, m, r, w, fun d S1 v1 H1 F1 q0 e1 m1 r1 => ?_⟩
  obtain ⟨b, rfl, q1⟩ := kB_inv q0
  simp only [Rp] at r1
  refine ⟨b, r1, ?_⟩
  cases b with
  | true => rw [if_pos rfl] at q1 ⊢; exact ⟨F1, S1, g, Qd, m1, r.ext e1, q1, rTo.ext to e1⟩
  | false => rw [if_neg Bool.false_ne_true] at q1 ⊢; exact to _ S1 _ H1 F1 q1 e1 m1 rp_bl
theorem je_or (h : JE cl X a wa) (k : JE cl X (.BoolOp .Or (b :: rest) pos) wb) : JE cl X (.BoolOp .Or (a :: b :: rest) pos) (wOrV wa wb) := (pe_or h k).imp fun σ H Q ⟨F, S, g, Qd, m, r, w, to⟩ => by
  refine ⟨F, S, g, _, m, r, w, fun d S1 v1 H1 F1 q0 e1 m1 r1 => ?_⟩
  obtain ⟨b, rfl, q1⟩ := kB_inv q0
  simp only [Rp] at r1
  refine ⟨b, r1, ?_⟩
  cases b with
  | false => rw [if_neg Bool.false_ne_true] at q1 ⊢; exact ⟨F1, S1, g, Qd, m1, r.ext e1, q1, rTo.ext to e1⟩
  | true => rw [if_pos rfl] at q1 ⊢; exact to _ S1 _ H1 F1 q1 e1 m1 rp_bl
theorem je_not (h : JE cl X a wa) : JE cl X (.UnaryOp .Not a pos) (wNotV wa) := (pe_not h).imp fun σ H Q ⟨F, S, g, Qd, m, r, w, to⟩ => by
  refine ⟨F, S, g, _, m, r, w, fun d S1 v1 H1 F1 q0 e1 m1 r1 => ?_⟩
  obtain ⟨b, rfl, q1⟩ := kB_inv q0
  simp only [Rp] at r1
  exact ⟨b, r1, to _ S1 _ H1 F1 q1 e1 m1 rp_bl⟩
/-- a if t else b -/
def wIfE (t : WT) (wa wb : WE) : WE := fun g S Q => t g S fun b S1 => if b = true then wa g S1 Q else wb g S1 Q
theorem je_if (hc : JT cl X c ta) (ha : JE cl X a wa) (hb : JE cl X b wb) : JE cl X (.IfExp c a b pos) (wIfE ta wa wb) := (pe_ifExp hc ha hb).imp fun σ H Q ⟨F, S, g, Qd, m, r, w, to⟩ => by
  refine ⟨F, S, g, _, m, r, w, fun b S1 H1 F1 q1 e1 m1 => ?_⟩
  cases b with
  | true => rw [if_pos rfl] at q1 ⊢; exact ⟨F1, S1, g, Qd, m1, r.ext e1, q1, rTo.ext to e1⟩
  | false => rw [if_neg Bool.false_ne_true] at q1 ⊢; exact ⟨F1, S1, g, Qd, m1, r.ext e1, q1, rTo.ext to e1⟩
/-- a op b op' c -/
def wChn (k k' : W2) (wa wb wc : WE) : WE := fun g S Q => wa g S fun x S1 => wb g S1 fun y S2 => k x y S2 fun t S3 => kB t fun i => if i = true then wc g S3 fun z S4 => k' y z S4 Q else Q (.bl false) S3
theorem chn_en {C : Ct} {k k' : W2} {Q : VK} (h : tE C (wChn k k' wa wb wc) σ H Q) : tChain (rJ C k) (rJ C k') (tE C wa) (tE C wb) (tE C wc) σ H Q := by
  obtain ⟨F, S, g, Qd, m, r, w, to⟩ := h
  refine ⟨F, S, g, _, m, r, w, fun x S1 v1 H1 F1 q1 e1 m1 r1 => ⟨F1, S1, g, _, m1, r.ext e1, q1, fun y S2 v2 H2 F2 q2 e2 m2 r2 =>
    ⟨F2, S2, x, y, _, m2, e2.rp r1, r2, q2, fun t S3 v3 H3 F3 q0 e3 m3 r3 => ?_⟩⟩⟩
  obtain ⟨i, rfl, q3⟩ := kB_inv q0
  simp only [Rp] at r3
  refine ⟨i, r3, ?_⟩
  have e13 := e1.trans (e2.trans e3)
  cases i with
  | true =>
    rw [if_pos rfl] at q3 ⊢
    exact ⟨F3, S3, g, _, m3, r.ext e13, q3, fun z S4 v4 H4 F4 q4 e4 m4 r4 => ⟨F4, S4, y, z, Qd, m4, (e3.trans e4).rp r2, r4, q4, rTo.ext to (e13.trans e4)⟩⟩
  | false => rw [if_neg Bool.false_ne_true] at q3 ⊢; exact to _ S3 _ H3 F3 q3 e13 m3 rp_bl
theorem je_chain {op op' : CmpOp} {k k' : W2} (ho : OpJ cl X (compareOp op) k) (ho' : OpJ cl X (compareOp op') k') (ha : JE cl X a wa) (hb : JE cl X b wb) (hc : JE cl X c wc) (hm : lastMarks [op, op'] [b, c] = false := by with_unfolding_all rfl) :
    JE cl X (.Compare a [op, op'] [b, c] pos) (wChn k k' wa wb wc) := (pe_chain ho.op ho'.op ha hb hc hm).imp fun _ _ _ h => chn_en h
theorem jt_chain {op op' : CmpOp} {k k' : W2} (ho : OpJ cl X (compareOp op) k) (ho' : OpJ cl X (compareOp op') k') (ha : JE cl X a wa) (hb : JE cl X b wb) (hc : JE cl X c wc) (hm : lastMarks [op, op'] [b, c] = false := by with_unfolding_all rfl) :
    JT cl X (.Compare a [op, op'] [b, c] pos) (wTst (wChn k k' wa wb wc)) := (pt_chain ho.op ho'.op ha hb hc hm).imp fun σ H Q h => by
    obtain ⟨F, S, g, Qd, m, r, w, to⟩ := h
    refine chn_en (σ := σ) (H := H) ⟨F, S, g, _, m, r, w, fun d S1 v1 H1 F1 q1 e1 m1 r1 => ?_⟩
    obtain ⟨b, rfl, q⟩ := kB_inv q1
    simp only [Rp] at r1
    exact ⟨b, r1, to b S1 H1 F1 q e1 m1⟩

/-! ### argument lists, displays -/
def wNil : WA := fun _ S Q => Q [] S
def wCons (wa : WE) (wr : WA) : WA := fun g S Q => wa g S fun d S1 => wr g S1 fun ds S2 => Q (d :: ds) S2
variable {wr : WA}
theorem jl_nil : JL cl X [] wNil := pa_nil.imp fun σ H Q ⟨F, S, g, Qd, m, r, w, to⟩ => to [] S [] H F w (Ext.refl H F) m RpAll.nil
theorem jl_cons (ha : JE cl X e wa) (hr : JL cl X es wr) (hs : starEach (e :: es) X.env = (false, eval e X.env) :: starEach es X.env := by rfl) : JL cl X (e :: es) (wCons wa wr) := (pa_cons ha hr hs).imp fun σ H Q ⟨F, S, g, Qd, m, r, w, to⟩ =>
  ⟨F, S, g, _, m, r, w, fun d S1 v1 H1 F1 q1 e1 m1 r1 => ⟨F1, S1, g, _, m1, r.ext e1, q1, fun ds S2 vs H2 F2 q2 e2 m2 r2 => to _ S2 _ H2 F2 q2 (e1.trans e2) m2 (RpAll.cons (e2.rp r1) r2)⟩⟩
def wTup (wr : WA) : WE := fun g S Q => wr g S fun ds S1 => ds.length ≤ sizeLine ∧ Q (.tup ds) S1
def wLst (wr : WA) : WE := fun g S Q => wr g S fun ds S1 => ds.length ≤ sizeLine ∧ Q (.lst ds) S1
/-- a list that will be changed -/
def wLstM (wr : WA) : WE := fun g S Q => wr g S fun ds S1 => ds.length ≤ sizeLine ∧ ∀ p, S1 p = none → Q (.ref p) (put S1 p (.lst ds))
theorem je_tup {x1} (h : JL cl X es wr) : JE cl X (.Tuple es x1 pos) (wTup wr) := (pe_tup h).imp fun σ H Q ⟨F, S, g, Qd, m, r, w, to⟩ =>
  ⟨F, S, g, _, m, r, w, fun ds S1 vs H1 F1 q1 e1 m1 r1 => ⟨by rw [r1.len]; exact q1.1, fun p hp => to _ S1 _ _ F1 q1.2 (e1.trans (m1.ext_new hp _)) (m1.new hp _) (by simp only [Rp]; exact ⟨p, vs, rfl, SqT.of upd_same, (m1.ext_new hp _).rpAll r1⟩)⟩⟩
theorem je_lst (h : JL cl X es wr) : JE cl X (.List es pos) (wLst wr) := (pe_lst h).imp fun σ H Q ⟨F, S, g, Qd, m, r, w, to⟩ =>
  ⟨F, S, g, _, m, r, w, fun ds S1 vs H1 F1 q1 e1 m1 r1 => ⟨by rw [r1.len]; exact q1.1, fun p hp => to _ S1 _ _ _ q1.2 (e1.trans (m1.ext_frz hp _)) (m1.frz hp _) (by simp only [Rp]; exact ⟨p, vs, rfl, ⟨fz1_same, upd_same⟩, (m1.ext_frz hp _).rpAll r1⟩)⟩⟩
theorem je_lstM (h : JL cl X es wr) : JE cl X (.List es pos) (wLstM wr) := (pe_lst h).imp fun σ H Q ⟨F, S, g, Qd, m, r, w, to⟩ =>
  ⟨F, S, g, _, m, r, w, fun ds S1 vs H1 F1 q1 e1 m1 r1 => ⟨by rw [r1.len]; exact q1.1, fun p hp => to _ _ _ _ F1 (q1.2 p (m1.free hp)) (e1.trans (m1.ext_new hp _)) (m1.new_put hp ⟨vs, rfl, (m1.ext_new hp _).rpAll r1⟩) rp_ref⟩⟩
/-- {} that will be changed: scalars as keys; tuples as keys -/
def wDct : WE := fun _ S Q => ∀ p, S p = none → Q (.ref p) (put S p (.dct []))
def wDcT : WE := fun _ S Q => ∀ p, S p = none → Q (.ref p) (put S p (.dcT []))
theorem je_dct : JE cl X (.Dict [] [] pos) wDct := pe_dnewK.imp fun σ H Q ⟨F, S, g, Qd, m, r, w, to⟩ p hp => to _ _ _ _ F (w p (m.free hp)) (m.ext_new hp _) (m.new_put hp ⟨[], rfl, by simp only [KvR]⟩) rp_ref
theorem dn_empty {P : Program} {w : World} {H : Hp} (h : Heap) (hb : sysModules < h.objs.size) : ObjOk P w H (h.push { cls := .type "dict", data := .dict #[] }) h.objs.size (dNO P w h.objs.size []) :=
  ⟨⟨beq_eq_false_iff_ne.mpr (Ne.symm (Nat.ne_of_lt hb)), Nat.zero_le _, [], .nil, _, #[], 0, Heap.get?_push_size _ rfl, ⟨rfl, rfl, rfl⟩, rfl, rfl, List.nodup_nil⟩, ⟨_, Heap.get?_push_size _ rfl⟩,
    fun h1 h2 ⟨a, b, ys, c, o, es, ep, d, r⟩ k => ⟨a, b, ys, c, o, es, ep, k _ d, r⟩⟩
theorem je_dcT : JE cl X (.Dict [] [] pos) wDcT := ⟨fun pins s σ H Q I ⟨F, S, g, Qd, m, r, w, to⟩ => by
  have hp : H s.heap.objs.size = none := I.hok.fresh (Nat.le_refl _)
  refine wpAny_Dict_empty ⟨.ref s.heap.objs.size, _, I.laid (a := s.heap.objs.size) (o := dNO X.prog X.w s.heap.objs.size []) (t' := s.toks) (fun _ _ q => Heap.get?_push_of_some _ q) (Nat.le_refl _) (dn_empty s.heap I.big), rfl, ?_⟩
  exact to _ _ _ _ F (w _ (m.free hp)) (m.ext_new hp _) (m.new_put hp ⟨[], rfl, by simp only [NvR]⟩) rp_ref⟩
end
end J
set_option Elab.async false
set_option linter.all false
set_option maxRecDepth 100000
namespace J
open PySem PySem.Spec L2
open PyProof.Rows (b2i)

/-! ## targets -/
inductive Tgt where
  | one (i : Nat)
  | tup (ts : List Tgt)
mutual
def asg : Tgt → D → Sg → Option Sg
  | .one i, d, g => some (g.set i (some d))
  | .tup ts, .tup ds, g => asgs ts ds g
  | .tup _, _, _ => none
def asgs : List Tgt → List D → Sg → Option Sg
  | [], [], g => some g
  | t :: ts, d :: ds, g => (asg t d g).bind fun g' => asgs ts ds g'
  | [], _ :: _, _ => none
  | _ :: _, [], _ => none
end
mutual
def hT (K : PySem.W.Frag) : Tgt → TG
  | .one i => gName i
  | .tup ts => gTup K (tlen ts) (hTs K ts)
def hTs (K : PySem.W.Frag) : List Tgt → TGs
  | [] => gNil
  | t :: ts => gCons (hT K t) (hTs K ts)
def tlen : List Tgt → Nat
  | [] => 0
  | _ :: ts => tlen ts + 1
end
mutual
def slots : Tgt → List Nat
  | .one i => [i]
  | .tup ts => slotss ts
def slotss : List Tgt → List Nat
  | [] => []
  | t :: ts => slots t ++ slotss ts
end
abbrev TgOk (X : Cx) (e : Expr) (t : Tgt) : Prop := PG X e (hT X.K t)
abbrev TgsOk (X : Cx) (es : List Expr) (t : List Tgt) : Prop := PGs X es (hTs X.K t)
section
variable {X : Cx} {pos : Pos} {es : List Expr} {e : Expr} {t : Tgt} {ts : List Tgt}
theorem tg_name {i : Nat} {x : Str} (hN : X.N.Nodup) (hi : X.N[i]? = some x) (hx : Loc X.env.scope x) (hf : X.fn x = true ∨ X.env.scope.names.lookup x = some .local := by first | exact .inl rfl | exact .inr rfl | assumption) : TgOk X (.Name x pos) (.one i) := pg_name hN hi hx hf
theorem tg_tup {k : Nat} (hc : X.calm = true) (h : TgsOk X es ts) (hn : (assignEach es X.env).length = tlen ts := by rfl) (hst : (assignEach es X.env).findIdx? (·.1) = none := by rfl) : TgOk X (.Tuple es k pos) (.tup ts) := pg_tup hc h hn hst
theorem tgs_nil : TgsOk X [] [] := pgs_nil
theorem tgs_cons (h1 : TgOk X e t) (h2 : TgsOk X es ts) (hs : (assignEach (e :: es) X.env).map (·.2) = assign e X.env :: (assignEach es X.env).map (·.2) := by rfl) : TgsOk X (e :: es) (t :: ts) := pgs_cons h1 h2 hs
end
theorem tlen_eq : ∀ ts : List Tgt, tlen ts = ts.length
  | [] => rfl
  | _ :: ts => by rw [tlen, tlen_eq ts]; rfl
theorem asgs_len : ∀ {ts : List Tgt} {ds : List D} {g g' : Sg}, asgs ts ds g = some g' → ds.length = tlen ts
  | [], [], _, _, _ => rfl
  | t :: ts, d :: ds, g, g', h => by
    simp only [asgs] at h
    cases e : asg t d g with
    | none => rw [e] at h; cases h
    | some g1 => rw [e] at h; have := asgs_len (show asgs ts ds g1 = some g' from h); simp [tlen, this]
  | [], _ :: _, _, _, h => by simp [asgs] at h
  | _ :: _, [], _, _, h => by simp [asgs] at h
theorem wipe_get {σ : L2.St} : ∀ (vs : List Nat) (j : Nat), (wipe σ vs)[j]? = if j ∈ vs ∧ j < σ.length then some none else σ[j]?
  | [], j => by simp [wipe]
  | v :: vs, j => by
    simp only [wipe]
    by_cases hj : v = j
    · subst hj
      by_cases hl : v < σ.length
      · rw [List.getElem?_set_self (by rw [wipe_length]; exact hl)]; simp [hl]
      · rw [List.getElem?_eq_none (by rw [List.length_set, wipe_length]; omega), List.getElem?_eq_none (by omega), if_neg (fun z => hl z.2)]
    · rw [List.getElem?_set_ne hj, wipe_get vs j]
      simp [Ne.symm hj]
theorem wipe_idem {σ : L2.St} {vs : List Nat} : wipe (wipe σ vs) vs = wipe σ vs := by
  apply List.ext_getElem?
  intro j
  rw [wipe_get, wipe_length]
  by_cases hj : j ∈ vs ∧ j < σ.length
  · rw [if_pos hj, wipe_get, if_pos hj]
  · rw [if_neg hj]
theorem wipe_set {σ : L2.St} {vs : List Nat} {i : Nat} {x : Option V} (h : i ∈ vs) : wipe (σ.set i x) vs = wipe σ vs := by
  apply List.ext_getElem?
  intro j
  rw [wipe_get, wipe_get, List.length_set]
  by_cases hj : j ∈ vs ∧ j < σ.length
  · rw [if_pos hj, if_pos hj]
  · rw [if_neg hj, if_neg hj]
    by_cases e : i = j
    · subst e
      have : σ.length ≤ i := by
        rcases Nat.lt_or_ge i σ.length with q | q
        · exact absurd ⟨h, q⟩ hj
        · exact q
      rw [List.getElem?_eq_none (by simpa using this), List.getElem?_eq_none this]
    · rw [List.getElem?_set_ne e]
section
variable {K : PySem.W.Frag} {H : Hp} {F : Fz}
mutual
theorem asg_ok : ∀ {t : Tgt} {d : D} {v : V} {g g' : Sg} {σ : L2.St}, Rp K H F d v → SgR K H F g σ → asg t d g = some g' →
    ∃ σ', SgR K H F g' σ' ∧ (∀ vs : List Nat, (∀ i ∈ slots t, i ∈ vs) → wipe σ' vs = wipe σ vs) ∧ ∀ Q : L2.St → Hp → Prop, Q σ' H → hT K t v σ H Q
  | .one i, d, v, g, g', σ, hr, hs, e => by
    simp only [asg] at e; cases e
    exact ⟨_, hs.set i hr, fun vs h => wipe_set (h i (by simp [slots])), fun Q q => q⟩
  | .tup ts, .tup ds, v, g, g', σ, hr, hs, e => by
    simp only [asg] at e
    simp only [Rp] at hr
    obtain ⟨a, vs, rfl, h1, k1⟩ := hr
    obtain ⟨σ', s1, s2, s3⟩ := asgs_ok k1 hs e
    exact ⟨σ', s1, s2, fun Q q => ⟨a, vs, rfl, h1, by rw [k1.len]; exact asgs_len e, s3 Q q⟩⟩
  | .tup _, .non, _, _, _, _, _, _, e => by simp [asg] at e
  | .tup _, .bl _, _, _, _, _, _, _, e => by simp [asg] at e
  | .tup _, .int _, _, _, _, _, _, _, e => by simp [asg] at e
  | .tup _, .str _, _, _, _, _, _, _, e => by simp [asg] at e
  | .tup _, .lst _, _, _, _, _, _, _, e => by simp [asg] at e
  | .tup _, .ref _, _, _, _, _, _, _, e => by simp [asg] at e
  | .tup _, .scr _, _, _, _, _, _, _, e => by simp [asg] at e
theorem asgs_ok : ∀ {ts : List Tgt} {ds : List D} {vs : List V} {g g' : Sg} {σ : L2.St}, RpAll K H F ds vs → SgR K H F g σ → asgs ts ds g = some g' →
    ∃ σ', SgR K H F g' σ' ∧ (∀ ws : List Nat, (∀ i ∈ slotss ts, i ∈ ws) → wipe σ' ws = wipe σ ws) ∧ ∀ Q : L2.St → Hp → Prop, Q σ' H → hTs K ts vs σ H Q
  | [], [], vs, g, g', σ, hr, hs, e => by
    simp only [asgs] at e; cases e
    simp only [RpAll] at hr
    exact ⟨σ, hs, fun _ _ => rfl, fun Q q => ⟨hr, q⟩⟩
  | t :: ts, d :: ds, vs, g, g', σ, hr, hs, e => by
    simp only [asgs] at e
    simp only [RpAll] at hr
    obtain ⟨w, ws, rfl, h1, h2⟩ := hr
    cases q : asg t d g with
    | none => rw [q] at e; cases e
    | some g1 =>
      rw [q] at e
      obtain ⟨σ1, a1, a2, a3⟩ := asg_ok h1 hs q
      obtain ⟨σ2, b1, b2, b3⟩ := asgs_ok h2 a1 (show asgs ts ds g1 = some g' from e)
      exact ⟨σ2, b1, fun xs h => (b2 xs fun i hi => h i (by simp only [slotss]; exact List.mem_append_right _ hi)).trans (a2 xs fun i hi => h i (by simp only [slotss]; exact List.mem_append_left _ hi)),
        fun Q q => ⟨w, ws, rfl, a3 _ (b3 Q q)⟩⟩
  | [], _ :: _, _, _, _, _, _, _, e => by simp [asgs] at e
  | _ :: _, [], _, _, _, _, _, _, e => by simp [asgs] at e
end
end

/-! ## what is walked -/
structure SrcOk (C : Ct) (J : It) (ds : List D) (req : Store → Prop) (H0 : Hp) (F0 : Fz) : Prop where
  go : ∀ (H : Hp) (F : Fz) (S : Store), Ext H0 F0 H F → Sim C H F S → req S → ∀ i, i < ds.length → J.go i H ∧ ∀ x H', J.yld i H x H' → ∃ F' d, Ext H F H' F' ∧ Sim C H' F' S ∧ ds[i]? = some d ∧ Rp C.K H' F' d x
  stop : ∀ (H : Hp) (F : Fz) (S : Store), Ext H0 F0 H F → Sim C H F S → req S → J.stop ds.length H
theorem SrcOk.ext {C : Ct} {J : It} {ds : List D} {req : Store → Prop} {H H1 : Hp} {F F1 : Fz} (h : SrcOk C J ds req H F) (e : Ext H F H1 F1) : SrcOk C J ds req H1 F1 :=
  ⟨fun H2 F2 S a b c i hi => h.go H2 F2 S (e.trans a) b c i hi, fun H2 F2 S a b c => h.stop H2 F2 S (e.trans a) b c⟩
abbrev SrcK := List D → (Store → Prop) → Store → Prop
abbrev WI := Sg → Store → SrcK → Prop
def tI (C : Ct) (w : WI) : TI := fun σ H R => ∃ F S g Qd, Sim C H F S ∧ SgR C.K H F g σ ∧ w g S Qd ∧ ∀ ds req S' J H' F', Qd ds req S' → Ext H F H' F' → Sim C H' F' S' → SrcOk C J ds req H' F' → R J H'
theorem _root_.L2.PI.imp {X : Cx} {tg e : Expr} {t t' : TI} (h : PI X tg e t) (i : ∀ σ H Q, t' σ H Q → t σ H Q) : PI X tg e t' := ⟨fun pins s σ H R I q => h.run pins s σ H R I (i σ H R q)⟩
abbrev JI (cl : Cl) (X : Cx) (tg e : Expr) (w : WI) : Prop := PI X tg e (tI (Cof X cl) w)
def noReq : Store → Prop := fun _ => True
section
variable {cl : Cl} {X : Cx} {C : Ct} {e a b c tg : Expr} {es : List Expr} {pos pos' : Pos} {wa wb wc : WE} {wr : WA} {pins : List (Addr × Obj)} {σ : L2.St} {H : Hp} {F : Fz} {s : Shared} {S : Store}
theorem src_list {p : Addr} {vs : List V} {ds : List D} (f : F p = some true ∧ H p = some (.lst vs)) (r : RpAll C.K H F ds vs) : SrcOk C (Itl C.K p) ds noReq H F := by
  refine ⟨fun H1 F1 S1 ex m _ i hi => ?_, fun H1 F1 S1 ex m _ => ?_⟩
  · have r1 := ex.rpAll r
    have f1 := ex.fz f
    obtain ⟨v, e1, rv⟩ := r1.get (List.getElem?_eq_getElem hi)
    refine ⟨⟨vs, v, SqL.of f1.2, e1⟩, fun x H2 y => ?_⟩
    obtain ⟨rfl, y⟩ := y
    have := y vs (SqL.of f1.2)
    rw [e1] at this; cases this
    exact ⟨F1, _, Ext.refl _ _, m, List.getElem?_eq_getElem hi, rv⟩
  · exact ⟨vs, SqL.of (ex.fz f).2, by rw [r.len]; exact Nat.le_refl _⟩
theorem src_tup {p : Addr} {vs : List V} {ds : List D} (f : SqT C.K H p vs) (r : RpAll C.K H F ds vs) : SrcOk C (Itt C.K p) ds noReq H F := by
  refine ⟨fun H1 F1 S1 ex m _ i hi => ?_, fun H1 F1 S1 ex m _ => ?_⟩
  · have r1 := ex.rpAll r
    have f1 := ex.sqT f
    obtain ⟨v, e1, rv⟩ := r1.get (List.getElem?_eq_getElem hi)
    refine ⟨⟨vs, v, f1, e1⟩, fun x H2 y => ?_⟩
    obtain ⟨rfl, y⟩ := y
    have := y vs f1
    rw [e1] at this; cases this
    exact ⟨F1, _, Ext.refl _ _, m, List.getElem?_eq_getElem hi, rv⟩
  · exact ⟨vs, ex.sqT f, by rw [r.len]; exact Nat.le_refl _⟩
theorem src_scr {p : Addr} {ns : List Int} (f : Scr C.K H p ns) : SrcOk C (Itl C.K p) (ns.map D.int) noReq H F := by
  refine ⟨fun H1 F1 S1 ex m _ i hi => ?_, fun H1 F1 S1 ex m _ => ?_⟩
  · have f1 := ex.scr f
    rw [List.length_map] at hi
    have e1 : (ns.map V.int)[i]? = some (.int ns[i]) := by rw [List.getElem?_map, List.getElem?_eq_getElem hi]; rfl
    refine ⟨⟨_, _, f1.sq, e1⟩, fun x H2 y => ?_⟩
    obtain ⟨rfl, y⟩ := y
    have := y _ f1.sq
    rw [e1] at this; cases this
    exact ⟨F1, .int ns[i], Ext.refl _ _, m, by rw [List.getElem?_map, List.getElem?_eq_getElem hi]; rfl, by simp only [Rp]⟩
  · exact ⟨_, (ex.scr f).sq, by simp⟩
theorem src_ref {p : Addr} {ds : List D} : SrcOk C (Itl C.K p) ds (fun S => S p = some (.lst ds)) H F := by
  refine ⟨fun H1 F1 S1 ex m h i hi => ?_, fun H1 F1 S1 ex m h => ?_⟩
  · obtain ⟨vs, f1, r1⟩ := m.lst h
    obtain ⟨v, e1, rv⟩ := r1.get (List.getElem?_eq_getElem hi)
    refine ⟨⟨vs, v, SqL.of f1, e1⟩, fun x H2 y => ?_⟩
    obtain ⟨rfl, y⟩ := y
    have := y vs (SqL.of f1)
    rw [e1] at this; cases this
    exact ⟨F1, _, Ext.refl _ _, m, List.getElem?_eq_getElem hi, rv⟩
  · obtain ⟨vs, f1, r1⟩ := m.lst h
    exact ⟨vs, SqL.of f1, by rw [r1.len]; exact Nat.le_refl _⟩
theorem src_range {lo : Int} {n : Nat} : SrcOk C (Itr lo n) ((List.range n).map fun k : Nat => D.int (lo + (k : Int))) noReq H F := by
  refine ⟨fun H1 F1 S1 ex m h i hi => ?_, fun H1 F1 S1 ex m h => ?_⟩
  · rw [List.length_map, List.length_range] at hi
    refine ⟨hi, fun x H2 y => ?_⟩
    obtain ⟨rfl, rfl⟩ := y
    exact ⟨F1, .int (lo + (i : Int)), Ext.refl _ _, m, by rw [List.getElem?_map, List.getElem?_range hi]; rfl, by simp only [Rp]⟩
  · show n ≤ _
    simp
theorem src_rangeC {lo c : Int} {n : Nat} : SrcOk C (Itc lo c n) ((List.range n).map fun k : Nat => D.int (lo + (k : Int) * c)) noReq H F := by
  refine ⟨fun H1 F1 S1 ex m h i hi => ?_, fun H1 F1 S1 ex m h => ?_⟩
  · rw [List.length_map, List.length_range] at hi
    refine ⟨hi, fun x H2 y => ?_⟩
    obtain ⟨rfl, rfl⟩ := y
    exact ⟨F1, .int (lo + (i : Int) * c), Ext.refl _ _, m, by rw [List.getElem?_map, List.getElem?_range hi]; rfl, by simp only [Rp]⟩
  · show n ≤ _
    simp
/-- a list, a tuple, the script, a list of the store -/
def wSeq (wa : WE) : WI := fun g S R => wa g S fun d S1 => match d with
  | .lst ds => R ds noReq S1
  | .tup ds => R ds noReq S1
  | .scr ns => R (ns.map D.int) noReq S1
  | .ref p => match S1 p with
    | some (.lst ds) => R ds (fun S => S p = some (.lst ds)) S1
    | _ => False
  | _ => False
theorem ji_seq (h : JE cl X e wa) : JI cl X tg e (wSeq wa) := by
  refine ⟨fun pins s σ H R I ⟨F, S, g, Qd, m, r, w, to⟩ => ?_⟩
  refine thn (h.run pins s σ H _ I ⟨F, S, g, _, m, r, w, fun d S1 v H1 F1 q e1 m1 r1 => show (∃ F1 d S1, Ext H F H1 F1 ∧ Sim (Cof X cl) H1 F1 S1 ∧ Rp X.K H1 F1 d v ∧ _) from ⟨F1, d, S1, e1, m1, r1, q⟩⟩) fun v s1 ⟨x, H1, I1, rv, F1, d, S1, e1, m1, r1, q⟩ => ?_
  have lst : ∀ {p : Addr} {vs : List V} {ds : List D} {req : Store → Prop}, x = .ref p → SqL X.K H1 p vs → SrcOk (Cof X cl) (Itl X.K p) ds req H1 F1 → Qd ds req S1 → wpAny (model X.prog X.w) X.A (pyIter v) (PIE X pins σ tg R) X.xe s1 := by
    intro p vs ds req ex hs so q
    subst ex
    cases rv
    obtain ⟨its, rw', pl, hz⟩ := I1.list hs
    refine wpAny_pyIter_list pl.isList ?_
    refine ⟨s1.heap.objs.size, [s1.heap.objs.size], _, _, H1, rfl, I1.kept (t' := s1.toks) fun b o e => Heap.get?_push_of_some _ e, turn_list p _, ⟨_, Heap.get?_push_size _ rfl, rfl, rfl⟩, fun b hb => ?_, to _ _ S1 _ H1 F1 q e1 m1 so⟩
    obtain rfl : b = s1.heap.objs.size := by simpa using hb
    exact I1.fpOk (Nat.le_refl _) (I1.hok.fresh (Nat.le_refl _))
  split at q
  · simp only [Rp] at r1
    obtain ⟨p, vs, ex, f, k⟩ := r1
    exact lst ex (SqL.of f.2) (src_list f k) q
  · simp only [Rp] at r1
    obtain ⟨p, vs, rfl, f, k⟩ := r1
    cases rv
    obtain ⟨its, rw', pl, hz⟩ := I1.tuple f
    refine wpAny_pyIter_tuple (show s1.heap.IsTuple p its.toArray from pl) ?_
    refine ⟨s1.heap.objs.size, [s1.heap.objs.size], _, _, H1, rfl, I1.kept (t' := s1.toks) fun b o e => Heap.get?_push_of_some _ e, turn_tuple p _, ⟨_, Heap.get?_push_size _ rfl, rfl, rfl⟩, fun b hb => ?_, to _ _ S1 _ H1 F1 q e1 m1 (src_tup f k)⟩
    obtain rfl : b = s1.heap.objs.size := by simpa using hb
    exact I1.fpOk (Nat.le_refl _) (I1.hok.fresh (Nat.le_refl _))
  · simp only [Rp] at r1
    obtain ⟨p, ex, f⟩ := r1
    exact lst ex f.sq (src_scr f) q
  · simp only [Rp] at r1
    split at q
    · rename_i e2
      obtain ⟨vs, f, k⟩ := m1.lst e2
      exact lst r1 (SqL.of f) src_ref q
    · exact q.elim
  · exact q.elim
def smR (i : Int) : Prop := -(2 ^ 62) ≤ i ∧ i < 2 ^ 62
def wRng1 (wr : WA) : WI := fun g S R => wr g S fun ds S1 => match ds with
  | [.int j] => smR j ∧ R ((List.range j.toNat).map fun k : Nat => D.int (k : Int)) noReq S1
  | _ => False
def wRng2 (wr : WA) : WI := fun g S R => wr g S fun ds S1 => match ds with
  | [.int i, .int j] => (smR i ∧ smR j) ∧ R ((List.range (j - i).toNat).map fun k : Nat => D.int (i + (k : Int))) noReq S1
  | _ => False
def wRng3 (wr : WA) : WI := fun g S R => wr g S fun ds S1 => match ds with
  | [.int i, .int j, .int c] => ∃ n, RgC i j c n ∧ R ((List.range n).map fun k : Nat => D.int (i + (k : Int) * c)) noReq S1
  | _ => False
theorem ji_rng1 {p : Pos} (hg : Gl X "range") (hm : X.mg "range" = none) (ha : JL cl X [a] wr) (hs : starEach [a] X.env = [(false, eval a X.env)] := by rfl) : JI cl X tg (.Call (.Name "range" p) [a] [] pos) (wRng1 wr) := (pi_range1 hg hm ha hs).imp fun σ H R ⟨F, S, g, Qd, m, r, w, to⟩ => by
  refine ⟨F, S, g, _, m, r, w, fun ds S1 vs H1 F1 q e1 m1 r1 => ?_⟩
  split at q
  · simp only [RpAll, Rp] at r1
    obtain ⟨_, _, rfl, rfl, rfl⟩ := r1
    refine ⟨_, rfl, q.1.1, q.1.2, to _ _ _ _ H1 F1 q.2 e1 m1 ?_⟩
    rename_i j
    have := src_range (C := Cof X cl) (H := H1) (F := F1) (lo := 0) (n := j.toNat)
    simpa using this
  · exact q.elim
theorem ji_rng2 {p : Pos} (hg : Gl X "range") (hm : X.mg "range" = none) (ha : JL cl X [a, b] wr) (hs : starEach [a, b] X.env = [(false, eval a X.env), (false, eval b X.env)] := by rfl) (hs2 : starEach [b] X.env = [(false, eval b X.env)] := by rfl) :
    JI cl X tg (.Call (.Name "range" p) [a, b] [] pos) (wRng2 wr) := (pi_range2 hg hm ha hs hs2).imp fun σ H R ⟨F, S, g, Qd, m, r, w, to⟩ => by
  refine ⟨F, S, g, _, m, r, w, fun ds S1 vs H1 F1 q e1 m1 r1 => ?_⟩
  split at q
  · simp only [RpAll, Rp] at r1
    obtain ⟨_, _, rfl, rfl, _, _, rfl, rfl, rfl⟩ := r1
    exact ⟨_, _, rfl, ⟨q.1.1.1, q.1.1.2, q.1.2.1, q.1.2.2⟩, to _ _ _ _ H1 F1 q.2 e1 m1 src_range⟩
  · exact q.elim
theorem ji_rng3 {p : Pos} (hg : Gl X "range") (hm : X.mg "range" = none) (ha : JL cl X [a, b, c] wr) (hs : starEach [a, b, c] X.env = (false, eval a X.env) :: starEach [b, c] X.env := by rfl) (hpl : (backTo pos (starEach [b, c] X.env)).any (·.1) = false := by rfl) :
    JI cl X tg (.Call (.Name "range" p) [a, b, c] [] pos) (wRng3 wr) := (pi_range3 hg hm ha hs hpl).imp fun σ H R ⟨F, S, g, Qd, m, r, w, to⟩ => by
  refine ⟨F, S, g, _, m, r, w, fun ds S1 vs H1 F1 q e1 m1 r1 => ?_⟩
  split at q
  · simp only [RpAll, Rp] at r1
    obtain ⟨_, _, rfl, rfl, _, _, rfl, rfl, _, _, rfl, rfl, rfl⟩ := r1
    obtain ⟨n, q1, q2⟩ := q
    exact ⟨_, _, _, n, rfl, q1, to _ _ _ _ H1 F1 q2 e1 m1 src_rangeC⟩
  · exact q.elim
end

/-! ## for -/
def fl (req : Store → Prop) (t : Tgt) (wb : WS) (De : En) : List D → Sg → Store → Prop
  | [], g, S => req S ∧ De.nx g S
  | d :: ds, g, S => req S ∧ orF (asg t d g) fun g' => wb { nx := fl req t wb De ds, rt := De.rt, bk := De.nx, ct := fl req t wb De ds } g' S
def wFor (wi : WI) (t : Tgt) (wb : WS) : WS := fun De g S => wi g S fun ds req S1 => fl req t wb De ds g S1
theorem fl_req {req : Store → Prop} {t : Tgt} {wb : WS} {De : En} {ds : List D} {g : Sg} {S : Store} (h : fl req t wb De ds g S) : req S := by
  cases ds <;> exact h.1
section
variable {cl : Cl} {X : Cx} {C : Ct} {pos : Pos}
theorem for_en {wi : WI} {t : Tgt} {wb : WS} {E : Ends} {σ : L2.St} {H : Hp} (h : tS C (wFor wi t wb) E σ H) : tFor (tI C wi) (hT C.K t) (tS C wb) E σ H := by
  obtain ⟨F, S, g, De, m, r, w, to⟩ := h
  refine ⟨F, S, g, _, m, r, w, fun ds req S1 J H1 F1 q e1 m1 so => ?_⟩
  refine ⟨fun i n σ H2 => n = ds.length - i ∧ i ≤ ds.length ∧ ∃ F2 S2 g2, Ext H1 F1 H2 F2 ∧ Sim C H2 F2 S2 ∧ SgR C.K H2 F2 g2 σ ∧ fl req t wb De (ds.drop i) g2 S2,
    ⟨ds.length, by simp, Nat.zero_le _, F1, S1, g, Ext.refl _ _, m1, r.ext e1, by simpa using q⟩, ?_⟩
  rintro i n σ H2 ⟨rfl, hi, F2, S2, g2, e2, m2, r2, q2⟩
  have hreq := fl_req q2
  have to2 := (to.ext e1).ext e2
  by_cases hlt : i < ds.length
  · obtain ⟨go, yl⟩ := so.go H2 F2 S2 e2 m2 hreq i hlt
    rw [List.drop_eq_getElem_cons hlt] at q2
    obtain ⟨_, q2⟩ := q2
    obtain ⟨g3, eg, q3⟩ := orF_iff.mp q2
    refine .inr ⟨go, fun σ' H' => ∃ F' S' g', Ext H1 F1 H' F' ∧ Sim C H' F' S' ∧ SgR C.K H' F' g' σ' ∧ fl req t wb De (ds.drop (i + 1)) g' S', fun σ' H' hN => ⟨ds.length - (i + 1), by omega, rfl, hlt, hN⟩, fun x H3 y => ?_⟩
    obtain ⟨F3, d, e3, m3, ed, rd⟩ := yl x H3 y
    rw [List.getElem?_eq_getElem hlt] at ed; cases ed
    obtain ⟨σ', s1, _, s3⟩ := asg_ok rd (r2.ext e3) eg
    refine s3 _ ⟨F3, S2, g3, _, m3, s1, q3, ?_⟩
    have e23 := e2.trans e3
    exact ⟨fun g' S' σ' H' F' a b c d => ⟨F', S', g', e23.trans b, c, d, a⟩, (to2.ext e3).rt, (to2.ext e3).nx, fun g' S' σ' H' F' a b c d => ⟨F', S', g', e23.trans b, c, d, a⟩⟩
  · obtain rfl : i = ds.length := by omega
    refine .inl ⟨so.stop H2 F2 S2 e2 m2 hreq, ?_⟩
    rw [List.drop_length] at q2
    exact to2.nx g2 S2 σ H2 F2 q2.2 (Ext.refl _ _) m2 r2
theorem js_for {tg iter : Expr} {body : List Stmt} {wi : WI} {t : Tgt} {wb : WS} (hp : PassesOwn (model X.prog X.w) X.A X.env X.xe) (hc : X.calm = true) (hi : JI cl X tg iter wi) (hg : TgOk X tg t) (hb : JSs cl X body wb)
    (hs : ∀ x, foldedSetIterable iter X.env x = pure x := by intro _; rfl) : JS cl X (.For tg iter body [] pos) (wFor wi t wb) := (ps_for hp hc hi hg hb hs).imp fun _ _ _ h => for_en h

/-! ## while -/
def wl (c : WT) (wb : WS) (De : En) : Nat → Sg → Store → Prop
  | 0, _, _ => False
  | n + 1, g, S => c g S fun b S1 => if b = true then wb { nx := wl c wb De n, rt := De.rt, bk := De.nx, ct := wl c wb De n } g S1 else De.nx g S1
def wWhile (c : WT) (wb : WS) : WS := fun De g S => ∃ n, wl c wb De n g S
theorem while_en {c : WT} {wb : WS} {E : Ends} {σ : L2.St} {H : Hp} (h : tS C (wWhile c wb) E σ H) : tWhile (tT C c) (tS C wb) E σ H := by
  obtain ⟨F, S, g, De, m, r, ⟨n, w⟩, to⟩ := h
  refine ⟨fun n σ H2 => ∃ F2 S2 g2, Ext H F H2 F2 ∧ Sim C H2 F2 S2 ∧ SgR C.K H2 F2 g2 σ ∧ wl c wb De n g2 S2, ⟨n, F, S, g, Ext.refl _ _, m, r, w⟩, ?_⟩
  rintro n σ H2 ⟨F2, S2, g2, e2, m2, r2, q2⟩
  cases n with
  | zero => exact q2.elim
  | succ n =>
    have to2 := to.ext e2
    refine ⟨F2, S2, g2, _, m2, r2, q2, fun b S3 H3 F3 q3 e3 m3 => ?_⟩
    cases b with
    | true =>
      rw [if_pos rfl] at q3 ⊢
      have e23 := e2.trans e3
      refine ⟨fun σ' H' => ∃ F' S' g', Ext H F H' F' ∧ Sim C H' F' S' ∧ SgR C.K H' F' g' σ' ∧ wl c wb De n g' S', fun σ' H' h => ⟨n, Nat.lt_succ_self n, h⟩, F3, S3, g2, _, m3, r2.ext e3, q3, ?_⟩
      exact ⟨fun g' S' σ' H' F' a b c d => ⟨F', S', g', e23.trans b, c, d, a⟩, (to2.ext e3).rt, (to2.ext e3).nx, fun g' S' σ' H' F' a b c d => ⟨F', S', g', e23.trans b, c, d, a⟩⟩
    | false =>
      rw [if_neg Bool.false_ne_true] at q3 ⊢
      exact (to2.ext e3).nx g2 S3 σ H3 F3 q3 (Ext.refl _ _) m3 (r2.ext e3)
theorem js_while {c : Expr} {body : List Stmt} {wc : WT} {wb : WS} (hp : PassesOwn (model X.prog X.w) X.A X.env X.xe) (hc : JT cl X c wc) (hb : JSs cl X body wb) : JS cl X (.While c body [] pos) (wWhile wc wb) := (ps_while hp hc hb).imp fun _ _ _ h => while_en h
end

/-! ## [elt for target in iter if test] -/
def wipeD (g : Sg) : List Nat → Sg
  | [] => g
  | v :: vs => (wipeD g vs).set v none
theorem SgR.wipe {K : PySem.W.Frag} {H : Hp} {F : Fz} {g : Sg} {σ : L2.St} (r : SgR K H F g σ) : ∀ vs : List Nat, SgR K H F (wipeD g vs) (L2.wipe σ vs)
  | [] => r
  | v :: vs => (SgR.wipe r vs).unset v
def lcl (req : Store → Prop) (t : Tgt) (tt : WT) (te : WE) (g0 : Sg) (Q : List D → Store → Prop) : List D → List D → Store → Prop
  | [], acc, S => req S ∧ Q acc S
  | d :: ds, acc, S => req S ∧ orF (asg t d g0) fun g' => tt g' S fun b S1 => if b = true then te g' S1 fun y S2 => lcl req t tt te g0 Q ds (acc ++ [y]) S2 else lcl req t tt te g0 Q ds acc S1
theorem lcl_req {req : Store → Prop} {t : Tgt} {tt : WT} {te : WE} {g0 : Sg} {Q : List D → Store → Prop} {ds acc : List D} {S : Store} (h : lcl req t tt te g0 Q ds acc S) : req S := by
  cases ds <;> exact h.1
def wYes : WT := fun _ S k => k true S
/-- the new list's items -/
def wLcA (wi : WI) (t : Tgt) (tt : WT) (te : WE) (vs : List Nat) : WA := fun g S Q => wi g S fun ds req S1 => ds.length < sizeLine ∧ lcl req t tt te (wipeD g vs) Q ds [] S1
def wLc (wi : WI) (t : Tgt) (tt : WT) (te : WE) (vs : List Nat) : WE := fun g S Q => wLcA wi t tt te vs g S fun ds S1 => Q (.lst ds) S1
def wLcM (wi : WI) (t : Tgt) (tt : WT) (te : WE) (vs : List Nat) : WE := fun g S Q => wLcA wi t tt te vs g S fun ds S1 => ∀ p, S1 p = none → Q (.ref p) (put S1 p (.lst ds))
section
variable {cl : Cl} {X : Cx} {C : Ct} {pos : Pos}
theorem lc_en {wi : WI} {t : Tgt} {tt : WT} {te : WE} {vs : List Nat} (ht : ∀ i ∈ slots t, i ∈ vs) {σ : L2.St} {H : Hp} {Q : VK} {F : Fz} {S : Store} {g : Sg} {Qd : List D → Store → Prop} (m : Sim C H F S) (r : SgR C.K H F g σ) (w : wLcA wi t tt te vs g S Qd)
    (to : ∀ ds S' p ws H' F', Qd ds S' → Ext H F H' F' → Sim C H' F' S' → F' p = none → S' p = none → H' p = some (.lst ws) → RpAll C.K H' F' ds ws → Q (.ref p) H') :
    tLc (tI C wi) (hT C.K t) (tT C tt) (tE C te) vs σ H Q := by
  refine ⟨F, S, g, _, m, r, w, fun ds req S1 J H1 F1 q e1 m1 so L hD => ?_⟩
  obtain ⟨hz, q⟩ := q
  refine ⟨fun i n H2 => n = ds.length - i ∧ i ≤ ds.length ∧ ∃ F2 S2 acc ws, Ext H1 F1 H2 F2 ∧ Sim C H2 F2 S2 ∧ lcl req t tt te (wipeD g vs) Qd (ds.drop i) acc S2 ∧ acc.length ≤ i ∧ H2 L = some (.lst ws) ∧ RpAll C.K H2 F2 acc ws ∧ F2 L = none ∧ S2 L = none,
    ⟨ds.length, by simp, Nat.zero_le _, F1, S1, [], [], m1.ext_new hD _, m1.new hD _, by simpa using q, Nat.le_refl _, upd_same, RpAll.nil, m1.nf hD, m1.free hD⟩, ?_⟩
  rintro i n H2 ⟨rfl, hi, F2, S2, acc, ws, e2, m2, q2, ha, hd, ra, nf, ns⟩
  have hreq := lcl_req q2
  by_cases hlt : i < ds.length
  · -- the new list is set aside while the turn runs
    obtain ⟨mg, eg⟩ := m2.guard nf ns hd
    obtain ⟨go, yl⟩ := so.go H2 _ S2 (e2.trans eg) mg hreq i hlt
    rw [List.drop_eq_getElem_cons hlt] at q2
    obtain ⟨_, q2⟩ := q2
    obtain ⟨g3, ea, q3⟩ := orF_iff.mp q2
    refine .inr ⟨go, fun H' => ∃ F' S' acc' ws', Ext H1 F1 H' F' ∧ Sim C H' F' S' ∧ lcl req t tt te (wipeD g vs) Qd (ds.drop (i + 1)) acc' S' ∧ acc'.length ≤ i + 1 ∧ H' L = some (.lst ws') ∧ RpAll C.K H' F' acc' ws' ∧ F' L = none ∧ S' L = none,
      fun H' hN => ⟨ds.length - (i + 1), by omega, rfl, hlt, hN⟩, fun x H3 y => ?_⟩
    obtain ⟨F3, d, e3, m3, ed, rd⟩ := yl x H3 y
    rw [List.getElem?_eq_getElem hlt] at ed; cases ed
    have rg := ((((r.ext e1).ext e2).ext eg).wipe vs).ext e3
    obtain ⟨σ', s1, s2, s3⟩ := asg_ok rd rg ea
    have e23 := e3
    -- behind the turn
    have back : ∀ {H4 : Hp} {F4 : Fz} {S4 : Store} (acc' : List D) (ws' : List V), Ext H2 (fz1 F2 L false) H4 F4 → Sim C H4 F4 S4 → RpAll C.K H4 F4 acc' ws' → lcl req t tt te (wipeD g vs) Qd (ds.drop (i + 1)) acc' S4 → acc'.length ≤ i + 1 →
        ∃ F' S' acc' ws'', Ext H1 F1 (upd H4 L (.lst ws')) F' ∧ Sim C (upd H4 L (.lst ws')) F' S' ∧ lcl req t tt te (wipeD g vs) Qd (ds.drop (i + 1)) acc' S' ∧ acc'.length ≤ i + 1 ∧ (upd H4 L (.lst ws')) L = some (.lst ws'') ∧ RpAll C.K (upd H4 L (.lst ws')) F' acc' ws'' ∧ F' L = none ∧ S' L = none := by
      intro H4 F4 S4 acc' ws' e4 m4 r4 q4 hl
      have fD : F4 L = some false := e4.f L false fz1_same
      have eA : Ext H1 F1 (upd H4 L (.lst ws')) (fz0 F4 L) := by
        refine e2.trans ⟨fun a b f => ?_, fun a b f => ?_, fun a xs e => (Ext.grow m4 fD ws').t a xs (e4.t a xs e), fun a o u e => (Ext.grow m4 fD ws').z a o u (e4.z a o u e)⟩
        · have ha := fne f nf
          rw [fz0_ne ha]; exact e4.f a b (by rw [fz1_ne ha]; exact f)
        · have ha := fne f nf
          rw [upd_ne ha]; exact e4.l a b (by rw [fz1_ne ha]; exact f)
      refine ⟨fz0 F4 L, S4, acc', ws', eA, m4.grow fD ws' (C.cl.gx m1.g eA), q4, hl, upd_same, (Ext.grow m4 fD ws').rpAll (rps_weak (fz0_weak fD) r4), fz0_same, ?_⟩
      · cases z : S4 L with
        | none => rfl
        | some o => have := (m4.o L o z).1; rw [fD] at this; cases this
    refine s3 _ ⟨s2 vs ht |>.trans (by rw [wipe_idem]), ?_⟩
    refine ⟨F3, S2, g3, _, m3, s1, q3, fun b S4 H4 F4 q4 e4 m4 => ?_⟩
    cases b with
    | true =>
      rw [if_pos rfl] at q4 ⊢
      refine ⟨F4, S4, g3, _, m4, s1.ext e4, q4, fun z S5 zv H5 F5 q5 e5 m5 r5 => ?_⟩
      have e25 := e23.trans (e4.trans e5)
      have hd5 : H5 L = some (.lst ws) := (e25.l L false fz1_same).trans hd
      have ra5 : RpAll C.K H5 F5 acc ws := e25.rpAll (eg.rpAll ra)
      refine ⟨ws, hd5, by rw [ra.len]; omega, back _ _ e25 m5 (ra5.app (RpAll.cons r5 RpAll.nil)) q5 (by simp; omega)⟩
    | false =>
      rw [if_neg Bool.false_ne_true] at q4 ⊢
      have e24 := e23.trans e4
      have hd4 : H4 L = some (.lst ws) := (e24.l L false fz1_same).trans hd
      have hb := back acc ws e24 m4 (e24.rpAll (eg.rpAll ra)) q4 (by omega)
      have hu : upd H4 L (.lst ws) = H4 := by
        funext a
        by_cases h : a = L
        · subst h; rw [upd_same, hd4]
        · exact upd_ne h
      rw [hu] at hb
      exact hb
  · obtain rfl : i = ds.length := by omega
    refine .inl ⟨so.stop H2 F2 S2 e2 m2 hreq, ?_⟩
    rw [List.drop_length] at q2
    exact to acc S2 L ws H2 F2 q2.2 (e1.trans e2) m2 nf ns hd ra
end
end J
set_option Elab.async false
set_option linter.all false
set_option maxRecDepth 100000
namespace J
open PySem PySem.Spec L2
open PyProof.Rows (b2i)

section
variable {cl : Cl} {X : Cx} {C : Ct} {e a b c o tg : Expr} {es : List Expr} {st : Stmt} {sts : List Stmt} {pos pos' : Pos} {wa wb wc we wo : WE} {wr : WA} {wt : WT} {ws wu : WS} {pins : List (Addr × Obj)} {σ : L2.St} {H : Hp} {F : Fz} {s : Shared} {S : Store}

/-! ### comprehensions -/
theorem jts_nil : PTs X [] (tT C wYes) := ⟨fun pins s σ H Q I ⟨F, S, g, Qd, m, r, w, to⟩ => pts_nil.run pins s σ H Q I (to true S H F w (Ext.refl _ _) m)⟩
theorem jts_one (h : JT cl X c wt) : PTs X [c] (tT (Cof X cl) wt) := pts_one h
section
variable {elt iter : Expr} {ifs : List Expr} {scope : Scope} {own : List (Str × Nat)} {wi : WI} {t : Tgt} {tt : WT} {te : WE}
/-- what a comprehension's parts must be -/
structure LcOk (cl : Cl) (X : Cx) (elt tg iter : Expr) (ifs : List Expr) (scope : Scope) (own : List (Str × Nat)) (wi : WI) (t : Tgt) (tt : WT) (te : WE) : Prop where
  hi : JI cl X tg iter wi
  ok : BlkOk X.N X.env.scope scope own
  ht : ∀ i ∈ slots t, i ∈ own.map (·.2)
  hg : ∀ (s : Shared) (H : Hp) (B : Addr) (cs : List (Str × Addr)) (fp : List Addr), TgOk (X.blk s H scope (compEnvC scope cs B X.env) fp) tg t
  hs : ∀ (s : Shared) (H : Hp) (B : Addr) (cs : List (Str × Addr)) (fp : List Addr), PTs (X.blk s H scope (compEnvC scope cs B X.env) fp) ifs (tT (Cof X cl) tt)
  he : ∀ (s : Shared) (H : Hp) (B : Addr) (cs : List (Str × Addr)) (fp : List Addr), JE cl (X.blk s H scope (compEnvC scope cs B X.env) fp) elt te
theorem je_lc (hc : X.calm = true) (hN : X.N.Nodup) (k : LcOk cl X elt tg iter ifs scope own wi t tt te) (hf : ∀ x, foldedSetIterable iter X.env x = pure x := by intro _; rfl) :
    JE cl X (.ListComp elt [⟨tg, iter, ifs, 0⟩] scope pos) (wLc wi t tt te (own.map (·.2))) := (pe_lc hc hN k.hi k.ok k.hg k.hs k.he hf).imp fun σ H Q ⟨F, S, g, Qd, m, r, w, to⟩ => by
  refine lc_en (C := Cof X cl) k.ht m r w fun ds S1 p vs H1 F1 q e1 m1 nf ns hp rp => ?_
  obtain ⟨m2, e2⟩ := (show Sim (Cof X cl) H1 (fz1 F1 p true) S1 ∧ Ext H1 F1 H1 (fz1 F1 p true) from by
    have e2 : Ext H1 F1 H1 (fz1 F1 p true) := ⟨fun a b f => by rw [fz1_ne (fne f nf)]; exact f, fun _ _ _ => rfl, fun _ _ e => e, fun _ _ _ e => e⟩
    refine ⟨⟨fun q o e => ?_, fun q b f => ?_, cl.gx m1.g e2⟩, e2⟩
    · obtain ⟨a, x, b, d⟩ := m1.o q o e
      exact ⟨by rw [fz1_ne (by rintro rfl; rw [ns] at e; cases e)]; exact a, x, b, ob_weak (fun a f => by rw [fz1_ne (fne f nf)]; exact f) d⟩
    · by_cases hq : q = p
      · subst hq; exact ⟨vs, hp⟩
      · rw [fz1_ne hq] at f; exact m1.f q b f)
  exact to (.lst ds) S1 (.ref p) H1 _ q (e1.trans e2) m2 (by simp only [Rp]; exact ⟨p, vs, rfl, ⟨fz1_same, hp⟩, e2.rpAll rp⟩)
theorem je_lcM (hc : X.calm = true) (hN : X.N.Nodup) (k : LcOk cl X elt tg iter ifs scope own wi t tt te) (hf : ∀ x, foldedSetIterable iter X.env x = pure x := by intro _; rfl) :
    JE cl X (.ListComp elt [⟨tg, iter, ifs, 0⟩] scope pos) (wLcM wi t tt te (own.map (·.2))) := (pe_lc hc hN k.hi k.ok k.hg k.hs k.he hf).imp fun σ H Q ⟨F, S, g, Qd, m, r, w, to⟩ => by
  refine lc_en (C := Cof X cl) k.ht m r w fun ds S1 p vs H1 F1 q e1 m1 nf ns hp rp => ?_
  refine to (.ref p) (put S1 p (.lst ds)) (.ref p) H1 F1 (q p ns) e1 ?_ rp_ref
  refine ⟨fun q o e => ?_, m1.f, m1.g⟩
  by_cases hq : q = p
  · subst hq; rw [put_same] at e; cases e
    exact ⟨nf, _, hp, vs, rfl, rp⟩
  · rw [put_ne hq] at e; exact m1.o q o e
end

/-! ### statements -/
def wNext : WS := fun De g S => De.nx g S
def wSq (w u : WS) : WS := fun De g S => w { De with nx := u De } g S
def wDrop (we : WE) : WS := fun De g S => we g S fun _ S1 => De.nx g S1
def wRet (we : WE) : WS := fun De g S => we g S De.rt
def wRetN : WS := fun De _ S => De.rt .non S
def wIf (t : WT) (w u : WS) : WS := fun De g S => t g S fun b S1 => if b = true then w De g S1 else u De g S1
def wSet (i : Nat) (we : WE) : WS := fun De g S => we g S fun d S1 => De.nx (g.set i (some d)) S1
def wAsg (t : Tgt) (we : WE) : WS := fun De g S => we g S fun d S1 => orF (asg t d g) fun g' => De.nx g' S1
def wBrk : WS := fun De g S => De.bk g S
def wCnt : WS := fun De g S => De.ct g S
theorem jss_nil : JSs cl X [] wNext := pss_nil.imp fun E σ H ⟨F, S, g, De, m, r, w, to⟩ => to.nx g S σ H F w (Ext.refl _ _) m r
theorem js_pass : JS cl X (.Pass pos) wNext := ps_pass.imp fun E σ H ⟨F, S, g, De, m, r, w, to⟩ => to.nx g S σ H F w (Ext.refl _ _) m r
theorem js_break : JS cl X (.Break pos) wBrk := ps_break.imp fun E σ H ⟨F, S, g, De, m, r, w, to⟩ => to.bk g S σ H F w (Ext.refl _ _) m r
theorem js_cont : JS cl X (.Continue pos) wCnt := ps_continue.imp fun E σ H ⟨F, S, g, De, m, r, w, to⟩ => to.ct g S σ H F w (Ext.refl _ _) m r
theorem js_doc {x j pos pos'} : JS cl X (.Expr (.Constant (.str x) j pos) pos') wNext := ps_doc.imp fun E σ H ⟨F, S, g, De, m, r, w, to⟩ => to.nx g S σ H F w (Ext.refl _ _) m r
theorem jss_cons (h1 : JS cl X st ws) (h2 : JSs cl X sts wu) : JSs cl X (st :: sts) (wSq ws wu) := (pss_cons h1 h2).imp fun E σ H ⟨F, S, g, De, m, r, w, to⟩ =>
  ⟨F, S, g, _, m, r, w, ⟨fun g' S' σ' H' F' a b c d => ⟨F', S', g', De, c, d, a, to.ext b⟩, to.rt, to.bk, to.ct⟩⟩
theorem jss_one (h : JS cl X st ws) : JSs cl X [st] ws := pss_one h
theorem js_expr (h : JE cl X e we) (hs : swapsWith e none pos.line X.env = pure false := by rfl) : JS cl X (.Expr e pos) (wDrop we) := (ps_expr h hs).imp fun E σ H ⟨F, S, g, De, m, r, w, to⟩ =>
  ⟨F, S, g, _, m, r, w, fun d S1 v H1 F1 q e1 m1 _ => to.nx g S1 σ H1 F1 q e1 m1 (r.ext e1)⟩
theorem js_ret (h : JE cl X e we) : JS cl X (.Return (some e) pos) (wRet we) := (ps_ret h).imp fun E σ H ⟨F, S, g, De, m, r, w, to⟩ =>
  ⟨F, S, g, _, m, r, w, fun d S1 v H1 F1 q e1 m1 r1 => to.rt d S1 v H1 F1 q e1 m1 r1⟩
theorem js_retN : JS cl X (.Return none pos) wRetN := ps_retN.imp fun E σ H ⟨F, S, g, De, m, r, w, to⟩ => to.rt .non S .non H F w (Ext.refl _ _) m rp_non
theorem js_if {x y : List Stmt} (hc : JT cl X c wt) (ha : JSs cl X x ws) (hb : JSs cl X y wu) : JS cl X (.If c x y pos) (wIf wt ws wu) := (ps_if hc ha hb).imp fun E σ H ⟨F, S, g, De, m, r, w, to⟩ => by
  refine ⟨F, S, g, _, m, r, w, fun b S1 H1 F1 q e1 m1 => ?_⟩
  cases b with
  | true => rw [if_pos rfl] at q ⊢; exact ⟨F1, S1, g, De, m1, r.ext e1, q, to.ext e1⟩
  | false => rw [if_neg Bool.false_ne_true] at q ⊢; exact ⟨F1, S1, g, De, m1, r.ext e1, q, to.ext e1⟩
theorem set_en {C : Ct} {i : Nat} {E : Ends} (h : tS C (wSet i we) E σ H) : tAsg (tE C we) (gName i) E σ H := by
  obtain ⟨F, S, g, De, m, r, w, to⟩ := h
  exact ⟨F, S, g, _, m, r, w, fun d S1 v H1 F1 q e1 m1 r1 => to.nx _ S1 _ H1 F1 q e1 m1 ((r.ext e1).set i r1)⟩
theorem js_set {i : Nat} {x : Str} {pos' : Pos} (hN : X.N.Nodup) (hi : X.N[i]? = some x) (hx : Loc X.env.scope x) (he : JE cl X e we) (hs : swapsWith e (some (.Name x pos')) pos.line X.env = pure false := by rfl) (hf : X.fn x = true ∨ X.env.scope.names.lookup x = some .local := by first | exact .inl rfl | exact .inr rfl | assumption) :
    JS cl X (.Assign [.Name x pos'] e pos) (wSet i we) := (ps_set hN hi hx he hs hf).imp fun _ _ _ h => set_en h
section
variable {elt iter : Expr} {ifs : List Expr} {scope : Scope} {own : List (Str × Nat)} {wi : WI} {t : Tgt} {tt : WT} {te : WE} {i : Nat} {y : Str} {py spos : Pos}
/-- name = [..] on one line -/
theorem js_setLc (hc : X.calm = true) (hN : X.N.Nodup) (hy : X.N[i]? = some y) (hyl : X.env.scope.names.lookup y = some .local) (hsw : swapsWith (.ListComp elt [⟨tg, iter, ifs, 0⟩] scope pos) (some (.Name y py)) spos.line X.env = pure true)
    (k : LcOk cl X elt tg iter ifs scope own wi t tt te) (hf : ∀ x, foldedSetIterable iter X.env x = pure x := by intro _; rfl) :
    JS cl X (.Assign [.Name y py] (.ListComp elt [⟨tg, iter, ifs, 0⟩] scope pos) spos) (wSet i (wLc wi t tt te (own.map (·.2)))) := (ps_setLc hc hN hy hyl hsw k.hi k.ok k.hg k.hs k.he hf).imp fun E σ H ⟨F, S, g, De, m, r, w, to⟩ => by
  refine lc_en (C := Cof X cl) k.ht m r w fun ds S1 p vs H1 F1 q e1 m1 nf ns hp rp => ?_
  have e2 : Ext H1 F1 H1 (fz1 F1 p true) := ⟨fun a b f => by rw [fz1_ne (fne f nf)]; exact f, fun _ _ _ => rfl, fun _ _ e => e, fun _ _ _ e => e⟩
  refine to.nx _ S1 _ H1 _ q (e1.trans e2) ?_ (((r.ext e1).ext e2).set i (by simp only [Rp]; exact ⟨p, vs, rfl, ⟨fz1_same, hp⟩, e2.rpAll rp⟩))
  refine ⟨fun q o e => ?_, fun q b f => ?_, cl.gx m1.g e2⟩
  · obtain ⟨a, x, b, d⟩ := m1.o q o e
    exact ⟨by rw [fz1_ne (by rintro rfl; rw [ns] at e; cases e)]; exact a, x, b, ob_weak (fun a f => by rw [fz1_ne (fne f nf)]; exact f) d⟩
  · by_cases hq : q = p
    · subst hq; exact ⟨vs, hp⟩
    · rw [fz1_ne hq] at f; exact m1.f q b f
theorem js_setLcM (hc : X.calm = true) (hN : X.N.Nodup) (hy : X.N[i]? = some y) (hyl : X.env.scope.names.lookup y = some .local) (hsw : swapsWith (.ListComp elt [⟨tg, iter, ifs, 0⟩] scope pos) (some (.Name y py)) spos.line X.env = pure true)
    (k : LcOk cl X elt tg iter ifs scope own wi t tt te) (hf : ∀ x, foldedSetIterable iter X.env x = pure x := by intro _; rfl) :
    JS cl X (.Assign [.Name y py] (.ListComp elt [⟨tg, iter, ifs, 0⟩] scope pos) spos) (wSet i (wLcM wi t tt te (own.map (·.2)))) := (ps_setLc hc hN hy hyl hsw k.hi k.ok k.hg k.hs k.he hf).imp fun E σ H ⟨F, S, g, De, m, r, w, to⟩ => by
  refine lc_en (C := Cof X cl) k.ht m r w fun ds S1 p vs H1 F1 q e1 m1 nf ns hp rp => ?_
  refine to.nx _ (put S1 p (.lst ds)) _ H1 F1 (q p ns) e1 ⟨fun q o e => ?_, m1.f, m1.g⟩ ((r.ext e1).set i rp_ref)
  by_cases hq : q = p
  · subst hq; rw [put_same] at e; cases e
    exact ⟨nf, _, hp, vs, rfl, rp⟩
  · rw [put_ne hq] at e; exact m1.o q o e
end
theorem js_asg {t : Tgt} (he : JE cl X e we) (hg : TgOk X tg t) (hs : swapsWithSole [tg] e pos.line X.env = pure false := by rfl) (hw : swappedStores [tg] e X.env = pure none := by rfl)
    (h1 : (assignEach [tg] X.env).map (·.2) = [assign tg X.env] := by rfl) : JS cl X (.Assign [tg] e pos) (wAsg t we) := (ps_asg he hg hs hw h1).imp fun E σ H ⟨F, S, g, De, m, r, w, to⟩ => by
  refine ⟨F, S, g, _, m, r, w, fun d S1 v H1 F1 q e1 m1 r1 => ?_⟩
  obtain ⟨g', eg, q⟩ := orF_iff.mp q
  obtain ⟨σ', s1, _, s3⟩ := asg_ok r1 (r.ext e1) eg
  exact s3 _ (to.nx g' S1 σ' H1 F1 q e1 m1 s1)
/-- a, b = x, y -/
def wPar (i j : Nat) (wr : WA) : WS := fun De g S => wr g S fun ds S1 => match ds with | [x, y] => De.nx ((g.set i (some x)).set j (some y)) S1 | _ => False
theorem js_par {i j : Nat} {x y : Str} {px py pt : Pos} {kt k2 pt2} (hc : X.calm = true) (hN : X.N.Nodup) (hi : X.N[i]? = some x) (hj : X.N[j]? = some y) (hij : i ≠ j) (hx : X.env.scope.names.lookup x = some .local) (hy : X.env.scope.names.lookup y = some .local) (ha : JL cl X [a, b] wr)
    (hw : swappedStores [.Tuple [.Name x px, .Name y py] kt pt] (.Tuple [a, b] k2 pt2) X.env = pure (some [x, y])) (hs : swapsWithSole [.Tuple [.Name x px, .Name y py] kt pt] (.Tuple [a, b] k2 pt2) pos.line X.env = pure false := by rfl) :
    JS cl X (.Assign [.Tuple [.Name x px, .Name y py] kt pt] (.Tuple [a, b] k2 pt2) pos) (wPar i j wr) := (ps_par hc hN hi hj hij hx hy ha hw hs).imp fun E σ H ⟨F, S, g, De, m, r, w, to⟩ => by
  refine ⟨F, S, g, _, m, r, w, fun ds S1 vs H1 F1 q e1 m1 r1 => ?_⟩
  split at q
  · simp only [RpAll] at r1
    obtain ⟨v, _, rfl, h1, w', _, rfl, h2, rfl⟩ := r1
    exact ⟨v, w', rfl, to.nx _ S1 _ H1 F1 q e1 m1 (((r.ext e1).set i h1).set j h2)⟩
  · exact q.elim
/-! #### o[i] = v -/
abbrev W3 := D → D → D → Store → (Store → Prop) → Prop
def kSetI : W3 := fun o i v S k => match o with
  | .ref p => match S p with
    | some (.lst xs) => match i with
      | .int n => orF (ixN xs.length n) fun j => k (put S p (.lst (xs.set j v)))
      | _ => False
    | some (.dct l) => orF (scK i) fun _ => l.length < sizeLine ∧ k (put S p (.dct (putD l i v)))
    | some (.dcT l) => match i with
      | .tup ds => keyd 8 (.tup ds) = true ∧ l.length < sizeLine ∧ k (put S p (.dcT (putD l (.tup ds) v)))
      | _ => False
    | none => False
  | _ => False
def rSetJ (C : Ct) : TSet := fun o i v H Q => ∃ F S a b c Sd, Sim C H F S ∧ Rp C.K H F a o ∧ Rp C.K H F b i ∧ Rp C.K H F c v ∧ kSetI a b c S Sd ∧ ∀ S' H' F', Sd S' → Ext H F H' F' → Sim C H' F' S' → Q H'
theorem set_J (hu : X.A.units + 64 < cLine) : PSet X (rSetJ (Cof X cl)) := by
  intro pins s σ H o i v ov iv u Q I ro ri rv ⟨F, S, a, b, c, Sd, m, r1, r2, r3, q, to⟩
  unfold kSetI at q
  split at q
  · rename_i p
    simp only [Rp] at r1
    subst r1
    split at q
    · rename_i xs e
      split at q
      · simp only [Rp] at r2
        obtain ⟨j, e1, q⟩ := orF_iff.mp q
        obtain ⟨vs, h1, k1⟩ := m.lst e
        exact set_list pins s σ H _ i v ov iv u Q I ro ri rv ⟨p, vs, _, j, rfl, r2, h1, by rw [k1.len]; exact e1,
          to _ _ F q (m.ext_put e _) (m.put e ⟨_, rfl, ((m.ext_put e _).rpAll k1).set j ((m.ext_put e _).rp r3)⟩)⟩
      · exact q.elim
    · rename_i l e
      obtain ⟨kk, e0, hl, q⟩ := orF_iff.mp q
      obtain ⟨ks, h1, k1⟩ := m.dct e
      cases (show ov = Value.ref p from ro)
      refine d_setItem (H' := upd H p (.dK (putK ks kk v))) (by omega) I ?_ ri rv fun s' I' => ⟨_, I', to _ _ F q (m.ext_put e _) (m.put e ⟨_, rfl, kv_put e0 ((m.ext_put e _).rp r3) (k1.ext (m.ext_put e _))⟩)⟩
      rw [scK_rp e0 r2]
      exact DPut.k h1 (by rw [kv_len k1]; exact hl)
    · rename_i l e
      split at q
      · rename_i ds
        obtain ⟨k8, hl, q⟩ := q
        obtain ⟨xs, h1, k1⟩ := m.dcT e
        obtain ⟨g1, g2, ys, g3, g4⟩ := dn_rd I h1 k1
        have hn := nested_of I 8 _ i iv k8 r2 ri
        have r2' := r2
        simp only [Rp] at r2'
        obtain ⟨t, _, rfl, _, _⟩ := r2'
        cases (show ov = Value.ref p from ro)
        cases (show iv = Value.ref t from ri)
        have hlen : xs.length < sizeLine := by rw [nv_len k1]; exact hl
        refine wpAny_setItem_heap (knd := nestedKind X.prog X.w) (hsz := by rw [← Paired.length g3]; omega) (by show X.A.units + 1 + 8 < cLine; omega) ⟨hn, depth_NK 8 _ k8⟩ g4 fun h' dd' hs => ?_
        obtain ⟨xs', i1, i2, i3⟩ := nv_put rfl k8 r2 r3 rv k1 g3
        obtain ⟨q0, es, ep, hq, h2, h3, h4, _, h5⟩ := dd'
        refine ⟨_, d_write (ob := dNO X.prog X.w p xs') (t' := s.toks + (toNK (.tup ds)).draws) I (by rw [h1]; exact True.intro) hs ⟨q0, hq⟩ ⟨⟨g1, by omega, _, i2, q0, es, ep, hq, h2, h3, h4, h5⟩, ⟨q0, hq⟩, fun a1 a2 ⟨z1, z2, ys', z3, o', es', ep', z4, z5⟩ kk => ⟨z1, z2, ys', z3, o', es', ep', kk _ z4, z5⟩⟩, ?_⟩
        exact to _ _ F q (m.ext_put e _) (m.put e ⟨xs', rfl, i1.ext (m.ext_put e _)⟩)
      · exact q.elim
    · exact q.elim
  · exact q.elim
def wSub (wo wi we : WE) : WS := fun De g S => we g S fun d S1 => wo g S1 fun o S2 => wi g S2 fun i S3 => kSetI o i d S3 fun S4 => De.nx g S4
theorem js_sub {wi : WE} (hu : X.A.units + 64 < cLine) (he : JE cl X e we) (ho : JE cl X o wo) (hi : JE cl X b wi)
    (ha : ∀ v, assign (.Subscript o b pos') X.env v = (do
      let ov ← PySem.holding [v] (eval o X.env)
      let iv ← PySem.holding [v, ov] (eval b X.env)
      standAt pos'
      PySem.holding [v, ov, iv] (setItem ov iv v)
      release [v, ov, iv] []) := by intro _; rfl)
    (hs : swapsWithSole [.Subscript o b pos'] e pos.line X.env = pure false := by rfl) (hw : swappedStores [.Subscript o b pos'] e X.env = pure none := by rfl) (h1 : (assignEach [.Subscript o b pos'] X.env).map (·.2) = [assign (.Subscript o b pos') X.env] := by rfl) :
    JS cl X (.Assign [.Subscript o b pos'] e pos) (wSub wo wi we) := (ps_asg he (pg_sub ho hi (set_J hu) ha) hs hw h1).imp fun E σ H ⟨F, S, g, De, m, r, w, to⟩ =>
  ⟨F, S, g, _, m, r, w, fun d S1 v H1 F1 q1 e1 m1 r1 => ⟨F1, S1, g, _, m1, r.ext e1, q1, fun x S2 xv H2 F2 q2 e2 m2 r2 => ⟨F2, S2, g, _, m2, (r.ext e1).ext e2, q2, fun i S3 iv H3 F3 q3 e3 m3 r3 =>
    ⟨F3, S3, x, i, d, _, m3, e3.rp r2, r3, (e2.trans e3).rp r1, q3, fun S4 H4 F4 q4 e4 m4 => to.nx g S4 σ H4 F4 q4 (e1.trans (e2.trans (e3.trans e4))) m4 ((((r.ext e1).ext e2).ext e3).ext e4)⟩⟩⟩⟩
end
end J
set_option Elab.async false
set_option linter.all false
set_option maxRecDepth 100000
namespace J
open PySem PySem.Spec L2
open PyProof.Rows (b2i IntsAre)

section
variable {cl : Cl} {X : Cx} {C : Ct} {e a b c o tg : Expr} {es : List Expr} {st : Stmt} {sts : List Stmt} {pos pos' p p' cpos apos : Pos} {wa wb wc we wo : WE} {wr : WA} {wt : WT} {ws wu : WS} {pins : List (Addr × Obj)} {σ : L2.St} {H : Hp} {F : Fz} {s : Shared} {S : Store}

/-! ### calls of built-in things -/
def wB (k : WCall) (wr : WA) : WE := fun g S Q => wr g S fun ds S1 => k ds S1 Q
def rCallJ (C : Ct) (k : WCall) : List V → Hp → VK → Prop := fun xs H Q => ∃ F S ds Qd, Sim C H F S ∧ RpAll C.K H F ds xs ∧ k ds S Qd ∧ rTo C H F Qd Q
theorem CallJ.r {f : Value} {k : WCall} (h : CallJ cl X f k) : CallR X f (rCallJ (Cof X cl) k) := fun pins s σ H xs us Q I r ⟨F, S, ds, Qd, m, r1, q, to⟩ => h pins s σ H F S xs us ds Qd Q I m r r1 q to
theorem CallJ.of {f : Value} {k : WCall} {r : List V → Hp → VK → Prop} (h : CallR X f r) (i : ∀ (H : Hp) (F : Fz) (S : Store) (xs : List V) (ds : List D) (Qd : QE) (Q : VK), Sim (Cof X cl) H F S → RpAll X.K H F ds xs → k ds S Qd → rTo (Cof X cl) H F Qd Q → r xs H Q) : CallJ cl X f k :=
  fun pins s σ H F S xs us ds Qd Q I m r r1 q to => h pins s σ H xs us Q I r (i H F S xs ds Qd Q m r1 q to)
theorem wB_en {k : WCall} {Q : VK} (h : tE C (wB k wr) σ H Q) : tCB (rCallJ C k) (tA C wr) σ H Q := by
  obtain ⟨F, S, g, Qd, m, r, w, to⟩ := h
  exact ⟨F, S, g, _, m, r, w, fun ds S1 vs H1 F1 q e1 m1 r1 => ⟨F1, S1, ds, Qd, m1, r1, q, rTo.ext to e1⟩⟩
theorem je_callB {id : String} {x : Str} {k : WCall} (hc : CallJ cl X (.builtin id) k) (hg : Gl X x) (hm : X.mg x = none) (hv : bootBuiltins x = some (.builtin id)) (ha : JL cl X (e :: es) wr) (hn : x ≠ "__name__" := by decide) (hdb : (x == ("__debug__" : Str)) = false := by decide)
    (he : starEach (e :: es) X.env = (false, eval e X.env) :: starEach es X.env := by rfl) (hpl : (backTo pos (starEach es X.env)).any (·.1) = false := by rfl) : JE cl X (.Call (.Name x p) (e :: es) [] pos) (wB k wr) :=
  (pe_callB hc.r hg hm hv ha hn hdb he hpl).imp fun _ _ _ h => wB_en h
theorem je_callT {T : String} {x : Str} {k : WCall} (hc : CallJ cl X (.type T) k) (hg : Gl X x) (hm : X.mg x = none) (hv : bootBuiltins x = some (.type T)) (ha : JL cl X (e :: es) wr) (hn : x ≠ "__name__" := by decide) (hdb : (x == ("__debug__" : Str)) = false := by decide)
    (he : starEach (e :: es) X.env = (false, eval e X.env) :: starEach es X.env := by rfl) (hpl : (backTo pos (starEach es X.env)).any (·.1) = false := by rfl) : JE cl X (.Call (.Name x p) (e :: es) [] pos) (wB k wr) :=
  (pe_callTy hc.r hg hm hv ha hn hdb he hpl).imp fun _ _ _ h => wB_en h
theorem rp1 {K : PySem.W.Frag} {d : D} {xs : List V} (r : RpAll K H F [d] xs) : ∃ v, xs = [v] ∧ Rp K H F d v := by
  simp only [RpAll] at r
  obtain ⟨v, _, rfl, h, rfl⟩ := r
  exact ⟨v, rfl, h⟩
theorem rp2 {K : PySem.W.Frag} {d x : D} {xs : List V} (r : RpAll K H F [d, x] xs) : ∃ v w, xs = [v, w] ∧ Rp K H F d v ∧ Rp K H F x w := by
  simp only [RpAll] at r
  obtain ⟨v, _, rfl, h, w, _, rfl, h', rfl⟩ := r
  exact ⟨v, w, rfl, h, h'⟩
/-- len -/
def kLen : WCall := fun ds S Q => match ds with
  | [.lst l] => Q (.int l.length) S
  | [.tup l] => Q (.int l.length) S
  | [.scr l] => Q (.int l.length) S
  | [.str x] => x.length ≤ sizeLine ∧ Q (.int x.length) S
  | [.ref p] => match S p with
    | some (.lst l) => Q (.int l.length) S
    | some (.dct l) => Q (.int l.length) S
    | some (.dcT l) => Q (.int l.length) S
    | none => False
  | _ => False
theorem jc_len : CallJ cl X (.builtin "len") kLen := by
  intro pins s σ H F S xs us ds Qd Q I m rv r q to
  unfold kLen at q
  have viaL : ∀ {v : V} {n : Nat}, xs = [v] → LenV X.K v H n → Qd (.int n) S → wpAny (model X.prog X.w) X.A (call (.builtin "len") us) (EP X pins σ Q) X.xe s := fun {v n} ex hl q =>
    L2.call_len pins s σ H xs us Q I rv ⟨v, n, ex, hl, to.here m rp_int q⟩
  split at q
  · obtain ⟨v, ex, rv'⟩ := rp1 r
    simp only [Rp] at rv'
    obtain ⟨p, vs, rfl, f, k⟩ := rv'
    exact viaL (n := vs.length) ex (.inl ⟨vs, SqL.of f.2, rfl⟩) (by rw [k.len]; exact q)
  · obtain ⟨v, ex, rv'⟩ := rp1 r
    simp only [Rp] at rv'
    obtain ⟨p, vs, rfl, f, k⟩ := rv'
    exact viaL (n := vs.length) ex (.inr ⟨vs, f, rfl⟩) (by rw [k.len]; exact q)
  · obtain ⟨v, ex, rv'⟩ := rp1 r
    simp only [Rp] at rv'
    obtain ⟨p, rfl, f⟩ := rv'
    exact viaL ex (.inl ⟨_, f.sq, by rw [List.length_map]⟩) q
  · obtain ⟨v, ex, rv'⟩ := rp1 r
    simp only [Rp] at rv'
    subst rv'
    exact viaL ex ⟨q.1, rfl⟩ q.2
  · obtain ⟨v, ex, rv'⟩ := rp1 r
    simp only [Rp] at rv'
    subst rv'
    split at q
    · rename_i h
      obtain ⟨vs, f, k⟩ := m.lst h
      exact viaL (n := vs.length) ex (.inl ⟨vs, SqL.of f, rfl⟩) (by rw [k.len]; exact q)
    · rename_i h
      obtain ⟨ks, f, k⟩ := m.dct h
      subst ex
      obtain ⟨u, rfl, ru⟩ := vals1 rv
      cases ru
      exact d_len I (.inl f) fun t s' I' => ⟨.int ks.length, H, I', ⟨t, rfl⟩, by rw [kv_len k]; exact to.here m rp_int q⟩
    · rename_i h
      obtain ⟨ks, f, k⟩ := m.dcT h
      obtain ⟨g1, g2, ys, g3, g4⟩ := dn_rd I f k
      have hl := Paired.length g3
      have hk := nv_len k
      subst ex
      obtain ⟨u, rfl, ru⟩ := vals1 rv
      cases ru
      refine call_len_dictH g1 g4 (by rw [← hl]; rw [sizeLine_eq] at g2; omega) ?_
      rw [← hl, hk]
      exact ⟨.int _, H, I.tok _, ⟨_, rfl⟩, to.here m rp_int q⟩
    · exact q.elim
  · exact q.elim
def kAbs : WCall := fun ds S Q => match ds with | [.int i] => Q (.int (if i < 0 then -i else i)) S | _ => False
theorem jc_abs : CallJ cl X (.builtin "abs") kAbs := CallJ.of call_abs fun H F S xs ds Qd Q m r q to => by
  unfold kAbs at q
  split at q
  · obtain ⟨v, rfl, r1⟩ := rp1 r
    simp only [Rp] at r1
    subst r1
    exact ⟨_, rfl, to.here m rp_int q⟩
  · exact q.elim
def kMax2 : WCall := fun ds S Q => match ds with | [.int i, .int j] => Q (.int (if j > i then j else i)) S | _ => False
def kMin2 : WCall := fun ds S Q => match ds with | [.int i, .int j] => Q (.int (if j < i then j else i)) S | _ => False
theorem jc_max2 (hc : X.calm = true) : CallJ cl X (.builtin "max") kMax2 := CallJ.of (call_max2 hc) fun H F S xs ds Qd Q m r q to => by
  unfold kMax2 at q
  split at q
  · obtain ⟨v, w, rfl, r1, r2⟩ := rp2 r
    simp only [Rp] at r1 r2
    subst r1 r2
    exact ⟨_, _, rfl, to.here m rp_int q⟩
  · exact q.elim
theorem jc_min2 (hc : X.calm = true) : CallJ cl X (.builtin "min") kMin2 := CallJ.of (call_min2 hc) fun H F S xs ds Qd Q m r q to => by
  unfold kMin2 at q
  split at q
  · obtain ⟨v, w, rfl, r1, r2⟩ := rp2 r
    simp only [Rp] at r1 r2
    subst r1 r2
    exact ⟨_, _, rfl, to.here m rp_int q⟩
  · exact q.elim
def kInt : WCall := fun ds S Q => match ds with | [.int i] => Q (.int i) S | [.bl k] => Q (.int (if k then 1 else 0)) S | _ => False
theorem jc_int : CallJ cl X (.type "int") kInt := CallJ.of call_int1 fun H F S xs ds Qd Q m r q to => by
  unfold kInt at q
  split at q
  · obtain ⟨v, rfl, r1⟩ := rp1 r
    simp only [Rp] at r1
    subst r1
    exact .inl ⟨_, rfl, to.here m rp_int q⟩
  · obtain ⟨v, rfl, r1⟩ := rp1 r
    simp only [Rp] at r1
    subst r1
    exact .inr ⟨_, rfl, to.here m rp_int q⟩
  · exact q.elim
/-- a list's or a tuple's items -/
def itemsOf (S : Store) : D → Option (List D)
  | .lst l => some l
  | .tup l => some l
  | .ref p => match S p with
    | some (.lst l) => some l
    | _ => none
  | _ => none
def blsOf : List D → Option (List Bool)
  | [] => some []
  | .bl b :: r => (blsOf r).map (b :: ·)
  | _ :: _ => none
theorem blsOf_map : ∀ {l : List D} {bs : List Bool}, blsOf l = some bs → l = bs.map D.bl
  | [], bs, h => by simp only [blsOf] at h; cases h; rfl
  | d :: r, bs, h => by
    cases d <;> simp only [blsOf] at h <;> first | (cases h; done) | skip
    cases q : blsOf r with
    | none => rw [q] at h; cases h
    | some z => rw [q] at h; cases h; rw [blsOf_map q]; rfl
theorem blsOf_of (bs : List Bool) : blsOf (bs.map D.bl) = some bs := by
  induction bs with
  | nil => rfl
  | cons b r ih => simp only [List.map_cons, blsOf, ih]; rfl
def intsOf : List D → Option (List Int)
  | [] => some []
  | .int b :: r => (intsOf r).map (b :: ·)
  | _ :: _ => none
theorem intsOf_map : ∀ {l : List D} {bs : List Int}, intsOf l = some bs → l = bs.map D.int
  | [], bs, h => by simp only [intsOf] at h; cases h; rfl
  | d :: r, bs, h => by
    cases d <;> simp only [intsOf] at h <;> first | (cases h; done) | skip
    cases q : intsOf r with
    | none => rw [q] at h; cases h
    | some z => rw [q] at h; cases h; rw [intsOf_map q]; rfl
theorem intsOf_of (bs : List Int) : intsOf (bs.map D.int) = some bs := by
  induction bs with
  | nil => rfl
  | cons b r ih => simp only [List.map_cons, intsOf, ih]; rfl
/-- a list as a value, or of the store -/
def lstOf (S : Store) : D → Option (List D)
  | .lst l => some l
  | .ref p => match S p with
    | some (.lst l) => some l
    | _ => none
  | _ => none
theorem lstOf_at {d : D} {l : List D} {v : V} (m : Sim C H F S) (h : lstOf S d = some l) (r : Rp C.K H F d v) : ∃ p vs, v = .ref p ∧ H p = some (.lst vs) ∧ RpAll C.K H F l vs := by
  cases d <;> simp only [lstOf] at h <;> first | (cases h; done) | skip
  · cases h
    simp only [Rp] at r
    obtain ⟨p, vs, e, f, k⟩ := r
    exact ⟨p, vs, e, f.2, k⟩
  · split at h
    · rename_i e
      cases h
      obtain ⟨vs, f, k⟩ := m.lst e
      simp only [Rp] at r
      exact ⟨_, vs, r, f, k⟩
    · cases h
def kAll : WCall := fun ds S Q => match ds with | [d] => orF ((lstOf S d).bind blsOf) fun bs => Q (.bl (bs.all id)) S | _ => False
def kAny : WCall := fun ds S Q => match ds with | [d] => orF ((lstOf S d).bind blsOf) fun bs => Q (.bl (bs.any id)) S | _ => False
theorem bind_inv {α β : Type} {o : Option α} {f : α → Option β} {b : β} (h : o.bind f = some b) : ∃ a, o = some a ∧ f a = some b := by
  cases o with
  | none => cases h
  | some a => exact ⟨a, rfl, h⟩
theorem jc_all (hc : X.calm = true) : CallJ cl X (.builtin "all") kAll := CallJ.of (cr_all hc) fun H F S xs ds Qd Q m r q to => by
  unfold kAll at q
  split at q
  · obtain ⟨v, rfl, r1⟩ := rp1 r
    obtain ⟨bs, h, q⟩ := orF_iff.mp q
    obtain ⟨l, h1, h2⟩ := bind_inv h
    obtain ⟨p, vs, rfl, f, k⟩ := lstOf_at m h1 r1
    rw [blsOf_map h2] at k
    rw [k.bls] at f
    exact ⟨p, bs, rfl, SqL.of f, to.here m rp_bl q⟩
  · exact q.elim
theorem jc_any (hc : X.calm = true) : CallJ cl X (.builtin "any") kAny := CallJ.of (cr_any hc) fun H F S xs ds Qd Q m r q to => by
  unfold kAny at q
  split at q
  · obtain ⟨v, rfl, r1⟩ := rp1 r
    obtain ⟨bs, h, q⟩ := orF_iff.mp q
    obtain ⟨l, h1, h2⟩ := bind_inv h
    obtain ⟨p, vs, rfl, f, k⟩ := lstOf_at m h1 r1
    rw [blsOf_map h2] at k
    rw [k.bls] at f
    exact ⟨p, bs, rfl, SqL.of f, to.here m rp_bl q⟩
  · exact q.elim
/-- sum of ints -/
def kSum : WCall := fun ds S Q => match ds with
  | [.tup l] => orF (intsOf l) fun ns => Q (.int ns.sum) S
  | [d] => orF ((lstOf S d).bind intsOf) fun ns => Q (.int ns.sum) S
  | _ => False
theorem jc_sum (hc : X.calm = true) : CallJ cl X (.builtin "sum") kSum := by
  intro pins s σ H F S xs us ds Qd Q I m rv r q to
  unfold kSum at q
  split at q
  · obtain ⟨v, rfl, r1⟩ := rp1 r
    obtain ⟨ns, h, q⟩ := orF_iff.mp q
    simp only [Rp] at r1
    obtain ⟨p, vs, rfl, f, k⟩ := r1
    rw [intsOf_map h] at k
    rw [k.ints] at f
    obtain ⟨its, rv2, pl, hz⟩ := I.tuple f
    obtain ⟨u, rfl, ru⟩ := vals1 rv
    cases ru
    have hi : IntsAre its ns := rv2.ints
    obtain ⟨ys, e⟩ := hi.allInts.items
    have hn : PySem.numsOf (PySem.intItems ys).toList = ns := by rw [← e]; exact hi.numsOf
    rw [PySem.nums_intItems] at hn
    rw [e] at pl
    refine PySem.W.ktm_sumG (I.ok.hd hc) pl fun h' tk t' hk => ?_
    rw [PySem.preSum_eq, List.take_of_length_le (by simp), hn]
    exact ⟨.int _, H, I.kept hk, ⟨_, rfl⟩, to.here m rp_int q⟩
  · obtain ⟨v, rfl, r1⟩ := rp1 r
    obtain ⟨bs, h, q⟩ := orF_iff.mp q
    obtain ⟨l, h1, h2⟩ := bind_inv h
    obtain ⟨p, vs, rfl, f, k⟩ := lstOf_at m h1 r1
    rw [intsOf_map h2] at k
    rw [k.ints] at f
    exact cr_sum hc pins s σ H _ us Q I rv ⟨p, bs, rfl, SqL.of f, to.here m rp_int q⟩
  · exact q.elim
/-- list(x): a value; one that will be changed -/
def kList : WCall := fun ds S Q => match ds with | [d] => orF (itemsOf S d) fun l => Q (.lst l) S | _ => False
def kListM : WCall := fun ds S Q => match ds with | [d] => orF (itemsOf S d) fun l => ∀ p, S p = none → Q (.ref p) (put S p (.lst l)) | _ => False
def kTuple : WCall := fun ds S Q => match ds with | [d] => orF (itemsOf S d) fun l => Q (.tup l) S | _ => False
theorem itemsOf_at {d : D} {l : List D} {v : V} (m : Sim C H F S) (h : itemsOf S d = some l) (r : Rp C.K H F d v) : ∃ p vs, v = .ref p ∧ (H p = some (.lst vs) ∨ SqT C.K H p vs ∧ d = .tup l) ∧ RpAll C.K H F l vs := by
  cases d <;> simp only [itemsOf] at h <;> first | (cases h; done) | skip
  · cases h
    simp only [Rp] at r
    obtain ⟨p, vs, e, f, k⟩ := r
    exact ⟨p, vs, e, .inr ⟨f, rfl⟩, k⟩
  · cases h
    simp only [Rp] at r
    obtain ⟨p, vs, e, f, k⟩ := r
    exact ⟨p, vs, e, .inl f.2, k⟩
  · split at h
    · rename_i e
      cases h
      obtain ⟨vs, f, k⟩ := m.lst e
      simp only [Rp] at r
      exact ⟨_, vs, r, .inl f, k⟩
    · cases h
theorem jc_list : CallJ cl X (.type "list") kList := CallJ.of call_list_of fun H F S xs ds Qd Q m r q to => by
  unfold kList at q
  split at q
  · obtain ⟨v, rfl, r1⟩ := rp1 r
    obtain ⟨l, h, q⟩ := orF_iff.mp q
    obtain ⟨p, vs, rfl, f, k⟩ := itemsOf_at m h r1
    refine ⟨p, vs, rfl, f.elim (fun f => .inl (SqL.of f)) (fun f => .inr f.1), fun n hn => ?_⟩
    exact to _ _ _ _ _ q (m.ext_frz hn _) (m.frz hn _) (by simp only [Rp]; exact ⟨n, vs, rfl, ⟨fz1_same, upd_same⟩, (m.ext_frz hn _).rpAll k⟩)
  · exact q.elim
theorem jc_listM : CallJ cl X (.type "list") kListM := CallJ.of call_list_of fun H F S xs ds Qd Q m r q to => by
  unfold kListM at q
  split at q
  · obtain ⟨v, rfl, r1⟩ := rp1 r
    obtain ⟨l, h, q⟩ := orF_iff.mp q
    obtain ⟨p, vs, rfl, f, k⟩ := itemsOf_at m h r1
    refine ⟨p, vs, rfl, f.elim (fun f => .inl (SqL.of f)) (fun f => .inr f.1), fun n hn => ?_⟩
    exact to _ _ _ _ F (q n (m.free hn)) (m.ext_new hn _) (m.new_put hn ⟨vs, rfl, (m.ext_new hn _).rpAll k⟩) rp_ref
  · exact q.elim
theorem jc_tuple : CallJ cl X (.type "tuple") kTuple := CallJ.of call_tuple_of fun H F S xs ds Qd Q m r q to => by
  unfold kTuple at q
  split at q
  · obtain ⟨v, rfl, r1⟩ := rp1 r
    obtain ⟨l, h, q⟩ := orF_iff.mp q
    obtain ⟨p, vs, rfl, f, k⟩ := itemsOf_at m h r1
    rcases f with f | ⟨f, ed⟩
    · refine ⟨p, vs, rfl, .inl ⟨SqL.of f, fun n hn => ?_⟩⟩
      exact to _ _ _ _ F q (m.ext_new hn _) (m.new hn _) (by simp only [Rp]; exact ⟨n, vs, rfl, SqT.of upd_same, (m.ext_new hn _).rpAll k⟩)
    · exact ⟨p, vs, rfl, .inr ⟨f, to.here m (by simp only [Rp]; exact ⟨p, vs, rfl, f, k⟩) q⟩⟩
  · exact q.elim
end
end J
set_option Elab.async false
set_option linter.all false
set_option maxRecDepth 100000
namespace J
open PySem PySem.Spec L2
open PyProof.Rows (b2i IntsAre)

section
variable {cl : Cl} {X : Cx} {C : Ct} {e a b c o tg : Expr} {es : List Expr} {st : Stmt} {sts : List Stmt} {pos pos' p p' cpos apos : Pos} {wa wb wc we wo : WE} {wr : WA} {wt : WT} {ws wu : WS} {pins : List (Addr × Obj)} {σ : L2.St} {H : Hp} {F : Fz} {s : Shared} {S : Store}

/-! ### o.m(..) of a list -/
abbrev WMt := D → List D → Store → QE → Prop
def MtJ (cl : Cl) (X : Cx) (id : String) (k : WMt) : Prop := ∀ (pins : List (Addr × Obj)) (s : Shared) (σ : L2.St) (H : Hp) (F : Fz) (S : Store) (x : V) (xs : List V) (v : Value) (us : List Value) (a : D) (ds : List D) (Qd : QE) (Q : VK),
  Inv X pins σ H s → Sim (Cof X cl) H F S → RelV x v → Vals xs us → Rp X.K H F a x → RpAll X.K H F ds xs → k a ds S Qd → rTo (Cof X cl) H F Qd Q → wpAny (model X.prog X.w) X.A (call (.builtin id) (v :: us)) (EP X pins σ Q) X.xe s
def rMtJ (C : Ct) (k : WMt) : V → List V → Hp → VK → Prop := fun x xs H Q => ∃ F S a ds Qd, Sim C H F S ∧ Rp C.K H F a x ∧ RpAll C.K H F ds xs ∧ k a ds S Qd ∧ rTo C H F Qd Q
theorem MtJ.r {id : String} {k : WMt} (h : MtJ cl X id k) : MtR X id (rMtJ (Cof X cl) k) := fun pins s σ H x xs v us Q I rx rv ⟨F, S, a, ds, Qd, m, r1, r2, q, to⟩ => h pins s σ H F S x xs v us a ds Qd Q I m rx rv r1 r2 q to
theorem MtJ.of {id : String} {k : WMt} {r : V → List V → Hp → VK → Prop} (h : MtR X id r) (i : ∀ (H : Hp) (F : Fz) (S : Store) (x : V) (xs : List V) (a : D) (ds : List D) (Qd : QE) (Q : VK), Sim (Cof X cl) H F S → Rp X.K H F a x → RpAll X.K H F ds xs → k a ds S Qd → rTo (Cof X cl) H F Qd Q → r x xs H Q) : MtJ cl X id k :=
  fun pins s σ H F S x xs v us a ds Qd Q I m rx rv r1 r2 q to => h pins s σ H x xs v us Q I rx rv (i H F S x xs a ds Qd Q m r1 r2 q to)
/-- a list as a value or of the store -/
def isLst (S : Store) (a : D) : Prop := (lstOf S a).isSome = true
theorem ty_lst {d : D} {v : V} (m : Sim C H F S) (h : isLst S d) (r : Rp C.K H F d v) : tyV C.K "list" v H := by
  obtain ⟨l, e⟩ := Option.isSome_iff_exists.mp h
  obtain ⟨p, vs, rfl, f, _⟩ := lstOf_at m e r
  exact .inl ⟨rfl, vs, SqL.of f⟩
def wMt0 (k : WMt) (wo : WE) : WE := fun g S Q => wo g S fun a S1 => isLst S1 a ∧ k a [] S1 Q
def wMt (k : WMt) (wo : WE) (wr : WA) : WE := fun g S Q => wo g S fun a S1 => isLst S1 a ∧ wr g S1 fun ds S2 => k a ds S2 Q
theorem je_lm0 {id : String} {name : Str} {k : WMt} (slot : Slot "list" name id) (hty : typeOf (.builtin id) = pure (.type "method_descriptor")) (hm : MtJ cl X id k) (ho : JE cl X o wo)
    (hbase : attributeBase o name X.env (eval o X.env) = eval o X.env := by rfl) (hline : (apos.endLine == cpos.line) = true := by rfl) : JE cl X (.Call (.Attribute o name apos) [] [] cpos) (wMt0 k wo) := (pe_bm0 PySem.F.plainAttrs_list slot hty hm.r ho hbase hline).imp fun σ H Q ⟨F, S, g, Qd, m, r, w, to⟩ =>
  ⟨F, S, g, _, m, r, w, fun d S1 v H1 F1 q e1 m1 r1 => ⟨ty_lst m1 q.1 r1, F1, S1, d, [], Qd, m1, r1, RpAll.nil, q.2, rTo.ext to e1⟩⟩
theorem je_lm {id : String} {name : Str} {k : WMt} (slot : Slot "list" name id) (hty : typeOf (.builtin id) = pure (.type "method_descriptor")) (hm : MtJ cl X id k) (ho : JE cl X o wo) (ha : JL cl X (e :: es) wr)
    (hbase : attributeBase o name X.env (eval o X.env) = eval o X.env := by rfl)
    (hfew : ((backTo cpos (starEach (e :: es) X.env)).all (fun x => !x.1) && (backToKw cpos (keywordEach [] X.env)).all (fun x => x.1.isSome)
      && decide ((e :: es).length + ([] : List Keyword).length + (if ([] : List Keyword).isEmpty then 0 else 1) < 30)) = true := by rfl)
    (hline : (apos.endLine == cpos.line) = true := by rfl) (hs : starEach (e :: es) X.env = (false, eval e X.env) :: starEach es X.env := by rfl) (hplain : (backTo cpos (starEach es X.env)).any (·.1) = false := by rfl) :
    JE cl X (.Call (.Attribute o name apos) (e :: es) [] cpos) (wMt k wo wr) := (pe_bm PySem.F.plainAttrs_list slot hty hm.r ho ha hbase hfew hline hs hplain).imp fun σ H Q ⟨F, S, g, Qd, m, r, w, to⟩ =>
  ⟨F, S, g, _, m, r, w, fun d S1 v H1 F1 q e1 m1 r1 => ⟨ty_lst m1 q.1 r1, F1, S1, g, _, m1, r.ext e1, q.2, fun ds S2 vs H2 F2 q2 e2 m2 r2 => ⟨F2, S2, d, ds, Qd, m2, e2.rp r1, r2, q2, (rTo.ext to e1).ext e2⟩⟩⟩
def kAppend : WMt := fun a ds S Q => match a, ds with
  | .ref p, [y] => match S p with
    | some (.lst xs) => xs.length < sizeLine ∧ Q .non (put S p (.lst (xs ++ [y])))
    | _ => False
  | _, _ => False
theorem jm_append : MtJ cl X "list.append" kAppend := MtJ.of mt_append fun H F S x xs a ds Qd Q m r1 r2 q to => by
  unfold kAppend at q
  split at q
  · split at q
    · rename_i p y l e
      simp only [Rp] at r1
      subst r1
      obtain ⟨v, rfl, ry⟩ := rp1 r2
      obtain ⟨vs, f, k⟩ := m.lst e
      exact ⟨_, vs, v, rfl, rfl, f, by rw [k.len]; exact q.1, to _ _ _ _ F q.2 (m.ext_put e _) (m.put e ⟨_, rfl, ((m.ext_put e _).rpAll k).app (RpAll.cons ((m.ext_put e _).rp ry) RpAll.nil)⟩) rp_non⟩
    · exact q.elim
  · exact q.elim
def kExtend : WMt := fun a ds S Q => match a, ds with
  | .ref p, [y] => match S p with
    | some (.lst xs) => orF (lstOf S y) fun ys => xs.length + ys.length ≤ sizeLine ∧ Q .non (put S p (.lst (xs ++ ys)))
    | _ => False
  | _, _ => False
theorem jm_extend : MtJ cl X "list.extend" kExtend := MtJ.of mt_extend fun H F S x xs a ds Qd Q m r1 r2 q to => by
  unfold kExtend at q
  split at q
  · split at q
    · rename_i p y l e
      simp only [Rp] at r1
      subst r1
      obtain ⟨v, rfl, ry⟩ := rp1 r2
      obtain ⟨vs, f, k⟩ := m.lst e
      obtain ⟨ys, ey, hl, q⟩ := orF_iff.mp q
      obtain ⟨p', zs, rfl, f', k'⟩ := lstOf_at m ey ry
      exact ⟨_, _, vs, zs, rfl, rfl, f, f', by rw [k.len, k'.len]; exact hl, to _ _ _ _ F q (m.ext_put e _) (m.put e ⟨_, rfl, ((m.ext_put e _).rpAll k).app ((m.ext_put e _).rpAll k')⟩) rp_non⟩
    · exact q.elim
  · exact q.elim
theorem RpAll.dropLast {K : PySem.W.Frag} {ds : List D} {vs : List V} (r : RpAll K H F ds vs) : RpAll K H F ds.dropLast vs.dropLast := by
  rw [List.dropLast_eq_take, List.dropLast_eq_take, r.len]
  exact RpAll.take _ r
theorem RpAll.eraseIdx {K : PySem.W.Frag} : ∀ {ds : List D} {vs : List V} (i : Nat), RpAll K H F ds vs → RpAll K H F (ds.eraseIdx i) (vs.eraseIdx i)
  | [], vs, i, r => by simp only [RpAll] at r; subst r; simpa using RpAll.nil
  | d :: ds, vs, 0, r => by
    simp only [RpAll] at r
    obtain ⟨v, ws, rfl, _, h⟩ := r
    exact h
  | d :: ds, vs, i + 1, r => by
    simp only [RpAll] at r
    obtain ⟨v, ws, rfl, h1, h⟩ := r
    exact RpAll.cons h1 (RpAll.eraseIdx i h)
def kPop : WMt := fun a ds S Q => match a, ds with
  | .ref p, [] => match S p with
    | some (.lst xs) => orF (xs[xs.length - 1]?) fun y => Q y (put S p (.lst xs.dropLast))
    | _ => False
  | .ref p, [.int i] => match S p with
    | some (.lst xs) => (-(2 ^ 63) ≤ i ∧ i < 2 ^ 63) ∧ orF (ixN xs.length i) fun k => orF (xs[k]?) fun y => Q y (put S p (.lst (xs.eraseIdx k)))
    | _ => False
  | _, _ => False
theorem jm_pop : MtJ cl X "list.pop" kPop := MtJ.of (MtR.or mt_pop mt_popAt) fun H F S x xs a ds Qd Q m r1 r2 q to => by
  unfold kPop at q
  split at q
  · split at q
    · rename_i p l e
      simp only [Rp] at r1
      subst r1
      simp only [RpAll] at r2
      subst r2
      obtain ⟨vs, f, k⟩ := m.lst e
      obtain ⟨y, e1, q⟩ := orF_iff.mp q
      obtain ⟨v, e2, ry⟩ := k.get e1
      exact .inl ⟨_, vs, v, rfl, rfl, f, by rw [k.len]; exact e2, to _ _ _ _ F q (m.ext_put e _) (m.put e ⟨_, rfl, ((m.ext_put e _).rpAll k).dropLast⟩) ((m.ext_put e _).rp ry)⟩
    · exact q.elim
  · split at q
    · rename_i p i l e
      simp only [Rp] at r1
      subst r1
      obtain ⟨v, rfl, rv⟩ := rp1 r2
      simp only [Rp] at rv
      subst rv
      obtain ⟨vs, f, k⟩ := m.lst e
      obtain ⟨⟨h1, h2⟩, q⟩ := q
      obtain ⟨j, ej, q⟩ := orF_iff.mp q
      obtain ⟨y, e1, q⟩ := orF_iff.mp q
      obtain ⟨v, e2, ry⟩ := k.get e1
      exact .inr ⟨_, vs, _, j, v, rfl, rfl, f, h1, h2, by rw [k.len]; exact (ixN_seq ej).1, e2, to _ _ _ _ F q (m.ext_put e _) (m.put e ⟨_, rfl, ((m.ext_put e _).rpAll k).eraseIdx j⟩) ((m.ext_put e _).rp ry)⟩
    · exact q.elim
  · exact q.elim
def kInsert : WMt := fun a ds S Q => match a, ds with
  | .ref p, [.int i, y] => match S p with
    | some (.lst xs) => (xs.length < sizeLine ∧ 0 ≤ i ∧ i < 2 ^ 63) ∧ Q .non (put S p (.lst (xs.take i.toNat ++ [y] ++ xs.drop i.toNat)))
    | _ => False
  | _, _ => False
theorem jm_insert : MtJ cl X "list.insert" kInsert := MtJ.of mt_insert fun H F S x xs a ds Qd Q m r1 r2 q to => by
  unfold kInsert at q
  split at q
  · rename_i i y
    split at q
    · rename_i l e
      simp only [Rp] at r1
      subst r1
      obtain ⟨v, w, rfl, rv, rw'⟩ := rp2 r2
      simp only [Rp] at rv
      subst rv
      obtain ⟨vs, f, k⟩ := m.lst e
      obtain ⟨⟨h1, h2, h3⟩, q⟩ := q
      have k' := (m.ext_put e (.lst (vs.take i.toNat ++ [w] ++ vs.drop i.toNat))).rpAll k
      exact ⟨_, vs, i, w, rfl, rfl, f, by rw [k.len]; exact h1, h2, h3, to _ _ _ _ F q (m.ext_put e _) (m.put e ⟨_, rfl, ((RpAll.take _ k').app (RpAll.cons ((m.ext_put e _).rp rw') RpAll.nil)).app (RpAll.drop _ k')⟩) rp_non⟩
    · exact q.elim
  · exact q.elim

/-! ### o[i:j] -/
abbrev WO := Sg → Store → (Option Int → Store → Prop) → Prop
def tO (C : Ct) (w : WO) : TO := fun σ H Q => ∃ F S g Qd, Sim C H F S ∧ SgR C.K H F g σ ∧ w g S Qd ∧ ∀ i S' H' F', Qd i S' → Ext H F H' F' → Sim C H' F' S' → Q i H'
abbrev JO (cl : Cl) (X : Cx) (e : Option Expr) (w : WO) : Prop := PO X e (tO (Cof X cl) w)
theorem _root_.L2.PO.imp {X : Cx} {e : Option Expr} {t t' : TO} (h : PO X e t) (i : ∀ σ H Q, t' σ H Q → t σ H Q) : PO X e t' := ⟨fun pins s σ H Q I q => h.run pins s σ H Q I (i σ H Q q)⟩
def wNoP : WO := fun _ S k => k none S
def wPart (we : WE) : WO := fun g S k => we g S fun d S1 => match d with | .int i => k (some i) S1 | _ => False
theorem jo_none : JO cl X none wNoP := po_none.imp fun σ H Q ⟨F, S, g, Qd, m, r, w, to⟩ => to none S H F w (Ext.refl _ _) m
theorem jo_some (h : JE cl X e we) : JO cl X (some e) (wPart we) := (po_some h).imp fun σ H Q ⟨F, S, g, Qd, m, r, w, to⟩ => by
  refine ⟨F, S, g, _, m, r, w, fun d S1 v H1 F1 q e1 m1 r1 => ?_⟩
  split at q
  · simp only [Rp] at r1
    exact ⟨_, r1, to _ S1 H1 F1 q e1 m1⟩
  · exact q.elim
def cutD (xs : List D) (lo hi : Option Int) : List D := (xs.drop (HT.sIx xs.length 0 lo)).take (HT.sIx xs.length xs.length hi - HT.sIx xs.length 0 lo)
theorem RpAll.cut {K : PySem.W.Frag} {ds : List D} {vs : List V} (r : RpAll K H F ds vs) (lo hi : Option Int) : RpAll K H F (cutD ds lo hi) (cutV vs lo hi) := by
  unfold cutD cutV
  rw [r.len]
  exact RpAll.take _ (RpAll.drop _ r)
def kSl (lo hi : Option Int) : W1 := fun d S Q => match d with
  | .tup l => Q (.tup (cutD l lo hi)) S
  | d => orF (lstOf S d) fun l => Q (.lst (cutD l lo hi)) S
def wSl (we : WE) (wl wh : WO) : WE := fun g S Q => we g S fun d S1 => wl g S1 fun lo S2 => wh g S2 fun hi S3 => kSl lo hi d S3 Q
def rSlJ (C : Ct) : V → Option Int → Option Int → Hp → VK → Prop := fun x lo hi H Q => ∃ F S d Qd, Sim C H F S ∧ Rp C.K H F d x ∧ kSl lo hi d S Qd ∧ rTo C H F Qd Q
theorem cut_all {xs : List V} {lo hi : Option Int} (h : HT.sIx xs.length 0 lo = 0 ∧ HT.sIx xs.length xs.length hi = xs.length) : cutV xs lo hi = xs := by
  unfold cutV
  rw [h.1, h.2]
  simp
theorem sl_J : SlR X (rSlJ (Cof X cl)) := by
  intro pins s σ H x v vl vu lo hi sl Q I rx hs pl pu ⟨F, S, d, Qd, m, r, q, to⟩
  unfold kSl at q
  split at q
  · simp only [Rp] at r
    obtain ⟨p, vs, rfl, f, k⟩ := r
    refine sl_tupA pins s σ H _ v vl vu lo hi sl Q I rx hs pl pu ⟨p, vs, rfl, f, fun hw => ?_, fun hw n hn => ?_⟩
    · refine to.here m ?_ q
      simp only [Rp]
      exact ⟨p, vs, rfl, f, by have := k.cut lo hi; rw [cut_all hw] at this; exact this⟩
    · exact to _ _ _ _ F q (m.ext_new hn _) (m.new hn _) (by simp only [Rp]; exact ⟨n, _, rfl, SqT.of upd_same, ((m.ext_new hn _).rpAll k).cut lo hi⟩)
  · obtain ⟨l, e, q⟩ := orF_iff.mp q
    obtain ⟨p, vs, rfl, f, k⟩ := lstOf_at m e r
    exact sl_list pins s σ H _ v vl vu lo hi sl Q I rx hs pl pu ⟨p, vs, rfl, SqL.of f, fun n hn => to _ _ _ _ _ q (m.ext_frz hn _) (m.frz hn _) (by simp only [Rp]; exact ⟨n, _, rfl, ⟨fz1_same, upd_same⟩, ((m.ext_frz hn _).rpAll k).cut lo hi⟩)⟩
theorem je_sl {lo hi : Option Expr} {p2 : Pos} {wl wh : WO} (he : JE cl X e we) (hl : JO cl X lo wl) (hh : JO cl X hi wh) : JE cl X (.Subscript e (.Slice lo hi none p2) pos) (wSl we wl wh) := (pe_slice sl_J he hl hh).imp fun σ H Q ⟨F, S, g, Qd, m, r, w, to⟩ =>
  ⟨F, S, g, _, m, r, w, fun d S1 v H1 F1 q e1 m1 r1 => ⟨F1, S1, g, _, m1, r.ext e1, q, fun i S2 H2 F2 q2 e2 m2 => ⟨F2, S2, g, _, m2, (r.ext e1).ext e2, q2, fun j S3 H3 F3 q3 e3 m3 =>
    ⟨F3, S3, d, Qd, m3, (e2.trans e3).rp r1, q3, rTo.ext to (e1.trans (e2.trans e3))⟩⟩⟩⟩

/-! ### name op= e, o[i] op= e -/
def kIAdd : W2 := fun a b S Q => match a, b with
  | .int i, .int j => Q (.int (i + j)) S
  | .str x, .str y => x.length + y.length ≤ sizeLine ∧ Q (.str (x ++ y)) S
  | _, _ => False
theorem ji_add : OpJ cl X (inplaceOp .Add) kIAdd := by
  intro pins s σ H F S x y v u a b Qd Q I m rx ry r1 r2 q to
  unfold kIAdd at q
  split at q
  · simp only [Rp] at r1 r2
    exact iop_add pins s σ H x y v u Q I rx ry ⟨_, _, r1, r2, to.here m rp_int q⟩
  · simp only [Rp] at r1 r2
    exact iop_add_str pins s σ H x y v u Q I rx ry ⟨_, _, r1, r2, q.1, to.here m rp_str q.2⟩
  · exact q.elim
theorem ji_sub : OpJ cl X (inplaceOp .Sub) kSub := op_int0 iop_sub (fun _ _ _ _ => rp_int) fun _ _ _ _ h => kI0_inv h
theorem ji_xor : OpJ cl X (inplaceOp .BitXor) kXor := op_int0 iop_xor (fun _ _ _ _ => rp_int) fun _ _ _ _ h => kI0_inv h
theorem ji_or : OpJ cl X (inplaceOp .BitOr) kOr := op_int0 iop_or (fun _ _ _ _ => rp_int) fun _ _ _ _ h => kI0_inv h
theorem ji_and : OpJ cl X (inplaceOp .BitAnd) kAnd := op_int0 iop_and (fun _ _ _ _ => rp_int) fun _ _ _ _ h => kI0_inv h
theorem ji_fdiv : OpJ cl X (inplaceOp .FloorDiv) kFdiv := op_int iop_fdivP (fun _ _ _ _ => rp_int) fun _ _ _ _ h => kIC_inv h
abbrev kIMul : W2 := kIC (fun i j => CMulX i j) fun i j => .int (i * j)
theorem iop_mulX : OpR X (inplaceOp .Mult) (rI CMulX fun i j => .int (i * j)) := opI fun _ _ _ _ _ _ _ hc q => PyProof.Rows.imul_int q hc.ok
theorem ji_mul : OpJ cl X (inplaceOp .Mult) kIMul := op_int iop_mulX (fun _ _ _ _ => rp_int) fun _ _ _ _ h => kIC_inv h
def wAug (i : Nat) (k : W2) (we : WE) : WS := fun De g S => orF (getS g i) fun x => we g S fun y S1 => k x y S1 fun z S2 => De.nx (g.set i (some z)) S2
theorem js_aug {i : Nat} {x : Str} {op : Operator} {k : W2} (hN : X.N.Nodup) (hi : X.N[i]? = some x) (hx : Loc X.env.scope x) (he : JE cl X e we) (ho : OpJ cl X (inplaceOp op) k) (hf : X.fn x = true ∨ X.env.scope.names.lookup x = some .local := by first | exact .inl rfl | exact .inr rfl | assumption) :
    JS cl X (.AugAssign (.Name x pos') op e pos) (wAug i k we) := (ps_aug hN hi hx he (ti := rJ (Cof X cl) k) (fun pins s σ H x y v u Q I r1 r2 q => ho.op pins s σ H x y v u Q I r1 r2 q) hf).imp fun E σ H ⟨F, S, g, De, m, r, w, to⟩ => by
  obtain ⟨d, e0, w⟩ := orF_iff.mp w
  obtain ⟨v, e2, rv⟩ := r.get e0
  exact ⟨v, e2, F, S, g, _, m, r, w, fun y S1 yv H1 F1 q e1 m1 r1 => ⟨F1, S1, d, y, _, m1, e1.rp rv, r1, q, fun z S2 zv H2 F2 q2 e2 m2 r2 => to.nx _ S2 _ H2 F2 q2 (e1.trans e2) m2 (((r.ext e1).ext e2).set i r2)⟩⟩
/-- o[i] of a list of the store, a dict of ints or texts: by values -/
def kGetI : W2 := fun a b S Q => match a, b with
  | .ref p, .int i => match S p with
    | some (.lst xs) => (0 ≤ i ∧ i < 2 ^ 63) ∧ orF (xs[i.toNat]?) fun d => Q d S
    | _ => False
  | _, _ => False
theorem get_J : PGet X (rJ (Cof X cl) kGetI) := by
  intro pins s σ H o i ov iv Q I ro ri ⟨F, S, a, b, Qd, m, r1, r2, q, to⟩
  unfold kGetI at q
  split at q
  · rename_i p j
    split at q
    · rename_i l e
      simp only [Rp] at r1 r2
      subst r1 r2
      cases ro
      obtain ⟨t, rfl⟩ := ri
      obtain ⟨⟨h0, h1⟩, q⟩ := q
      obtain ⟨d, e1, q⟩ := orF_iff.mp q
      obtain ⟨vs, f, k⟩ := m.lst e
      obtain ⟨w, e2, rw'⟩ := k.get e1
      obtain ⟨its, rv, pl, hz⟩ := I.list (SqL.of f)
      obtain ⟨u, eu, ru⟩ := rv.get e2
      exact wpAny_getItem_list pl.isList h0 h1 (by simpa using eu) ⟨w, H, I, ru, to.here m rw' q⟩
    · exact q.elim
  · exact q.elim
def wAugS (k : W2) (wo wi we : WE) : WS := fun De g S => wo g S fun o S1 => wi g S1 fun i S2 => kGetI o i S2 fun x S3 => we g S3 fun y S4 => k x y S4 fun z S5 => kSetI o i z S5 fun S6 => De.nx g S6
theorem js_augS {wi : WE} {op : Operator} {k : W2} (hu : X.A.units + 64 < cLine) (ho : JE cl X o wo) (hi : JE cl X b wi) (he : JE cl X e we) (hp : OpJ cl X (inplaceOp op) k)
    (ha : ∀ ov iv new, augStore b ov iv new = (do PySem.holding [new, ov, iv] (setItem ov iv new); release [new, ov, iv] []; pure .next) := by intros; rfl) : JS cl X (.AugAssign (.Subscript o b pos') op e pos) (wAugS k wo wi we) :=
  (ps_augS ho hi get_J he (tip := rJ (Cof X cl) k) (fun pins s σ H x y v u Q I r1 r2 q => hp.op pins s σ H x y v u Q I r1 r2 q) (set_J hu) ha).imp fun E σ H ⟨F, S, g, De, m, r, w, to⟩ =>
  ⟨F, S, g, _, m, r, w, fun x S1 xv H1 F1 q1 e1 m1 r1 => ⟨F1, S1, g, _, m1, r.ext e1, q1, fun i S2 iv H2 F2 q2 e2 m2 r2 => ⟨F2, S2, x, i, _, m2, e2.rp r1, r2, q2, fun d S3 dv H3 F3 q3 e3 m3 r3 =>
    ⟨F3, S3, g, _, m3, r.ext (e1.trans (e2.trans e3)), q3, fun y S4 yv H4 F4 q4 e4 m4 r4 => ⟨F4, S4, d, y, _, m4, e4.rp r3, r4, q4, fun z S5 zv H5 F5 q5 e5 m5 r5 =>
      ⟨F5, S5, x, i, z, _, m5, (e2.trans (e3.trans (e4.trans e5))).rp r1, (e3.trans (e4.trans e5)).rp r2, r5, q5, fun S6 H6 F6 q6 e6 m6 =>
        to.nx g S6 σ H6 F6 q6 (e1.trans (e2.trans (e3.trans (e4.trans (e5.trans e6))))) m6 (r.ext (e1.trans (e2.trans (e3.trans (e4.trans (e5.trans e6))))))⟩⟩⟩⟩⟩⟩
end
end J
set_option Elab.async false
set_option linter.all false
set_option maxRecDepth 100000
namespace J
open PySem PySem.Spec L2
open PyProof.Rows (b2i)

/-! ## defs: what a call is wished to do -/
def cl0 (of : String → Addr) : Cl := ⟨of, fun _ _ => True, fun _ _ => trivial⟩
def clG (of : String → Addr) (H0 : Hp) (F0 : Fz) : Cl := ⟨of, fun H F => Ext H0 F0 H F, fun a b => a.trans b⟩
/-- .. in a try's body -/
def clT (cl : Cl) (H0 : Hp) (F0 : Fz) : Cl := ⟨cl.of, fun H F => cl.gr H F ∧ Ext H0 F0 H F, fun a b => ⟨cl.gx a.1 b, a.2.trans b⟩⟩
def xTo (C : Ct) (H : Hp) (F : Fz) (q : String → Store → Prop) (E : XK) : Prop := ∀ x S' H' F', q x S' → Ext H F H' F' → Sim C H' F' S' → E (.ref (C.cl.of x)) none H'
abbrev Ct0 (P : Program) (w : World) (K : PySem.W.Frag) (of : String → Addr) : Ct := ⟨P, w, K, cl0 of⟩
def spJ (C : Ct) (n : Nat) (W : CallW) : Sp := fun vs H Q E => vs.length = n ∧ ∃ F S ds Qd Ed, Sim C H F S ∧ RpAll C.K H F ds vs ∧ W ds S Qd Ed ∧ rTo C H F Qd Q ∧ xTo C H F Ed E
def startD (n : Nat) (ds : List D) : Sg := ds.map some ++ List.replicate (n - ds.length) none
/-- what is given back: as it is, or a list that is written no more; what nobody sees is forgotten -/
def Rt (Q : QE) : QE := fun d S' => ∃ S'', (Sub S'' S' ∧ Q d S'') ∨ ∃ p l, d = .ref p ∧ S' p = some (.lst l) ∧ Sub S'' (del S' p) ∧ Q (.lst l) S''
def Et (E : String → Store → Prop) : String → Store → Prop := fun x S' => ∃ S'', Sub S'' S' ∧ E x S''
def wFn (n : Nat) (body : XD → WS) : CallW := fun ds S Q E => body (fun _ x S' => Et E x S') { nx := fun _ S' => Rt Q .non S', rt := Rt Q } (startD n ds) S
theorem sg_start {K : PySem.W.Frag} {H : Hp} {F : Fz} {N : List Str} {ds : List D} {vs : List V} (r : RpAll K H F ds vs) : SgR K H F (startD N.length ds) (start N vs) := by
  refine ⟨by simp [startD, L2.start, r.len], fun i d h => ?_⟩
  unfold startD at h
  by_cases hi : i < ds.length
  · rw [List.getElem?_append_left (by simpa using hi), List.getElem?_map] at h
    cases e : ds[i]? with
    | none => rw [e] at h; cases h
    | some x =>
      rw [e] at h; cases h
      obtain ⟨v, ev, rv⟩ := r.get e
      refine ⟨v, ?_, rv⟩
      unfold L2.start
      have hv : i < vs.length := by rw [r.len]; exact hi
      rw [List.getElem?_append_left (by simpa using hv), List.getElem?_map, ev]; rfl
  · rw [List.getElem?_append_right (by simpa using Nat.le_of_not_lt hi)] at h
    by_cases hj : i - (ds.map some).length < N.length - ds.length
    · rw [List.getElem?_replicate, if_pos hj] at h; cases h
    · rw [List.getElem?_replicate, if_neg hj] at h; cases h
section
variable {P : Program} {w : World} {K : PySem.W.Frag} {mg : Str → Option Value} {base : Heap}
abbrev cxJ (P : Program) (w : World) (K : PySem.W.Frag) (mg : Str → Option Value) (base : Heap) (N : List Str) (qual : Str) (st : Stmt) (f : Addr) (cdv : Value) (A : Around) (outer : List Env) (s : Shared) (H : Hp) (E : XK) : Cx :=
  cxOf (L2.CX P w) P w K mg base N qual (defScope st) f cdv A outer s H E
theorem fn_ok {x qual : Str} {st : Stmt} {f : Addr} {fd : FuncData} {N ps : List Str} {k : Nat} {of : String → Addr} {body : XD → WS} (Fn : Fun K x qual st f fd) (Sc : FnScope N ps (defScope st))
    (hb : ∀ (cdv : Value) (A : Around) (outer : List Env) (s : Shared) (H : Hp) (E : XK) (cl : Cl) (xd : XD), cl.of = of → Room k (cxJ P w K mg base N qual st f cdv A outer s H E).A →
      Takes (cxJ P w K mg base N qual st f cdv A outer s H E) (tX (Cof (cxJ P w K mg base N qual st f cdv A outer s H E) cl) xd) →
      JSs cl (cxJ P w K mg base N qual st f cdv A outer s H E) (defBody st) (body xd)) :
    FnOk P w K mg base (L2.CX P w) (k + 1) f fd ps (spJ (Ct0 P w K of) ps.length (wFn N.length body)) := by
  refine Fn.okX Sc (fun vs H Q E h => h.1) fun cdv A outer s H vs Q E hr hsp => ?_
  obtain ⟨hl, F0, S0, ds, Qd, Ed, m, r, hw, to, tx⟩ := hsp
  have tk : Takes (cxJ P w K mg base N qual st f cdv A outer s H E) (tX (Cof (cxJ P w K mg base N qual st f cdv A outer s H E) (clG of H F0)) (fun _ x S' => Et Ed x S')) :=
    (takes_of rfl rfl rfl rfl).imp fun cls d σ H' ⟨F', S', g, x, m', r', ⟨S'', hs, he⟩, hc, hd⟩ => by
      subst hc hd
      exact tx x S'' H' F' he m'.g ((m'.sub hs).to trivial rfl rfl rfl)
  have hR : ∀ {d : D} {S' : Store} {v : V} {H' : Hp} {F' : Fz}, Rt Qd d S' → Ext H F0 H' F' → Sim (Cof (cxJ P w K mg base N qual st f cdv A outer s H E) (clG of H F0)) H' F' S' → Rp K H' F' d v → Q v H' := by
    rintro d S' v H' F' ⟨S'', ⟨hs, q⟩ | ⟨p, l, rfl, hp, hs, q⟩⟩ e m' r'
    · exact to d S'' v H' F' q e ((m'.sub hs).to trivial rfl rfl rfl) r'
    · obtain ⟨vs, h1, h2, h3, h4⟩ := m'.freeze hp
      simp only [Rp] at r'
      subst r'
      exact to (.lst l) S'' (.ref p) H' _ q (e.trans h3) ((h4.sub hs).to trivial rfl rfl rfl) (by simp only [Rp]; exact ⟨p, vs, rfl, ⟨fz1_same, h1⟩, h2⟩)
  refine ⟨_, hb cdv A outer s H E (clG of H F0) (fun _ x S' => Et Ed x S') rfl hr tk, F0, S0, startD N.length ds, _, m.to (Ext.refl H F0) rfl rfl rfl, sg_start r, hw, ⟨?_, ?_, ?_, ?_⟩⟩
  · exact fun g' S' σ' H' F' a b c d => hR a b c rp_non
  · exact fun d S' v H' F' a b c r => hR a b c r
  · exact fun g' S' σ' H' F' a b c d => a.elim
  · exact fun g' S' σ' H' F' a b c d => a.elim
end

section
variable {cl : Cl} {X : Cx} {C : Ct} {e a b c o tg : Expr} {es : List Expr} {st : Stmt} {sts : List Stmt} {pos pos' p p' cpos apos : Pos} {wa wb wc we wo : WE} {wr : WA} {wt : WT} {ws wu : WS} {pins : List (Addr × Obj)} {σ : L2.St} {H : Hp} {F : Fz} {s : Shared} {S : Store}
/-- f(..) -/
def wCall (n : Nat) (W : CallW) (xd : XD) (wr : WA) : WE := fun g S Q => wr g S fun ds S1 => ds.length = n ∧ W ds S1 Q (fun x S' => xd g x S')
theorem call_to {n : Nat} {W : CallW} {xd : XD} {Q : VK} {g : Sg} {Qd : QE} {ds : List D} {vs : List V} (m : Sim (Cof X cl) H F S) (r : SgR X.K H F g σ) (ra : RpAll X.K H F ds vs) (hl : ds.length = n) (q : W ds S Qd (fun x S' => xd g x S')) (to : rTo (Cof X cl) H F Qd Q) :
    spJ (Ct0 X.prog X.w X.K cl.of) n W vs H Q (L2.WE (tX (Cof X cl) xd) σ) := by
  refine ⟨ra.len.trans hl, F, S, ds, Qd, _, m.to trivial rfl rfl rfl, ra, q, fun d S' v H' F' q e m' r' => ?_, fun x S' H' F' q e m' => ?_⟩
  · exact to d S' v H' F' q e (m'.to (cl.gx m.g e) rfl rfl rfl) r'
  · exact ⟨F', S', g, x, m'.to (cl.gx m.g e) rfl rfl rfl, r.ext e, q, rfl, rfl⟩
theorem je_call {k : Nat} {f : Addr} {fd : FuncData} {ps : List Str} {x : Str} {W : CallW} {xd : XD} (Fk : FnOk X.prog X.w X.K X.mg X.base (L2.CX X.prog X.w) k f fd ps (spJ (Ct0 X.prog X.w X.K cl.of) ps.length W)) (hr : Room k X.A) (hg : Gl X x) (hm : X.mg x = some (.ref f))
    (hk : PySem.W.keepIn X.K (.ref f) = true) (hb : Binds X.K fd ps []) (tk : Takes X (tX (Cof X cl) xd)) (ha : JL cl X (e :: es) wr) (hdb : (x == ("__debug__" : Str)) = false := by decide)
    (he : starEach (e :: es) X.env = (false, eval e X.env) :: starEach es X.env := by rfl) (hpl : (backTo pos (starEach es X.env)).any (·.1) = false := by rfl) : JE cl X (.Call (.Name x p) (e :: es) [] pos) (wCall ps.length W xd wr) :=
  (pe_callS (E := L2.WE (tX (Cof X cl) xd)) Fk hr hg hm hk hb (fun σ => passAt tk σ) ha hdb he hpl).imp fun σ H Q ⟨F, S, g, Qd, m, r, w, to⟩ =>
    ⟨F, S, g, _, m, r, w, fun ds S1 vs H1 F1 q e1 m1 r1 => call_to m1 (r.ext e1) r1 q.1 q.2 (rTo.ext to e1)⟩
theorem je_call0 {k : Nat} {f : Addr} {fd : FuncData} {ps : List Str} {x : Str} {W : CallW} {xd : XD} (Fk : FnOk X.prog X.w X.K X.mg X.base (L2.CX X.prog X.w) k f fd ps (spJ (Ct0 X.prog X.w X.K cl.of) ps.length W)) (hr : Room k X.A) (hg : Gl X x) (hm : X.mg x = some (.ref f))
    (hk : PySem.W.keepIn X.K (.ref f) = true) (hb : Binds X.K fd ps []) (tk : Takes X (tX (Cof X cl) xd)) (hdb : (x == ("__debug__" : Str)) = false := by decide) : JE cl X (.Call (.Name x p) [] [] pos) (wCall ps.length W xd wNil) := by
  refine ⟨fun pins s σ H Q I ⟨F, S, g, Qd, m, r, w, to⟩ => ?_⟩
  refine wpAny_Call_Name_kw (ld_glob I hg hm ?_ hdb)
  exact PySem.W.callWith_K0 I.kIn hk (run_fnS (us := []) (vs := []) (E := L2.WE (tX (Cof X cl) xd)) Fk hr hb (passAt tk σ) I .nil (call_to m r RpAll.nil w.1 w.2 to))

/-! ### raise -/
/-- an own error class, C, with a base of the language -/
structure Own (X : Cx) (C : Addr) (x : Str) : Prop where
  ex : ∃ (bmB : List Value) (B newId initId : String), ExcBaseFacts B newId initId bmB ∧ PySem.W.excIn X.K C bmB newId = true
  g : X.mg x = some (.ref C)
  k : PySem.W.keepIn X.K (.ref C) = true
  r : Raises X (.ref C)
theorem pmk_own0 {C : Addr} {bmB : List Value} {B newId initId : String} {x : Str} (Fb : ExcBaseFacts B newId initId bmB) (q : PySem.W.excIn X.K C bmB newId = true) (gC : X.mg x = some (.ref C))
    (kC : PySem.W.keepIn X.K (.ref C) = true) (r : Raises X (.ref C)) (hg : Gl X x) (hdb : (x == ("__debug__" : Str)) = false := by decide) :
    PMk X (.Call (.Name x p) [] [] pos) (fun _ H Q => Q (.ref C) none H) := by
  intro pins s σ H Q I h
  refine wpAny_Call_Name_kw (ld_glob I hg gC ?_ hdb)
  refine PySem.W.callWith_K0 I.kIn kC ?_
  obtain ⟨bm, N, nm, qn, bs, hdct, sn, sub, ab, col, dd, k0, k1, k2, k3, k5, mN, hC, hN, hni, T⟩ := exc_obj I.kIn q
  refine wpAny_call_exc_subT Fb T hC hN hni (fun h' e hm => ?_) (by show 0 ≤ sizeLine; omega)
  exact mk_of I hm r h (I.hok.gone hm.new)
def wRaise (xd : XD) (x : String) : WS := fun _ g S => xd g x S
def wRaiseA (xd : XD) (x : String) (wr : WA) : WS := fun _ g S => wr g S fun ds S1 => ds.length ≤ sizeLine ∧ xd g x S1
theorem js_raise {x : Str} {nm : String} {xd : XD} (hc : X.calm = true) (tk : Takes X (tX (Cof X cl) xd)) (O : Own X (cl.of nm) x) (hg : Gl X x) (hdb : (x == ("__debug__" : Str)) = false := by decide) :
    JS cl X (.Raise (some (.Call (.Name x p) [] [] pos)) none pos') (wRaise xd nm) := by
  obtain ⟨bmB, B, n, i, Fb, q⟩ := O.ex
  exact (ps_raise hc tk (pmk_own0 Fb q O.g O.k O.r hg hdb)).imp fun E σ H ⟨F, S, g, De, m, r, w, to⟩ => ⟨F, S, g, nm, m, r, w, rfl, rfl⟩
theorem js_raiseA {x : Str} {nm : String} {xd : XD} (hc : X.calm = true) (tk : Takes X (tX (Cof X cl) xd)) (O : Own X (cl.of nm) x) (hg : Gl X x) (ha : JL cl X (e :: es) wr) (hdb : (x == ("__debug__" : Str)) = false := by decide)
    (he : starEach (e :: es) X.env = (false, eval e X.env) :: starEach es X.env := by rfl) (hpl : (backTo pos (starEach es X.env)).any (·.1) = false := by rfl) :
    JS cl X (.Raise (some (.Call (.Name x p) (e :: es) [] pos)) none pos') (wRaiseA xd nm wr) := by
  obtain ⟨bmB, B, n, i, Fb, q⟩ := O.ex
  exact (ps_raise hc tk (pmk_ownA Fb q O.g O.k O.r hg ha hdb he hpl)).imp fun E σ H ⟨F, S, g, De, m, r, w, to⟩ => ⟨F, S, g, _, m, r, w, fun ds S1 vs H1 F1 q e1 m1 r1 =>
    ⟨by rw [r1.len]; exact q.1, F1, S1, g, nm, m1, r.ext e1, q.2, rfl, rfl⟩⟩

/-! ### try .. except -/
def wTry (ct : String → Option Bool) (wb : XD → WS) (ws : WS) (xd : XD) : WS := fun De g S => wb (fun g' x S' => orF (ct x) fun b => if b = true then ws De g' S' else xd g' x S') De g S
theorem js_try {x : Str} {c : Value} {body suite : List Stmt} {b₀ : Stmt} {np : Pos} {ct : String → Option Bool} {wb : XD → WS} {ws : WS} {xd : XD} (hs : X.stack = X.env :: X.outer) (hf : X.env.frame = some X.env.locals) (hc : Names X x c) (tk : Takes X (tX (Cof X cl) xd))
    (hx : ∀ y b, ct y = some b → PySem.W.exmOne X.K (.ref (cl.of y)) c = some b)
    (hb : ∀ (pn : List (Addr × Obj)) (xe : Value → Shared → Prop) (cl' : Cl) (xd' : XD), cl'.of = cl.of → PassesOwn (model X.prog X.w) X.A X.env xe → Takes (X.tr pn xe) (tX (Cof (X.tr pn xe) cl') xd') → JSs cl' (X.tr pn xe) body (wb xd'))
    (hsu : ∀ (a : Addr) (q : Addr × Obj) (pn : List (Addr × Obj)), JSs cl (X.suite a (q :: pn)) (b₀ :: suite) ws) :
    JS cl X (.Try body [.ExceptHandler (some (.Name x np)) none (b₀ :: suite) pos'] [] [] pos) (wTry ct wb ws xd) := by
  refine (ps_try_only (Wout := tX (Cof X cl) xd) (ts := fun _ _ _ => tS (Cof X cl) ws)
    (tb := fun W E σ H => ∃ (cl' : Cl) (xd' : XD), cl'.of = cl.of ∧ (∀ cls d σ' H', tX (Cof X cl') xd' cls d σ' H' → W cls d σ' H') ∧ tS (Cof X cl') (wb xd') E σ H) hs hf hc tk ?_ ?_).imp ?_
  · intro W pn xe tkW po
    refine ⟨fun pins s σ H D I ⟨cl', xd', ho, hW, q⟩ => ?_⟩
    exact (hb pn xe cl' xd' ho po (tkW.imp hW)).run pins s σ H D I q
  · intro a oe cls d pn _ _
    exact hsu a _ pn
  · rintro E σ H ⟨F, S, g, De, m, r, w, to⟩
    refine ⟨clT cl H F, _, rfl, ?_, F, S, g, De, m.to ⟨m.g, Ext.refl H F⟩ rfl rfl rfl, r, w, ⟨?_, ?_, ?_, ?_⟩⟩
    · rintro cls d σ' H' ⟨F', S', g', y, m', r', q, rfl, rfl⟩
      obtain ⟨b, eb, q⟩ := orF_iff.mp q
      have mc : Sim (Cof X cl) H' F' S' := m'.to m'.g.1 rfl rfl rfl
      refine ⟨b, hx y b eb, fun hbt a _ => ?_, fun hbf => ?_⟩
      · subst hbt
        rw [if_pos rfl] at q
        exact ⟨F', S', g', De, mc, r', q, to.ext m'.g.2⟩
      · subst hbf
        rw [if_neg Bool.false_ne_true] at q
        exact ⟨F', S', g', y, mc, r', q, rfl, rfl⟩
    · exact fun g' S' σ' H' F' a b c d => to.nx g' S' σ' H' F' a b (c.to c.g.1 rfl rfl rfl) d
    · exact fun d S' v H' F' a b c r => to.rt d S' v H' F' a b (c.to c.g.1 rfl rfl rfl) r
    · exact fun g' S' σ' H' F' a b c d => to.bk g' S' σ' H' F' a b (c.to c.g.1 rfl rfl rfl) d
    · exact fun g' S' σ' H' F' a b c d => to.ct g' S' σ' H' F' a b (c.to c.g.1 rfl rfl rfl) d

/-! ### a name's list is written no more from here on (no word of the text) -/
def wFrz (i : Nat) (w : WS) : WS := fun De g S => ∃ p l, getS g i = some (.ref p) ∧ S p = some (.lst l) ∧ w De (g.set i (some (.lst l))) (del S p)
theorem set_self {α : Type} : ∀ {l : List α} {i : Nat} {x : α}, l[i]? = some x → l.set i x = l
  | _ :: _, 0, _, h => by simp at h; subst h; rfl
  | _ :: _, i + 1, _, h => by simp at h; simp [set_self h]
theorem jss_frz {i : Nat} (h : JSs cl X sts wu) : JSs cl X sts (wFrz i wu) := L2.PSs.imp h fun E σ H ⟨F, S, g, De, m, r, ⟨p, l, hg, hp, w⟩, to⟩ => by
  obtain ⟨vs, h1, h2, h3, h4⟩ := m.freeze hp
  obtain ⟨v, ev, rv⟩ := r.get hg
  simp only [Rp] at rv
  subst rv
  refine ⟨_, _, _, De, h4, ?_, w, to.ext h3⟩
  have := (r.ext h3).set i (d := .lst l) (v := .ref p) (by simp only [Rp]; exact ⟨p, vs, rfl, ⟨fz1_same, h1⟩, h2⟩)
  rw [set_self ev] at this
  exact this
end
end J
set_option Elab.async false
set_option linter.all false
set_option maxRecDepth 100000
set_option maxHeartbeats 2000000
namespace J
open PySem PySem.Spec L2
open PyProof.Rows (IntsAre)

/-! ## a tuple once, not at all -/
theorem mul1 (l : Addr) (items : Array Value) (n : Nat) (dd : Option Addr) (sl : Array (Option Value)) (x : Int) (u : Tok) (c0 : (decide (x < -(2 ^ 63)) || decide (x ≥ 2 ^ 63)) = false) (c1 : (items.isEmpty || x == 1) = true) :
    Meets (Builtin.«tuple.__mul__» ⟨[.ref l, .int x u], []⟩) (fun _ R s => s.heap.get? l = some { cls := .type "tuple", dict := dd, data := .seq items n, slots := sl } ∧ R (.ok (.ret (Value.ref l))) s) :=
  .of_wp fun prog w A R s h => by
    obtain ⟨hp, g, d, tk, os⟩ := s
    obtain ⟨hl, h⟩ := h
    have f1 := AutoSeq1.idx_int
    wp_walk using wpAny_loadPart' hl
    repeat (first
      | (refine wpAny_ite_false (decide_eq_false (by rw [c0]; exact Bool.false_ne_true)) ?_; wp_walk using wpAny_loadPart' hl)
      | (refine wpAny_ite_true (decide_eq_true (by rw [c1])) ?_; wp_walk using wpAny_loadPart' hl))
    exact ⟨_, rfl, h⟩

theorem mul0 (l : Addr) (items : Array Value) (n : Nat) (dd : Option Addr) (sl : Array (Option Value)) (x : Int) (u : Tok) (c0 : (decide (x < -(2 ^ 63)) || decide (x ≥ 2 ^ 63)) = false) (c1 : (items.isEmpty || x == 1) = false) (c2 : (decide (x ≤ 0) || items.isEmpty) = true) :
    Meets (Builtin.«tuple.__mul__» ⟨[.ref l, .int x u], []⟩) (fun _ R s => s.heap.get? l = some { cls := .type "tuple", dict := dd, data := .seq items n, slots := sl } ∧ R (.ok (.ret (Value.ref s.heap.objs.size))) { s with heap := s.heap.push { cls := Value.type "tuple", data := Data.seq #[] } }) :=
  .of_wp fun prog w A R s h => by
    obtain ⟨hp, g, d, tk, os⟩ := s
    obtain ⟨hl, h⟩ := h
    have f1 := AutoSeq1.idx_int
    wp_walk using wpAny_loadPart' hl
    repeat (first
      | (refine wpAny_ite_false (decide_eq_false (by rw [c0]; exact Bool.false_ne_true)) ?_; wp_walk using wpAny_loadPart' hl)
      | (refine wpAny_ite_false (decide_eq_false (by rw [c1]; exact Bool.false_ne_true)) ?_; wp_walk using wpAny_loadPart' hl)
      | (refine wpAny_ite_true (decide_eq_true (by rw [c2])) ?_; wp_walk using wpAny_loadPart' hl))
    exact ⟨_, rfl, h⟩
section
variable {cl : Cl} {X : Cx} {e a b c o tg : Expr} {es : List Expr} {pos pos' p p2 q : Pos} {wa wb wc we wo : WE} {wr : WA} {pins : List (Addr × Obj)} {σ : L2.St} {H : Hp} {F : Fz} {s : Shared} {S : Store}
def kMulT : W2 := fun a b S Q => match a, b with
  | .tup xs, .int k => (0 ≤ k ∧ k ≤ 1000 ∧ xs.length ≤ 1000) ∧ Q (.tup (List.replicate k.toNat xs).flatten) S
  | _, _ => False
theorem flat_nil {α : Type} : ∀ n : Nat, (List.replicate n ([] : List α)).flatten = []
  | 0 => rfl
  | n + 1 => by rw [List.replicate_succ, List.flatten_cons, flat_nil n]; rfl
theorem jo_mulT : OpJ cl X (binaryOp .Mult) kMulT := by
  intro pins s σ H F S x y v u a b Qd Q I m rx ry r1 r2 q to
  unfold kMulT at q
  split at q
  · rename_i xs k
    obtain ⟨⟨q1, q2, q3⟩, q5⟩ := q
    by_cases hbig : xs ≠ [] ∧ 2 ≤ k
    · exact jo_mul (cl := cl) pins s σ H F S x y v u _ _ Qd Q I m rx ry r1 r2 (by unfold kMul; exact ⟨⟨hbig.1, hbig.2, q2, q3⟩, q5⟩) to
    · have r1' := r1
      simp only [Rp] at r1 r2
      obtain ⟨p, vs, rfl, h1, k1⟩ := r1
      subst r2
      cases rx
      obtain ⟨t, rfl⟩ := ry
      obtain ⟨its, r, ⟨⟨cls, dd, data, sl⟩, ho, hc, n, hd⟩, hs⟩ := I.tuple h1
      simp only at hc hd
      subst hc hd
      have hle : its.length = xs.length := by rw [← r.length, k1.len]
      have c0 : (decide (k < -(2 ^ 63)) || decide (k ≥ 2 ^ 63)) = false := by
        rw [decide_eq_false (by omega), decide_eq_false (by omega)] <;> rfl
      cases hc1 : (its.toArray.isEmpty || k == 1) with
      | true =>
        refine wpAny_binaryOp_repeat_ref (T := "tuple") (U := "int") (by decide) ⟨_, ho, rfl⟩ (fun s' => typeIs_int s' k t) noFill_tuple_mul PySem.F.fills_int_mul PySem.F.slot_int_rmul repeat_tuple PySem.F.slot_int_index.lookup
          (call_meets PySem.F.slot_int_rmul (typeIs_int s k t) PySem.F.entry_int_rmul (PySem.F.args_int_rmul_2 _ _) (int_rmul_tuple k t p its.toArray n dd sl)
            ⟨ho, rfl, ⟨_, ho, rfl⟩, call_meets PySem.F.slot_tuple_mul ⟨_, ho, rfl⟩ PySem.F.entry_tuple_mul (PySem.F.args_tuple_mul_2 _ _) (mul1 p its.toArray n dd sl k t c0 hc1) ⟨ho, ?_⟩⟩)
        refine ⟨.ref p, H, I, rfl, to _ _ _ _ _ q5 (Ext.refl _ _) m ?_⟩
        have he : (List.replicate k.toNat xs).flatten = xs := by
          rw [Bool.or_eq_true] at hc1
          rcases hc1 with z | z
          · have hz : its = [] := by cases its with | nil => rfl | cons a b => simp at z
            have : xs = [] := by rw [hz] at hle; exact List.eq_nil_of_length_eq_zero hle.symm
            subst this; exact flat_nil _
          · have : k = 1 := by simpa using z
            subst this; simp
        rw [he]; exact r1'
      | false =>
        have hk : k ≤ 0 := by
          rw [Bool.or_eq_false_iff] at hc1
          have hn : xs ≠ [] := by rintro rfl; have hz : its = [] := List.eq_nil_of_length_eq_zero (by simpa using hle); rw [hz] at hc1; exact absurd hc1.1 (by simp)
          have h1 : k ≠ 1 := by simpa using hc1.2
          have : ¬ 2 ≤ k := fun h => hbig ⟨hn, h⟩
          omega
        refine wpAny_binaryOp_repeat_ref (T := "tuple") (U := "int") (by decide) ⟨_, ho, rfl⟩ (fun s' => typeIs_int s' k t) noFill_tuple_mul PySem.F.fills_int_mul PySem.F.slot_int_rmul repeat_tuple PySem.F.slot_int_index.lookup
          (call_meets PySem.F.slot_int_rmul (typeIs_int s k t) PySem.F.entry_int_rmul (PySem.F.args_int_rmul_2 _ _) (int_rmul_tuple k t p its.toArray n dd sl)
            ⟨ho, rfl, ⟨_, ho, rfl⟩, call_meets PySem.F.slot_tuple_mul ⟨_, ho, rfl⟩ PySem.F.entry_tuple_mul (PySem.F.args_tuple_mul_2 _ _) (mul0 p its.toArray n dd sl k t c0 hc1 (by rw [decide_eq_true hk]; rfl)) ⟨ho, ?_⟩⟩)
        have hn := I.hok.fresh (Nat.le_refl _)
        refine ⟨.ref s.heap.objs.size, _, I.laid (t' := s.toks) (o := .tup []) (fun b ob q => Heap.get?_push_of_some _ q) (Nat.le_refl _) ⟨Nat.zero_le _, [], .nil, PyProof.Rows.IsTup.new _ _⟩, rfl, to _ _ _ _ _ q5 (m.ext_new hn _) (m.new hn _) ?_⟩
        have : k.toNat = 0 := by omega
        rw [this]
        simp only [Rp]
        exact ⟨_, [], rfl, SqT.of upd_same, RpAll.nil⟩
  · exact q.elim
end
end J
set_option Elab.async false
set_option linter.all false
set_option maxRecDepth 100000
set_option maxHeartbeats 2000000
namespace J
open PySem PySem.Spec L2
open PyProof.Rows (IntsAre)

/-! ## sorted(set(rows)): rows of ints, upwards, each once -/
theorem map_perm_ex {α β : Type} (f : α → β) : ∀ (vs : List β) (L : List α), vs.Perm (L.map f) → ∃ L1 : List α, L1.Perm L ∧ vs = L1.map f
  | [], L, h => by
    have : L.map f = [] := List.Perm.eq_nil h.symm
    have : L = [] := by simpa using this
    subst this; exact ⟨[], List.Perm.refl _, rfl⟩
  | v :: vs, L, h => by
    have hv : v ∈ L.map f := h.mem_iff.mp List.mem_cons_self
    obtain ⟨q, hq, rfl⟩ := List.mem_map.mp hv
    obtain ⟨A, B, rfl⟩ := List.append_of_mem hq
    have h2 : (f q :: vs).Perm (f q :: (A ++ B).map f) := h.trans (by simpa using (List.perm_middle (a := q) (l₁ := A) (l₂ := B)).map f)
    obtain ⟨L1, h3, rfl⟩ := map_perm_ex f vs (A ++ B) (h2.cons_inv)
    exact ⟨q :: L1, (h3.cons q).trans List.perm_middle.symm, rfl⟩
theorem dataLe_tups {β : Type} (x : β → List Int) : PySem.W.dataLe false (fun b => .tuple ((x b).map .int)) = fun p q => decide (x p ≤ x q) := by
  have h := PySem.W.dataLe_rows x
  have e1 : PySem.W.dataLe false (fun b => .tuple ((x b).map .int)) = PySem.W.dataLe false (fun b => .list ((x b).map .int)) := by
    funext p q
    show (!PySem.W.dataLt (.tuple ((x q).map .int)) (.tuple ((x p).map .int))) = (!PySem.W.dataLt (.list ((x q).map .int)) (.list ((x p).map .int)))
    rw [PySem.W.dataLt_list, PySem.W.dataLt_tuple]
  rw [e1, h]
theorem lst_le_total (a b : List Int) : a ≤ b ∨ b ≤ a := by
  by_cases h : b < a
  · exact .inr (List.le_of_lt h)
  · exact .inl (List.not_lt.mp h)
section
variable {P : Program} {w : World} {A : Around} {E : Value → Shared → Prop} {s : Shared}
open PyProof.Rows PySem.W
theorem each_self {α : Type} {f : α → Value} {R : Value → α → Prop} : ∀ (L : List α), (∀ q ∈ L, R (f q) q) → EachIs R (L.map f) L
  | [], _ => .nil
  | q :: L, h => .cons (h q List.mem_cons_self) (each_self L fun r hr => h r (List.mem_cons_of_mem _ hr))
theorem each_back {α : Type} {f : α → Value} : ∀ {vs : List Value} {L : List α}, EachIs (fun v q => v = f q) vs L → vs = L.map f
  | _, _, .nil => rfl
  | _, _, .cons h t => by rw [h, each_back t]; rfl
theorem reads_ints {h : Heap} : ∀ {vs : List Value} {k : List Int}, IntsAre vs k → ReadsAll h vs (k.map .int) []
  | _, _, .nil => .nil
  | _, _, .cons _ _ t => .cons (.int _ _) (reads_ints t)
theorem tup_reads {h : Heap} {k : List Int} {b : Addr} (x : TS.TupInts h (.ref b) k) : ∃ as, Reads h (.ref b) (.tuple (k.map .int)) as ∧ as = [] := by
  obtain ⟨b', items, e, ⟨o, ho, hc, n, hd⟩, hi⟩ := x
  cases e
  exact ⟨[], .tuple ho hc hd (reads_ints hi), rfl⟩
theorem sorted_rows {a : Addr} {L : List (Addr × List Int)} {es : Array (Int × Value)} {ep : Nat} {t : SetTable} {Q : Value → Shared → Prop} (R : SetTR P w s.heap a L es ep t) (hh : A.handled = none) (hu : A.units + 64 < cLine)
    (hB : ∀ p ∈ L, p.2 ≠ [])
    (hQ : ∀ s' p (out : Array Value) (c : Nat) (L' : List (Addr × List Int)), (∀ b o, s.heap.get? b = some o → s'.heap.get? b = some o) → s'.gens = s.gens → s'.os = s.os → s.heap.objs.size ≤ p →
      s'.heap.get? p = some (seqObj "list" out c) → out.toList = L'.map (fun q => Value.ref q.1) → L'.Perm L → L'.Pairwise (fun q r => q.2 ≤ r.2) → Q (.ref p) s') :
    wpAny (model P w) A (call (.builtin "sorted") [.ref a]) Q E s := by
  have hfew := R.few
  have hsz := R.size
  obtain ⟨o, ho, hex, hd⟩ := R.ob
  refine Calls.call_function_entry kind_sorted plain_sorted entry_sorted (args_sorted1 _) ?_
  unfold Builtin.«sorted»
  refine wpAny_bind (m := checkCount "sorted" 1 1 _) (wpAny_pure ?_)
  refine wpAny_bind (collect_set (A := A.in1) hh ⟨o, ho, hex.1, hd⟩ R.fits (by unfold scanBound; omega) R.tab.ris R.led fun s1 vs k1 hz g1 o1 pm => ?_)
  have hes : es.toList.map (·.2) = L.map fun q => Value.ref q.1 := by
    rw [R.rows]
    unfold L2.rowsOf
    rw [List.map_map]; rfl
  rw [hes] at pm
  obtain ⟨L1, pm1, rfl⟩ := map_perm_ex (fun q : Addr × List Int => Value.ref q.1) vs L pm
  have hvl : L1.length < 64 := by rw [pm1.length_eq]; exact hfew
  refine wpAny_bind (wpAny_newList ?_ (by rw [sizeLine_eq, List.length_map]; omega))
  have hoL : (s1.heap.push (seqObj "list" (L1.map fun q => Value.ref q.1).toArray 0)).get? s1.heap.objs.size = some (seqObj "list" (L1.map fun q => Value.ref q.1).toArray 0) := Heap.get?_push_size _ rfl
  have rd : ∀ q ∈ L1, ∃ as, Reads (s1.heap.push (seqObj "list" (L1.map fun q => Value.ref q.1).toArray 0)) (.ref q.1) (.tuple (q.2.map .int)) as ∧ s1.heap.objs.size ∉ as := fun q hq => by
    obtain ⟨as, h1, h2⟩ := tup_reads (tupInts_of (P := P) (w := w) (isT_keep (R.tup q (pm1.mem_iff.mp hq)) fun b u e => Heap.get?_push_of_some _ (k1 b u e)))
    exact ⟨as, h1, by rw [h2]; simp⟩
  have dep : ∀ b ∈ L1, A.in1.units + 1 + (PyData.tuple (b.2.map .int)).depth < cLine := fun b _ => by
    have h1 : (PyData.tuple (b.2.map .int)).depth = 1 := by rw [PyData.depth, depth_ints]
    rw [h1, PySem.Around.in1_units]; omega
  refine wpAny_bind (wpAny_holding (list_sort_data (s := { s1 with heap := s1.heap.push (seqObj "list" (L1.map fun q => Value.ref q.1).toArray 0) }) (bs := L1) (enc := fun q => .tuple (q.2.map .int)) (R := fun v q => v = Value.ref q.1) hoL
    (each_self L1 fun q _ => rfl) (each_self L1 fun q hq => rd q hq) ?_ ?_ (by rw [sizeLine_eq]; omega) dep fun out hlen hout => ?_))
  · intro d hd d' hd'
    obtain ⟨q, _, rfl⟩ := List.mem_map.mp hd
    obtain ⟨r, _, rfl⟩ := List.mem_map.mp hd'
    rw [PySem.W.alike]
    exact alike_ints _ _
  · refine .inl fun d hd => ?_
    obtain ⟨q, hq, rfl⟩ := List.mem_map.mp hd
    have hne := hB q (pm1.mem_iff.mp hq)
    cases e : q.2 with
    | nil => exact absurd e hne
    | cons x r => exact ⟨.int x, r.map .int, rfl⟩
  · obtain ⟨c, hc⟩ := PyProof.Rows.sortedHeap_at (vs := L1.map fun q => Value.ref q.1) (out := out.toArray) hoL
    have eo := each_back (f := fun q : Addr × List Int => Value.ref q.1) hout
    refine wpAny_pure ⟨_, rfl, hQ _ s1.heap.objs.size out.toArray c _ (fun b u e => ?_) g1 o1 hz hc (by simpa using eo) ((List.mergeSort_perm _ _).trans pm1) ?_⟩
    · have q := k1 b u e
      have hlt := Heap.lt_size q
      show (sortedHeap (s1.heap.push (seqObj "list" (L1.map fun q => Value.ref q.1).toArray 0)) s1.heap.objs.size (L1.map fun q => Value.ref q.1) out.toArray).get? b = some u
      rw [sortedHeap_old (Nat.ne_of_lt hlt) (by rw [size_push']; exact Nat.lt_succ_of_lt hlt)]
      exact Heap.get?_push_of_some _ q
    · rw [dataLe_tups (fun q : Addr × List Int => q.2)]
      refine List.Pairwise.imp (fun {q r} h => of_decide_eq_true h) (List.pairwise_mergeSort (fun a b c h1 h2 => ?_) (fun a b => ?_) L1)
      · exact decide_eq_true (List.le_trans (of_decide_eq_true h1) (of_decide_eq_true h2))
      · rcases lst_le_total a.2 b.2 with h | h
        · rw [decide_eq_true h]; rfl
        · rw [decide_eq_true h, Bool.or_true]
end

section
variable {cl : Cl} {X : Cx} {e a b c o tg : Expr} {es : List Expr} {pos pos' p p2 q : Pos} {wa wb wc we wo : WE} {wr : WA} {pins : List (Addr × Obj)} {σ : L2.St} {H : Hp} {F : Fz} {s : Shared} {S : Store}
abbrev rowD (r : List Int) : D := .tup (r.map .int)
def rowOf : D → Option (List Int) | .tup l => intsOf l | _ => none
theorem rowOf_some {d : D} {r : List Int} (h : rowOf d = some r) : d = rowD r := by
  cases d with
  | tup l => have h' : intsOf l = some r := h; rw [rowD, ← intsOf_map h']
  | _ => cases h
theorem rowOf_row (r : List Int) : rowOf (rowD r) = some r := intsOf_of r
def rowsOf : List D → Option (List (List Int))
  | [] => some []
  | d :: l => (rowOf d).bind fun r => (rowsOf l).map (r :: ·)
theorem rowsOf_map : ∀ {l : List D} {rs : List (List Int)}, rowsOf l = some rs → l = rs.map rowD
  | [], _, h => by cases h; rfl
  | d :: l, rs, h => by
    unfold rowsOf at h
    obtain ⟨r, h1, h2⟩ := bind_inv h
    obtain ⟨rs', h3, rfl⟩ := Option.map_eq_some_iff.mp h2
    rw [rowOf_some h1, rowsOf_map h3]; rfl
theorem rowsOf_of : ∀ rs : List (List Int), rowsOf (rs.map rowD) = some rs
  | [] => rfl
  | r :: rs => by rw [List.map_cons, rowsOf, rowOf_row, rowsOf_of rs]; rfl
/-- the addresses of rows -/
theorem rows_at {vs : List V} : ∀ {rs : List (List Int)} {vs : List V}, RpAll X.K H F (rs.map rowD) vs → ∃ ks : List (Addr × List Int), vs = ks.map (fun p => V.ref p.1) ∧ ks.map (·.2) = rs ∧ ∀ p ∈ ks, SqT X.K H p.1 (p.2.map V.int)
  | [], vs, r => by
    have : vs = [] := List.eq_nil_of_length_eq_zero (by simpa using r.len)
    subst this; exact ⟨[], rfl, rfl, fun _ h => nomatch h⟩
  | x :: rs, vs, r => by
    simp only [List.map_cons, RpAll] at r
    obtain ⟨v, vs', rfl, h1, h2⟩ := r
    obtain ⟨ks, rfl, e2, h3⟩ := rows_at (vs := vs') h2
    simp only [rowD, Rp] at h1
    obtain ⟨p, us, rfl, h4, h5⟩ := h1
    refine ⟨(p, x) :: ks, rfl, by rw [List.map_cons, e2], fun q hq => ?_⟩
    rcases List.mem_cons.mp hq with rfl | hq
    · rw [RpAll.ints h5] at h4; exact h4
    · exact h3 q hq
theorem rows_rp {H : Hp} {F : Fz} : ∀ {ks : List (Addr × List Int)}, (∀ p ∈ ks, SqT X.K H p.1 (p.2.map V.int)) → RpAll X.K H F (ks.map fun p => rowD p.2) (ks.map fun p => V.ref p.1)
  | [], _ => RpAll.nil
  | p :: ks, h => RpAll.cons (by simp only [rowD, Rp]; exact ⟨p.1, _, rfl, h p List.mem_cons_self, RpAll.of_ints⟩) (rows_rp fun q hq => h q (List.mem_cons_of_mem _ hq))
/-- sorted(set(e)), e a list of rows -/
def kSortSet : W1 := fun d S Q => orF ((lstOf S d).bind rowsOf) fun rs => rs.length < 64 ∧ (∀ r ∈ rs, r ≠ []) ∧ ∀ out : List (List Int), out.Pairwise (· < ·) → (∀ r, r ∈ out ↔ r ∈ rs) → Q (.lst (out.map rowD)) S
theorem je_sortSet (hc : X.calm = true) (hu : X.A.units + 64 < cLine) (hg : Gl X "sorted") (hm : X.mg "sorted" = none) (hg2 : Gl X "set") (hm2 : X.mg "set" = none) (ha : JE cl X a wa)
    (na : starEach [a] X.env = (false, eval a X.env) :: starEach [] X.env := by rfl) : JE cl X (.Call (.Name "sorted" p) [.Call (.Name "set" p2) [a] [] q] [] pos) (w1 kSortSet wa) := by
  refine ⟨fun pins s σ H Q I h => ?_⟩
  obtain ⟨F, S, g, Qd, m, r, w, to⟩ := h
  refine PyProof.Rows.Call_ (ld_blt I hg hm PyProof.Rows.boot_sorted ?_)
  refine PyProof.Rows.callWith_builtin1 (PyProof.Rows.args_cons ?_ rfl) rfl rfl
  refine PyProof.Rows.Call_ (ld_blt I hg2 hm2 PyProof.Rows.boot_set ?_)
  refine PyProof.Rows.callWith_type1 (PyProof.Rows.args_cons (thn (ha.run pins s σ H _ I ⟨F, S, g, _, m, r, w, fun d S' v H' F' q e m' r' => (⟨F', S', d, q, e, m', r'⟩ : ∃ F' S' d, kSortSet d S' Qd ∧ Ext H F H' F' ∧ Sim (Cof X cl) H' F' S' ∧ Rp X.K H' F' d v)⟩) fun v s1 ⟨x, H1, I1, r1, q1⟩ => PyProof.Rows.args_nil ?_) na) na rfl
  obtain ⟨F1, S1, d, k, e1, m1, rd⟩ := q1
  obtain ⟨rs, er, h1, h2, hq⟩ := orF_iff.mp k
  obtain ⟨l, el, er⟩ := bind_inv er
  obtain ⟨pl, vs, rfl, hp, ra⟩ := lstOf_at m1 el rd
  rw [rowsOf_map er] at ra
  obtain ⟨ks, rfl, rfl, hks⟩ := rows_at (vs := vs) ra
  cases r1
  obtain ⟨its, rv, hpl, hz⟩ := I1.list (SqL.of hp)
  have hn : H1 s1.heap.objs.size = none := I1.hok.fresh (Nat.le_refl _)
  have hlen : ks.length < 64 := by simpa using h1
  refine call_set_tups (P := X.prog) (w := X.w) ks (I1.ok.hd hc) hpl.isList (by simpa using refs_of_vals rv) (fun p hp => I1.isT (hks p hp)) hlen (by omega) fun h' tk L es ep t R gt kp => ?_
  have I2 : Inv X pins σ (upd H1 s1.heap.objs.size (SetTO X.prog X.w s1.heap.objs.size L)) { s1 with heap := h', toks := tk } := I1.laid (t' := tk) kp (Nat.le_refl _) (setTO_new R.t0)
  refine PyProof.Rows.args_nil ?_
  have e2 := m1.ext_new hn (SetTO X.prog X.w s1.heap.objs.size L)
  have m2 := m1.new hn (SetTO X.prog X.w s1.heap.objs.size L)
  have sub : ∀ p ∈ L, p ∈ ks := fun p hp => List.mem_of_mem_take (gt.sub p hp)
  have all : ∀ p ∈ ks, p.2 ∈ L.map (·.2) := fun p hp => gt.all p (by rw [List.take_length]; exact hp)
  refine sorted_rows R (I2.ok.hd hc) hu (fun p hp => h2 _ (List.mem_map.mpr ⟨p, sub p hp, rfl⟩)) fun s' p out c L' k' g' o' hp' hg' hout pm pw => ?_
  have hfew : L'.length < 64 := by rw [pm.length_eq]; exact R.few
  have hn' := I2.hok.fresh (a := p) hp'
  have hv : Vals (L'.map fun q => V.ref q.1) out.toList := by rw [hout]; exact vals_of_refs L'
  have J3 := I2.call (h' := s'.heap) (g' := s'.gens) (d' := s'.drawn) (t' := s'.toks) (ch := []) (Un.laid k' hp' hn') (I2.hok.laid (o := .lst (L'.map fun q => V.ref q.1)) k' hp' ⟨by rw [List.length_map, sizeLine_eq]; omega, out.toList, c, hv, hg'⟩) (by rw [g']; exact I2.bare) (fun _ z => nomatch z)
  have e : s' = { s1 with heap := s'.heap, gens := s'.gens, drawn := s'.drawn, toks := s'.toks } := by
    have o'' : s'.os = s1.os := o'
    rw [← o'']
  rw [e]
  have e3 := m2.ext_frz hn' (.lst (L'.map fun q => V.ref q.1))
  have hks' : ∀ q ∈ L', SqT X.K (upd (upd H1 s1.heap.objs.size (SetTO X.prog X.w s1.heap.objs.size L)) p (.lst (L'.map fun q => V.ref q.1))) q.1 (q.2.map V.int) := fun q hq => e3.sqT (e2.sqT (hks q (sub q (pm.mem_iff.mp hq))))
  refine ⟨.ref p, _, J3, rfl, to (.lst ((L'.map (·.2)).map rowD)) S1 (.ref p) _ (fz1 F1 p true) (hq (L'.map (·.2)) ?_ ?_) (e1.trans (e2.trans e3)) (m2.frz hn' _) ?_⟩
  · have nd : (L'.map (·.2)).Nodup := (pm.map (·.2)).nodup_iff.mpr R.nd
    have : ∀ l : List (List Int), l.Pairwise (· ≤ ·) → l.Nodup → l.Pairwise (· < ·) := by
      intro l
      induction l with
      | nil => intro _ _; exact .nil
      | cons x l ih =>
        intro h1 h2
        obtain ⟨a1, a2⟩ := List.pairwise_cons.mp h1
        obtain ⟨b1, b2⟩ := List.nodup_cons.mp h2
        refine List.Pairwise.cons (fun y hy => ?_) (ih a2 b2)
        rcases Classical.em (x < y) with h | h
        · exact h
        · have h' : y ≤ x := List.not_lt.mp h
          exact absurd (List.le_antisymm (a1 y hy) h') (fun e => b1 (e ▸ hy))
    exact this _ (List.pairwise_map.mpr pw) nd
  · intro r
    rw [List.mem_map, List.mem_map]
    constructor
    · rintro ⟨q, hq, rfl⟩; exact ⟨q, sub q (pm.mem_iff.mp hq), rfl⟩
    · rintro ⟨q, hq, rfl⟩
      obtain ⟨q', hq', e⟩ := List.mem_map.mp (all q hq)
      exact ⟨q', pm.mem_iff.mpr hq', e⟩
  · simp only [Rp]
    refine ⟨p, _, rfl, ⟨fz1_same, upd_same⟩, ?_⟩
    rw [List.map_map]
    exact rows_rp hks'
end
end J
set_option Elab.async false
set_option linter.all false
set_option maxRecDepth 100000
set_option maxHeartbeats 2000000
namespace J
open PySem PySem.Spec L2
open PyProof.Rows (IntsAre)

/-! ## what a module's names stand for -/
structure Df (K : PySem.W.Frag) (mg : Str → Option Value) (x : Str) (st : Stmt) (ps : List Str) (a : Addr) (fd : FuncData) : Prop where
  F : Fun K x x st a fd
  m : mg x = some (.ref a)
  b : Binds K fd ps []
structure OwnK (K : PySem.W.Frag) (mg : Str → Option Value) (C : Addr) (x : Str) : Prop where
  ex : ∃ (bmB : List Value) (B newId initId : String), ExcBaseFacts B newId initId bmB ∧ PySem.W.excIn K C bmB newId = true
  g : mg x = some (.ref C)
  k : PySem.W.keepIn K (.ref C) = true
  s : PySem.W.subIn K (.ref C) (.type "BaseException") = some true
  t : PySem.W.typeIn K (.ref C) = some (.type "type")
section
variable {P : Program} {w : World} {K : PySem.W.Frag} {mg : Str → Option Value} {base : Heap} {CX : CXT} {k : Nat} {f : Addr} {fd : FuncData} {ps : List Str} {C : Ct} {n : Nat}
/-- a def of which nothing is wished -/
theorem fn_ok0 (h : n = ps.length) : FnOk P w K mg base CX k f fd ps (spJ C n fun _ _ _ _ => False) :=
  ⟨fun vs H Q E h' => h ▸ h'.1, fun A outer s H args us vs Q E _ _ _ _ h' => by obtain ⟨_, _, _, _, _, _, _, _, q, _⟩ := h'; exact q.elim⟩
end
abbrev xd0 : XD := fun _ _ _ => False
section
variable {cl : Cl} {X : Cx} {e a b c o tg : Expr} {es : List Expr} {pos pos' p p2 q : Pos} {wa wb wc we wo : WE} {wr : WA} {pins : List (Addr × Obj)} {σ : L2.St} {H : Hp} {F : Fz} {s : Shared} {S : Store}
theorem tk0 : Takes X (tX (Cof X cl) xd0) := takes0.imp fun _ _ _ _ ⟨_, _, _, _, _, _, q, _, _⟩ => q
theorem je_fn {k k' : Nat} {f : Addr} {fd : FuncData} {ps : List Str} {x : Str} {st : Stmt} {of : String → Addr} {W : CallW} {xd : XD} (ho : cl.of = of) (D : Df X.K X.mg x st ps f fd)
    (Fk : FnOk X.prog X.w X.K X.mg X.base (L2.CX X.prog X.w) k f fd ps (spJ (Ct0 X.prog X.w X.K of) ps.length W)) (hr : Room k' X.A) (hk : k ≤ k') (hg : Gl X x) (tk : Takes X (tX (Cof X cl) xd)) (ha : JL cl X (e :: es) wr) (hdb : (x == ("__debug__" : Str)) = false := by decide)
    (he : starEach (e :: es) X.env = (false, eval e X.env) :: starEach es X.env := by rfl) (hpl : (backTo pos (starEach es X.env)).any (·.1) = false := by rfl) : JE cl X (.Call (.Name x p) (e :: es) [] pos) (wCall ps.length W xd wr) := by
  subst ho
  exact je_call Fk (hr.mono hk) hg D.m D.F.kp D.b tk ha hdb he hpl
theorem je_fn0 {k k' : Nat} {f : Addr} {fd : FuncData} {ps : List Str} {x : Str} {st : Stmt} {of : String → Addr} {W : CallW} {xd : XD} (ho : cl.of = of) (D : Df X.K X.mg x st ps f fd)
    (Fk : FnOk X.prog X.w X.K X.mg X.base (L2.CX X.prog X.w) k f fd ps (spJ (Ct0 X.prog X.w X.K of) ps.length W)) (hr : Room k' X.A) (hk : k ≤ k') (hg : Gl X x) (tk : Takes X (tX (Cof X cl) xd)) (hdb : (x == ("__debug__" : Str)) = false := by decide) :
    JE cl X (.Call (.Name x p) [] [] pos) (wCall ps.length W xd wNil) := by
  subst ho
  exact je_call0 Fk (hr.mono hk) hg D.m D.F.kp D.b tk hdb
theorem js_err {x : Str} {nm : String} {xd : XD} {of : String → Addr} (ho : cl.of = of) (O : OwnK X.K X.mg (of nm) x) (hc : X.calm = true) (hg : Gl X x) (tk : Takes X (tX (Cof X cl) xd)) (hdb : (x == ("__debug__" : Str)) = false := by decide) :
    JS cl X (.Raise (some (.Call (.Name x p) [] [] pos)) none pos') (wRaise xd nm) := by
  subst ho
  exact js_raise hc tk ⟨O.ex, O.g, O.k, raises_own O.s O.t⟩ hg hdb
theorem js_errA {x : Str} {nm : String} {xd : XD} {of : String → Addr} (ho : cl.of = of) (O : OwnK X.K X.mg (of nm) x) (hc : X.calm = true) (hg : Gl X x) (tk : Takes X (tX (Cof X cl) xd)) (ha : JL cl X (e :: es) wr) (hdb : (x == ("__debug__" : Str)) = false := by decide)
    (he : starEach (e :: es) X.env = (false, eval e X.env) :: starEach es X.env := by rfl) (hpl : (backTo pos (starEach es X.env)).any (·.1) = false := by rfl) :
    JS cl X (.Raise (some (.Call (.Name x p) (e :: es) [] pos)) none pos') (wRaiseA xd nm wr) := by
  subst ho
  exact js_raiseA hc tk ⟨O.ex, O.g, O.k, raises_own O.s O.t⟩ hg ha hdb he hpl
theorem je_glb {x : Str} {i : Int} {pos : Pos} (hg : Gl X x) (hm : ∃ t, X.mg x = some (.int i t)) (hd : (x == ("__debug__" : Str)) = false := by decide) : JE cl X (.Name x pos) (wC (.int i)) := by
  obtain ⟨t, hm⟩ := hm
  exact je_globI hg hm hd
theorem js_tryD {x : Str} {c : Addr} {of : String → Addr} {body suite : List Stmt} {b₀ : Stmt} {np : Pos} {ct : String → Option Bool} {wb : XD → WS} {ws : WS} {xd : XD} (ho : cl.of = of) (hs : X.stack = X.env :: X.outer) (hf : X.env.frame = some X.env.locals)
    (hg : Gl X x) (hm : X.mg x = some (.ref c)) (tk : Takes X (tX (Cof X cl) xd)) (hx : ∀ y b, ct y = some b → PySem.W.exmOne X.K (.ref (of y)) (.ref c) = some b)
    (hb : ∀ (pn : List (Addr × Obj)) (xe : Value → Shared → Prop) (cl' : Cl) (xd' : XD), cl'.of = of → PassesOwn (model X.prog X.w) X.A X.env xe → Takes (X.tr pn xe) (tX (Cof (X.tr pn xe) cl') xd') → JSs cl' (X.tr pn xe) body (wb xd'))
    (hsu : ∀ (a : Addr) (q : Addr × Obj) (pn : List (Addr × Obj)), JSs cl (X.suite a (q :: pn)) (b₀ :: suite) ws) (hdb : (x == ("__debug__" : Str)) = false := by decide) :
    JS cl X (.Try body [.ExceptHandler (some (.Name x np)) none (b₀ :: suite) pos'] [] [] pos) (wTry ct wb ws xd) := by
  subst ho
  exact js_try hs hf ⟨hg, hdb, .inl hm⟩ tk hx hb hsu

/-! ## isinstance of data -/
def isT (T : String) (d : D) : Bool := match d with
  | .bl _ => T == "bool" || T == "int"
  | .int _ => T == "int"
  | .str _ => T == "str"
  | .tup _ => T == "tuple"
  | .lst _ => T == "list"
  | _ => false
def kIsa (T : String) : W1 := fun d S Q => shp 60 d = true ∧ Q (.bl (isT T d)) S
def IsaOk (T : String) : Prop := ∀ {P : Program} {w : World} {A : Around} {E : Value → Shared → Prop} {s : Shared} {v : Value} {d : D} {as : List Addr} {Q : Value → Shared → Prop}, Reads s.heap v (toPy d) as → shp 60 d = true → (∀ tk, Q (.bool (isT T d)) { s with toks := tk }) → wpAny (model P w) A (call (.builtin "isinstance") [v, .type T]) Q E s
theorem isa_list : IsaOk "list" := fun {P w A E s v d as Q} r hs h => PySem.W.isinstance_list_data r fun tk _ => by
  have : (toPy d).isList = isT "list" d := by cases d <;> first | rfl | simp [shp] at hs
  rw [this]; exact h tk
theorem isa_tuple : IsaOk "tuple" := fun {P w A E s v d as Q} r hs h => PySem.W.isinstance_tuple_data r fun tk _ => by
  have : (toPy d).isTuple = isT "tuple" d := by cases d <;> first | rfl | simp [shp] at hs
  rw [this]; exact h tk
theorem isa_str : IsaOk "str" := fun {P w A E s v d as Q} r hs h => PySem.W.isinstance_str_data r fun tk _ => by
  have : (toPy d).isStr = isT "str" d := by cases d <;> first | rfl | simp [shp] at hs
  rw [this]; exact h tk
theorem isa_int : IsaOk "int" := fun {P w A E s v d as Q} r hs h => PySem.W.isinstance_int_data r fun tk _ => by
  have : (toPy d).isInt = isT "int" d := by cases d <;> first | rfl | simp [shp] at hs
  rw [this]; exact h tk
theorem isa_bool : IsaOk "bool" := fun {P w A E s v d as Q} r hs h => PySem.W.isinstance_bool_data r fun tk _ => by
  have : (toPy d).isBool = isT "bool" d := by cases d <;> first | rfl | simp [shp] at hs
  rw [this]; exact h tk
theorem isa_dict : IsaOk "dict" := fun {P w A E s v d as Q} r hs h => PySem.W.isinstance_dict_data r fun tk _ => by
  have : (toPy d).isDict = isT "dict" d := by cases d <;> first | rfl | simp [shp] at hs
  rw [this]; exact h tk
theorem je_isa {T : String} {y : Str} (hT : IsaOk T) (hg : Gl X "isinstance") (hm : X.mg "isinstance" = none) (hg2 : Gl X y) (hm2 : X.mg y = none) (hv : bootBuiltins y = some (.type T)) (ha : JE cl X a wa) (hn : y ≠ "__name__" := by decide) (hd : (y == ("__debug__" : Str)) = false := by decide)
    (he : starEach [a, .Name y p2] X.env = (false, eval a X.env) :: starEach [.Name y p2] X.env := by rfl) (he2 : starEach [.Name y p2] X.env = [(false, eval (.Name y p2) X.env)] := by rfl) (hpl : (backTo pos (starEach [.Name y p2] X.env)).any (·.1) = false := by rfl) :
    JE cl X (.Call (.Name "isinstance" p) [a, .Name y p2] [] pos) (w1 (kIsa T) wa) := by
  have hc : CallR X (.builtin "isinstance") (fun xs H Q => ∃ x F S d Qd, xs = [x, .ty T] ∧ Sim (Cof X cl) H F S ∧ Rp X.K H F d x ∧ kIsa T d S Qd ∧ rTo (Cof X cl) H F Qd Q) := by
    intro pins s σ H xs us Q I r ⟨x, F, S, d, Qd, ex, m, rd, k, to⟩
    subst ex
    obtain ⟨u, w', rfl, r1, r2⟩ := vals2 r
    cases (show w' = Value.type T from r2)
    obtain ⟨as, rr⟩ := reads_of I 60 d x u k.1 rd r1
    exact hT rr k.1 fun tk => ⟨.bl (isT T d), H, I.tok _, rfl, to _ S _ H F k.2 (Ext.refl H F) m rp_bl⟩
  refine (pe_callB hc hg hm PyProof.Rows.boot_isinstance (pa_cons ha (pa_cons (pe_bltn (v := .ty T) hg2 hm2 hv rfl hn hd) pa_nil (by rw [he2]; rfl)) he) (by decide) (by decide) he hpl).imp fun σ H Q ⟨F, S, g, Qd, m, r, w, to⟩ => ?_
  exact ⟨F, S, g, _, m, r, w, fun d S1 v1 H1 F1 q1 e1 m1 r1 => ⟨v1, F1, S1, d, Qd, rfl, m1, r1, q1, rTo.ext to e1⟩⟩

/-! ## len(set(e)), e a tuple of ints -/
def kLenSet : W1 := fun d S Q => orF (rowOf d) fun ns => ns.length ≤ 1000 ∧ ∀ l : List Int, l.Nodup → (∀ k, k ∈ l ↔ k ∈ ns) → Q (.int l.length) S
theorem je_lenSet (hc : X.calm = true) (hg : Gl X "len") (hm : X.mg "len" = none) (hg2 : Gl X "set") (hm2 : X.mg "set" = none) (ha : JE cl X a wa)
    (na : starEach [a] X.env = (false, eval a X.env) :: starEach [] X.env := by rfl) : JE cl X (.Call (.Name "len" p) [.Call (.Name "set" p2) [a] [] q] [] pos) (w1 kLenSet wa) := by
  refine ⟨fun pins s σ H Q I h => ?_⟩
  obtain ⟨F, S, g, Qd, m, r, w, to⟩ := h
  refine PyProof.Rows.Call_ (ld_blt I hg hm PySem.boot_len ?_)
  refine PyProof.Rows.callWith_builtin1 (PyProof.Rows.args_cons ?_ rfl) rfl rfl
  refine PyProof.Rows.Call_ (ld_blt I hg2 hm2 PyProof.Rows.boot_set ?_)
  refine PyProof.Rows.callWith_type1 (PyProof.Rows.args_cons (thn (ha.run pins s σ H _ I ⟨F, S, g, _, m, r, w, fun d S' v H' F' q e m' r' => (⟨F', S', d, q, e, m', r'⟩ : ∃ F' S' d, kLenSet d S' Qd ∧ Ext H F H' F' ∧ Sim (Cof X cl) H' F' S' ∧ Rp X.K H' F' d v)⟩) fun v s1 ⟨x, H1, I1, r1, q1⟩ => PyProof.Rows.args_nil ?_) na) na rfl
  obtain ⟨F1, S1, d, k, e1, m1, rd⟩ := q1
  obtain ⟨ns, er, h1, hq⟩ := orF_iff.mp k
  rw [rowOf_some er] at rd
  simp only [rowD, Rp] at rd
  obtain ⟨pl, vs, rfl, hp, ra⟩ := rd
  rw [RpAll.ints ra] at hp
  cases r1
  obtain ⟨its, rv, ⟨ob, ho, hcc, nn, hd⟩, hz⟩ := I1.tuple hp
  refine call_set_tupI (w := X.w) ns (I1.ok.hd hc) ⟨ob, ho, hcc, nn, hd⟩ (by simpa using rv.ints) (by unfold scanBound; omega) fun h' tk c hS hcl kp => ?_
  refine PyProof.Rows.args_nil ?_
  obtain ⟨o, es, ep, t, ho, hex, hd, hgood, hnd, hmem, hsc, hf, hn, _⟩ := hS
  have I2 : Inv X pins σ H1 { s1 with heap := h', toks := tk } := I1.kept kp
  refine call_len_set ho hex hd hf (by omega) ⟨.int (es.toList.map keyOf).length, H1, I2.tok _, ⟨_, by rw [List.length_map, Array.length_toList]⟩, ?_⟩
  exact to _ S1 _ H1 F1 (hq (es.toList.map keyOf) hnd fun k => by rw [← hmem k]; simp) e1 m1 rp_int
end
end J
set_option Elab.async false
set_option linter.all false
set_option maxRecDepth 100000
set_option maxHeartbeats 2000000
namespace J
open PySem PySem.Spec L2
/-! ## the same rules, quick where an argument is long -/
def noSt : Expr → Bool | .Starred _ _ => false | _ => true
theorem se_cons {e : Expr} (es : List Expr) (env : Env) (h : noSt e = true) : starEach (e :: es) env = (false, eval e env) :: starEach es env := by
  cases e <;> first | rfl | cases h
theorem bt_any (p : Pos) : ∀ (es : List Expr) (env : Env), es.all noSt = true → (backTo p (starEach es env)).any (·.1) = false
  | [], env, _ => rfl
  | e :: es, env, h => by
    rw [List.all_cons, Bool.and_eq_true] at h
    rw [se_cons es env h.1]
    have := bt_any p es env h.2
    unfold backTo at this ⊢
    simpa using this
theorem bt_all (p : Pos) : ∀ (es : List Expr) (env : Env), es.all noSt = true → (backTo p (starEach es env)).all (fun x => !x.1) = true
  | [], env, _ => rfl
  | e :: es, env, h => by
    rw [List.all_cons, Bool.and_eq_true] at h
    rw [se_cons es env h.1]
    have := bt_all p es env h.2
    unfold backTo at this ⊢
    simpa using this
section
variable {cl : Cl} {X : Cx} {e a b c o tg : Expr} {es : List Expr} {pos pos' p p2 q cpos apos : Pos} {wa wb wc we wo : WE} {wr : WA}
theorem jlc (ha : JE cl X e wa) (hr : JL cl X es wr) (h : noSt e = true := by rfl) : JL cl X (e :: es) (wCons wa wr) := jl_cons ha hr (se_cons es X.env h)
theorem jfn {k k' : Nat} {f : Addr} {fd : FuncData} {ps : List Str} {x : Str} {st : Stmt} {of : String → Addr} {W : CallW} {xd : XD} {n : Nat} (ho : cl.of = of) (D : Df X.K X.mg x st ps f fd)
    (Fk : FnOk X.prog X.w X.K X.mg X.base (L2.CX X.prog X.w) k f fd ps (spJ (Ct0 X.prog X.w X.K of) n W)) (hr : Room k' X.A) (hk : k ≤ k') (hg : Gl X x) (tk : Takes X (tX (Cof X cl) xd)) (ha : JL cl X (e :: es) wr) (h1 : noSt e = true := by rfl) (h2 : es.all noSt = true := by rfl)
    (hdb : (x == ("__debug__" : Str)) = false := by decide) (hn : ps.length = n := by rfl) : JE cl X (.Call (.Name x p) (e :: es) [] pos) (wCall n W xd wr) := by
  subst hn
  exact je_fn ho D Fk hr hk hg tk ha hdb (se_cons es X.env h1) (bt_any pos es X.env h2)
theorem jfn0 {k k' : Nat} {f : Addr} {fd : FuncData} {ps : List Str} {x : Str} {st : Stmt} {of : String → Addr} {W : CallW} {xd : XD} {n : Nat} (ho : cl.of = of) (D : Df X.K X.mg x st ps f fd)
    (Fk : FnOk X.prog X.w X.K X.mg X.base (L2.CX X.prog X.w) k f fd ps (spJ (Ct0 X.prog X.w X.K of) n W)) (hr : Room k' X.A) (hk : k ≤ k') (hg : Gl X x) (tk : Takes X (tX (Cof X cl) xd)) (hdb : (x == ("__debug__" : Str)) = false := by decide) (hn : ps.length = n := by rfl) :
    JE cl X (.Call (.Name x p) [] [] pos) (wCall n W xd wNil) := by
  subst hn
  exact je_fn0 ho D Fk hr hk hg tk hdb
theorem jcB {id : String} {x : Str} {k : WCall} (hc : CallJ cl X (.builtin id) k) (hg : Gl X x) (hm : X.mg x = none) (hv : bootBuiltins x = some (.builtin id)) (ha : JL cl X (e :: es) wr) (h1 : noSt e = true := by rfl) (h2 : es.all noSt = true := by rfl)
    (hn : x ≠ "__name__" := by decide) (hdb : (x == ("__debug__" : Str)) = false := by decide) : JE cl X (.Call (.Name x p) (e :: es) [] pos) (wB k wr) := je_callB hc hg hm hv ha hn hdb (se_cons es X.env h1) (bt_any pos es X.env h2)
theorem jcT {T : String} {x : Str} {k : WCall} (hc : CallJ cl X (.type T) k) (hg : Gl X x) (hm : X.mg x = none) (hv : bootBuiltins x = some (.type T)) (ha : JL cl X (e :: es) wr) (h1 : noSt e = true := by rfl) (h2 : es.all noSt = true := by rfl)
    (hn : x ≠ "__name__" := by decide) (hdb : (x == ("__debug__" : Str)) = false := by decide) : JE cl X (.Call (.Name x p) (e :: es) [] pos) (wB k wr) := je_callT hc hg hm hv ha hn hdb (se_cons es X.env h1) (bt_any pos es X.env h2)
theorem jsSet (hc : X.calm = true) (hu : X.A.units + 64 < cLine) (hg : Gl X "sorted") (hm : X.mg "sorted" = none) (hg2 : Gl X "set") (hm2 : X.mg "set" = none) (ha : JE cl X a wa) (h : noSt a = true := by rfl) :
    JE cl X (.Call (.Name "sorted" p) [.Call (.Name "set" p2) [a] [] q] [] pos) (w1 kSortSet wa) := je_sortSet hc hu hg hm hg2 hm2 ha (se_cons [] X.env h)
theorem jlSet (hc : X.calm = true) (hg : Gl X "len") (hm : X.mg "len" = none) (hg2 : Gl X "set") (hm2 : X.mg "set" = none) (ha : JE cl X a wa) (h : noSt a = true := by rfl) :
    JE cl X (.Call (.Name "len" p) [.Call (.Name "set" p2) [a] [] q] [] pos) (w1 kLenSet wa) := je_lenSet hc hg hm hg2 hm2 ha (se_cons [] X.env h)
theorem jIsa {T : String} {y : Str} (hT : IsaOk T) (hg : Gl X "isinstance") (hm : X.mg "isinstance" = none) (hg2 : Gl X y) (hm2 : X.mg y = none) (hv : bootBuiltins y = some (.type T)) (ha : JE cl X a wa) (h : noSt a = true := by rfl) (hn : y ≠ "__name__" := by decide) (hd : (y == ("__debug__" : Str)) = false := by decide) :
    JE cl X (.Call (.Name "isinstance" p) [a, .Name y p2] [] pos) (w1 (kIsa T) wa) := je_isa hT hg hm hg2 hm2 hv ha hn hd (se_cons _ X.env h) (se_cons [] X.env rfl) (bt_any pos _ X.env rfl)
theorem jlm {id : String} {name : Str} {k : WMt} (slot : Slot "list" name id) (hty : typeOf (.builtin id) = pure (.type "method_descriptor")) (hm : MtJ cl X id k) (ho : JE cl X o wo) (ha : JL cl X [e] wr) (h : noSt e = true := by rfl)
    (hbase : attributeBase o name X.env (eval o X.env) = eval o X.env := by rfl) (hline : (apos.endLine == cpos.line) = true := by rfl) : JE cl X (.Call (.Attribute o name apos) [e] [] cpos) (wMt k wo wr) :=
  je_lm slot hty hm ho ha hbase (by rw [bt_all cpos [e] X.env (by simp [h])]; rfl) hline (se_cons [] X.env h) rfl
theorem jrng1 {p : Pos} (hg : Gl X "range") (hm : X.mg "range" = none) (ha : JL cl X [a] wr) (h : noSt a = true := by rfl) : JI cl X tg (.Call (.Name "range" p) [a] [] pos) (wRng1 wr) := ji_rng1 hg hm ha (by rw [se_cons [] X.env h]; rfl)
theorem jrng2 {p : Pos} (hg : Gl X "range") (hm : X.mg "range" = none) (ha : JL cl X [a, b] wr) (h : noSt a = true := by rfl) (h2 : noSt b = true := by rfl) : JI cl X tg (.Call (.Name "range" p) [a, b] [] pos) (wRng2 wr) :=
  ji_rng2 hg hm ha (by rw [se_cons [b] X.env h, se_cons [] X.env h2]; rfl) (by rw [se_cons [] X.env h2]; rfl)
theorem jrng3 {p : Pos} (hg : Gl X "range") (hm : X.mg "range" = none) (ha : JL cl X [a, b, c] wr) (h : noSt a = true := by rfl) (h2 : [b, c].all noSt = true := by rfl) : JI cl X tg (.Call (.Name "range" p) [a, b, c] [] pos) (wRng3 wr) :=
  ji_rng3 hg hm ha (se_cons [b, c] X.env h) (bt_any pos [b, c] X.env h2)
end
end J
set_option Elab.async false
set_option linter.all false
set_option maxRecDepth 100000
namespace J
open PySem PySem.Spec L2
/-! ## the end of a law -/
def ofN (l : List (String × Addr)) (s : String) : Addr := (l.lookup s).getD 0
theorem exm_of {K : PySem.W.Frag} {S Y : Addr} {b : Bool} (h1 : PySem.W.subIn K (.ref S) (.type "BaseException") = some true) (h2 : PySem.W.isClsIn K S = true) (h3 : PySem.W.typeIn K (.ref S) = some (.type "type")) (h4 : PySem.W.subIn K (.ref Y) (.ref S) = some b) :
    PySem.W.exmOne K (.ref Y) (.ref S) = some b := by
  have e1 : (PySem.W.subIn K (.ref S) (.type "BaseException") == some true) = true := by rw [h1]; rfl
  have h2' : (PySem.W.clsIn K S).isSome = true := h2
  have e2 : ((PySem.W.clsIn K S).isSome && PySem.W.typeIn K (.ref S) == some (.type "type")) = true := by rw [h2', h3]; rfl
  unfold PySem.W.exmOne
  rw [if_pos e1]
  show (if ((PySem.W.clsIn K S).isSome && PySem.W.typeIn K (.ref S) == some (.type "type")) = true then PySem.W.subIn K (.ref Y) (.ref S) else none) = some b
  rw [if_pos e2]
  exact h4
/-- what is promised of a law -/
def spLaw (K : PySem.W.Frag) : Sp := fun vs H Q _ => ∃ (a : Addr) (ns : List Int), vs = [.ref a] ∧ SqL K H a (ns.map V.int) ∧ Only H ∧ ns.length ≤ 63 ∧ (∀ z ∈ ns, Builtin.Int.intBits z ≤ 1048576) ∧ ∀ H', Q (.bl true) H'
/-- what is to be shown of a law's wish -/
def LawSem (W : CallW) : Prop := ∀ ns : List Int, ns.length ≤ 63 → (∀ z ∈ ns, Builtin.Int.intBits z ≤ 1048576) → W [.scr ns] (fun _ => none) (fun d _ => d = .bl true) (fun _ _ => False)
theorem law_sp {P : Program} {w : World} {K : PySem.W.Frag} {mg : Str → Option Value} {base : Heap} {k : Nat} {f : Addr} {fd : FuncData} {of : String → Addr} {W : CallW} (Fk : FnOk P w K mg base (L2.CX P w) k f fd ["script"] (spJ (Ct0 P w K of) 1 W)) (h : LawSem W) :
    FnOk P w K mg base (L2.CX P w) k f fd ["script"] (spLaw K) := Fk.imp fun vs H Q E ⟨a, ns, e, hS, hO, hl, hb, hQ⟩ => by
  subst e
  refine ⟨rfl, fun _ => none, fun _ => none, [.scr ns], _, _, ⟨fun p o e => (nomatch e), fun p b e => (nomatch e), trivial⟩, ?_, h ns hl hb, fun d S' v H' F' q e m r => ?_, fun x S' H' F' q _ _ => q.elim⟩
  · refine RpAll.cons ?_ RpAll.nil
    simp only [Rp]
    refine ⟨a, rfl, ?_⟩
    rcases hS with (hS | hS) | hS
    · rcases hO a with z | ⟨o, xs, z⟩
      · rw [z] at hS; cases hS
      · rw [z] at hS; cases hS
    · exact .inl hS
    · exact .inr hS
  · subst q
    simp only [Rp] at r
    subst r
    exact hQ H'
theorem walk_law {l : PySem.W.OpenLaw} {k : Nat} {q : Program} {loose : List Str} {XP : (Str → Option Value) → Heap → Prop} {YP : World → Heap → Prop} {d : DefRec} {K : Params → PySem.W.Frag} (hn : l.most = some 63) (hdf : d.params.defaults = []) (hr : Room k callerA)
    (hY : ∀ (w : World) (h : Heap), YP w h → (K w.params).In h)
    (F : ∀ (w : World) (mg : Str → Option Value) (fa : Addr) (h : Heap), (K w.params).In h → h.Ns mainGlobals mg → mg d.name = some (.ref fa) →
      ∃ fd : FuncData, (∀ (s : Shared) (u : Value), BindsTo s fd ⟨[u], []⟩ [("script", u)]) ∧ ∀ base : Heap, (K w.params).In base → base.Ns mainGlobals mg → FnOk l.prog w (K w.params) mg base (L2.CX l.prog w) k fa fd ["script"] (spLaw (K w.params))) :
    PySem.W.WalkO q loose XP YP l.row.toRowW d [] (fun f vs => PySem.call f vs) :=
  L2.walk_ofB (n := 63) (k := k) (x := "script") (CX := fun w => L2.CX l.prog w) (sp := fun w => spLaw (K w.params)) hn (by decide) hdf hr hY F (fun _ H a ns hl hb hO hS => ⟨a, ns, rfl, hS, hO, hl, hb, fun _ => rfl⟩)
    fun _ _ _ _ _ h => by
      obtain ⟨_, _, _, _, _, _, _, _, _, _, _, _, z⟩ := h
      exact z
end J
set_option Elab.async false
set_option linter.all false
set_option maxRecDepth 100000
namespace J
open PySem PySem.Spec L2
open PyProof.Rows (b2i)
/-! ## plain laws of the combinators -/
/-- short enough for one object -/
def Fits (n : Nat) : Prop := n ≤ sizeLine
def FitsL (n : Nat) : Prop := n < sizeLine
theorem fits {n : Nat} (h : n ≤ 16777216) : Fits n := by unfold Fits; rw [sizeLine_eq]; exact h
theorem fitsL {n : Nat} (h : n < 16777216) : FitsL n := by unfold FitsL; rw [sizeLine_eq]; exact h
theorem eTup {wr : WA} {g : Sg} {S : Store} {Q : QE} : wTup wr g S Q = wr g S fun ds S1 => Fits ds.length ∧ Q (.tup ds) S1 := rfl
theorem eLst {wr : WA} {g : Sg} {S : Store} {Q : QE} : wLst wr g S Q = wr g S fun ds S1 => Fits ds.length ∧ Q (.lst ds) S1 := rfl
theorem eLstM {wr : WA} {g : Sg} {S : Store} {Q : QE} : wLstM wr g S Q = wr g S fun ds S1 => Fits ds.length ∧ ∀ p, S1 p = none → Q (.ref p) (put S1 p (.lst ds)) := rfl
theorem eLcA {wi : WI} {t : Tgt} {tt : WT} {te : WE} {vs : List Nat} {g : Sg} {S : Store} {Q : List D → Store → Prop} : wLcA wi t tt te vs g S Q = wi g S fun ds req S1 => FitsL ds.length ∧ lcl req t tt te (wipeD g vs) Q ds [] S1 := rfl
section
variable {S : Store} {Q : QE} {p : Addr} {xs ys : List D} {i j : Int} {b c : Bool} {k : Bool → Prop}
theorem kB_b : kB (.bl b) k = k b := rfl
theorem kAdd_ii : kAdd (.int i) (.int j) S Q = Q (.int (i + j)) S := rfl
theorem kAdd_tt : kAdd (.tup xs) (.tup ys) S Q = (Fits (xs.length + ys.length) ∧ Q (.tup (xs ++ ys)) S) := rfl
theorem kAdd_ll : kAdd (.lst xs) (.lst ys) S Q = (Fits (xs.length + ys.length) ∧ Q (.lst (xs ++ ys)) S) := rfl
theorem kMul_ii : kMul (.int i) (.int j) S Q = (CMulX i j ∧ Q (.int (i * j)) S) := rfl
theorem kMulT_ti : kMulT (.tup xs) (.int i) S Q = ((0 ≤ i ∧ i ≤ 1000 ∧ xs.length ≤ 1000) ∧ Q (.tup (List.replicate i.toNat xs).flatten) S) := rfl
theorem kI0_ii {f : Int → Int → D} : kI0 f (.int i) (.int j) S Q = Q (f i j) S := rfl
theorem kIC_ii {R : Int → Int → Prop} {f : Int → Int → D} : kIC R f (.int i) (.int j) S Q = (R i j ∧ Q (f i j) S) := rfl
theorem kEq_ii : kEq (.int i) (.int j) S Q = Q (.bl (i == j)) S := by simp [kEq, shp, eqv]
theorem kNe_ii : kNe (.int i) (.int j) S Q = Q (.bl (!(i == j))) S := by simp [kNe, shp, eqv]
theorem kInt_i : kInt [.int i] S Q = Q (.int i) S := rfl
theorem kMin2_ii : kMin2 [.int i, .int j] S Q = Q (.int (if j < i then j else i)) S := rfl
theorem kMax2_ii : kMax2 [.int i, .int j] S Q = Q (.int (if j > i then j else i)) S := rfl
theorem kLen_l : kLen [.lst xs] S Q = Q (.int xs.length) S := rfl
theorem kLen_t : kLen [.tup xs] S Q = Q (.int xs.length) S := rfl
theorem kLen_s {ns : List Int} : kLen [.scr ns] S Q = Q (.int ns.length) S := rfl
theorem kLen_r (h : S p = some (.lst xs)) : kLen [.ref p] S Q = Q (.int xs.length) S := by simp only [kLen, h]
theorem kIx_l : kIx (.lst xs) (.int i) S Q = orF (atI xs i) fun d => Q d S := rfl
theorem kIx_t : kIx (.tup xs) (.int i) S Q = orF (atI xs i) fun d => Q d S := rfl
theorem kIx_s {ns : List Int} : kIx (.scr ns) (.int i) S Q = orF (atI ns i) fun d => Q (.int d) S := rfl
theorem kIx_r (h : S p = some (.lst xs)) : kIx (.ref p) (.int i) S Q = orF (atI xs i) fun d => Q d S := by simp only [kIx, h]
theorem kIx_T {l : List (D × D)} (h : S p = some (.dcT l)) : kIx (.ref p) (.tup xs) S Q = (keyd 8 (.tup xs) = true ∧ orF (look l (.tup xs)) fun d => Q d S) := by simp only [kIx, h]
theorem kSetI_r {v : D} {K : Store → Prop} (h : S p = some (.lst xs)) : kSetI (.ref p) (.int i) v S K = orF (ixN xs.length i) fun j => K (put S p (.lst (xs.set j v))) := by simp only [kSetI, h]
theorem kSetI_T {l : List (D × D)} {v : D} {K : Store → Prop} (h : S p = some (.dcT l)) : kSetI (.ref p) (.tup xs) v S K = (keyd 8 (.tup xs) = true ∧ FitsL l.length ∧ K (put S p (.dcT (putD l (.tup xs) v)))) := by simp only [kSetI, h, FitsL]
theorem kInB_T {l : List (D × D)} {neg : Bool} (h : S p = some (.dcT l)) : kInB neg (.tup xs) (.ref p) S Q = (keyd 8 (.tup xs) = true ∧ Q (.bl (neg != (look l (.tup xs)).isSome)) S) := by simp only [kInB, h]
theorem kAppend_r {d : D} (h : S p = some (.lst xs)) : kAppend (.ref p) [d] S Q = (FitsL xs.length ∧ Q .non (put S p (.lst (xs ++ [d])))) := by simp only [kAppend, h, FitsL]
theorem kPop_r (h : S p = some (.lst xs)) : kPop (.ref p) [] S Q = orF (xs[xs.length - 1]?) fun y => Q y (put S p (.lst xs.dropLast)) := by simp only [kPop, h]
theorem isLst_r (h : S p = some (.lst xs)) : isLst S (.ref p) := by simp only [isLst, lstOf, h]; rfl
theorem kTuple_l : kTuple [.lst xs] S Q = Q (.tup xs) S := rfl
theorem kTuple_t : kTuple [.tup xs] S Q = Q (.tup xs) S := rfl
theorem kTuple_r (h : S p = some (.lst xs)) : kTuple [.ref p] S Q = Q (.tup xs) S := by simp only [kTuple, itemsOf, h]; rfl
theorem kList_t : kList [.tup xs] S Q = Q (.lst xs) S := rfl
theorem kList_l : kList [.lst xs] S Q = Q (.lst xs) S := rfl
theorem kAll_l {bs : List Bool} : kAll [.lst (bs.map D.bl)] S Q = Q (.bl (bs.all id)) S := by simp only [kAll, lstOf, Option.bind, blsOf_of, orF_some]
theorem kAny_l {bs : List Bool} : kAny [.lst (bs.map D.bl)] S Q = Q (.bl (bs.any id)) S := by simp only [kAny, lstOf, Option.bind, blsOf_of, orF_some]
theorem kSum_t {ns : List Int} : kSum [rowD ns] S Q = Q (.int ns.sum) S := by simp only [kSum, rowD, intsOf_of, orF_some]
theorem kSl_t {lo hi : Option Int} : kSl lo hi (.tup xs) S Q = Q (.tup (cutD xs lo hi)) S := rfl
theorem kSl_l {lo hi : Option Int} : kSl lo hi (.lst xs) S Q = Q (.lst (cutD xs lo hi)) S := rfl
theorem kSortSet_l {rs : List (List Int)} : kSortSet (.lst (rs.map rowD)) S Q = (rs.length < 64 ∧ (∀ r ∈ rs, r ≠ []) ∧ ∀ out : List (List Int), out.Pairwise (· < ·) → (∀ r, r ∈ out ↔ r ∈ rs) → Q (.lst (out.map rowD)) S) := by
  simp only [kSortSet, lstOf, Option.bind, rowsOf_of, orF_some]
theorem kSortSet_r {rs : List (List Int)} (h : S p = some (.lst (rs.map rowD))) : kSortSet (.ref p) S Q = (rs.length < 64 ∧ (∀ r ∈ rs, r ≠ []) ∧ ∀ out : List (List Int), out.Pairwise (· < ·) → (∀ r, r ∈ out ↔ r ∈ rs) → Q (.lst (out.map rowD)) S) := by
  simp only [kSortSet, lstOf, h, Option.bind, rowsOf_of, orF_some]
theorem wSeq_l {S : Store} {R : SrcK} {ds : List D} : (match (D.lst ds) with | .lst ds => R ds noReq S | .tup ds => R ds noReq S | .scr ns => R (ns.map D.int) noReq S | .ref p => (match S p with | some (.lst ds) => R ds (fun S => S p = some (.lst ds)) S | _ => False) | _ => False) = R ds noReq S := rfl
theorem kIx_p : kIx (.ref p) (.int i) (put S p (.lst xs)) Q = orF (atI xs i) fun d => Q d (put S p (.lst xs)) := kIx_r put_same
theorem kLen_p : kLen [.ref p] (put S p (.lst xs)) Q = Q (.int xs.length) (put S p (.lst xs)) := kLen_r put_same
theorem kAppend_p {d : D} : kAppend (.ref p) [d] (put S p (.lst xs)) Q = (FitsL xs.length ∧ Q .non (put S p (.lst (xs ++ [d])))) := by
  rw [kAppend_r put_same]; congr 2; funext q; unfold put; split <;> rfl
theorem kSetI_p {v : D} {K : Store → Prop} : kSetI (.ref p) (.int i) v (put S p (.lst xs)) K = orF (ixN xs.length i) fun j => K (put S p (.lst (xs.set j v))) := by
  rw [kSetI_r put_same]; congr 1; funext j; congr 1; funext q; unfold put; split <;> rfl
theorem isLst_p : isLst (put S p (.lst xs)) (.ref p) := isLst_r put_same
theorem at4_0 {a b c d : D} : atI [a, b, c, d] 0 = some a := rfl
theorem at4_1 {a b c d : D} : atI [a, b, c, d] 1 = some b := rfl
theorem at4_2 {a b c d : D} : atI [a, b, c, d] 2 = some c := rfl
theorem at4_3 {a b c d : D} : atI [a, b, c, d] 3 = some d := rfl
theorem ix4_0 : ixN 4 0 = some 0 := rfl
theorem ix4_1 : ixN 4 1 = some 1 := rfl
theorem ix4_2 : ixN 4 2 = some 2 := rfl
theorem ix4_3 : ixN 4 3 = some 3 := rfl
theorem put_put {o o' : O} : put (put S p o) p o' = put S p o' := by
  funext q; unfold put; split <;> rfl
theorem Rt.same {d : D} (h : Q d S) : Rt Q d S := ⟨S, .inl ⟨Sub.refl _, h⟩⟩
theorem Rt.less {d : D} {S' : Store} (s : Sub S' S) (h : Q d S') : Rt Q d S := ⟨S', .inl ⟨s, h⟩⟩
theorem Rt.frz {S' : Store} (h : S p = some (.lst xs)) (s : Sub S' (del S p)) (q : Q (.lst xs) S') : Rt Q (.ref p) S := ⟨S', .inr ⟨p, xs, rfl, h, s, q⟩⟩
theorem Et.same {E : String → Store → Prop} {x : String} (h : E x S) : Et E x S := ⟨S, Sub.refl _, h⟩
theorem sub_put {o : O} (n : S p = none) : Sub S (put S p o) := (Sub.refl S).put n
end
/-- a comprehension that changes nothing -/
theorem lcl_pure {req : Store → Prop} {t : Tgt} {tt : WT} {te : WE} {g0 : Sg} {Q : List D → Store → Prop} {S : Store} (f : D → Bool) (e : D → D) (hr : req S) : ∀ (ds acc : List D),
    (∀ d ∈ ds, ∃ g', asg t d g0 = some g' ∧ (∀ k : Bool → Store → Prop, k (f d) S → tt g' S k) ∧ (f d = true → ∀ k : QE, k (e d) S → te g' S k)) → Q (acc ++ (ds.filter f).map e) S → lcl req t tt te g0 Q ds acc S
  | [], acc, _, q => ⟨hr, by simpa using q⟩
  | d :: ds, acc, h, q => by
    obtain ⟨g', e1, h1, h2⟩ := h d List.mem_cons_self
    refine ⟨hr, ?_⟩
    rw [e1, orF_some]
    refine h1 _ ?_
    cases hf : f d with
    | true =>
      rw [if_pos rfl]
      refine h2 hf _ (lcl_pure f e hr ds _ (fun x hx => h x (List.mem_cons_of_mem _ hx)) ?_)
      rw [List.filter_cons, if_pos hf] at q
      simpa using q
    | false =>
      rw [if_neg Bool.false_ne_true]
      refine lcl_pure f e hr ds _ (fun x hx => h x (List.mem_cons_of_mem _ hx)) ?_
      rw [List.filter_cons, if_neg (by rw [hf]; exact Bool.false_ne_true)] at q
      exact q
/-- a for loop, by what holds ahead of its turns -/
theorem fl_inv {req : Store → Prop} {t : Tgt} {wb : WS} {De : En} (I : Nat → Sg → Store → Prop) : ∀ (ds : List D) (i : Nat) (g : Sg) (S : Store), I i g S →
    (∀ (k : Nat) (d : D) (g : Sg) (S : Store) (N : Sg → Store → Prop), ds[k]? = some d → I (i + k) g S → (∀ g S, I (i + k + 1) g S → N g S) → req S ∧ ∃ g', asg t d g = some g' ∧ wb { nx := N, rt := De.rt, bk := De.nx, ct := N } g' S) →
    (∀ g S, I (i + ds.length) g S → req S ∧ De.nx g S) → fl req t wb De ds g S
  | [], i, g, S, h, _, fin => fin g S (by simpa using h)
  | d :: ds, i, g, S, h, st, fin => by
    obtain ⟨h1, g', e1, h2⟩ := st 0 d g S (fl req t wb De ds) rfl h fun g1 S1 h1 =>
      fl_inv I ds (i + 1) g1 S1 (by simpa using h1) (fun k d' g2 S2 N e hI hN => st (k + 1) d' g2 S2 N (by simpa using e) (by rw [show i + (k + 1) = i + 1 + k from by omega]; exact hI) fun g3 S3 h3 => hN g3 S3 (by rw [show i + 1 + k + 1 = i + (k + 1) + 1 from by omega]; exact h3))
        fun g2 S2 h2 => fin g2 S2 (by rw [show i + (d :: ds).length = i + 1 + ds.length from by simp; omega]; exact h2)
    refine ⟨h1, ?_⟩
    rw [e1, orF_some]
    exact h2
/-- a while loop, by what holds with at most n turns to come -/
theorem wl_inv {c : WT} {wb : WS} {De : En} (I : Nat → Sg → Store → Prop)
    (st : ∀ (n : Nat) (g : Sg) (S : Store) (N : Sg → Store → Prop), I n g S → (∀ m g S, m < n → I m g S → N g S) → c g S fun b S1 => if b = true then wb { nx := N, rt := De.rt, bk := De.nx, ct := N } g S1 else De.nx g S1) :
    ∀ (f n : Nat) (g : Sg) (S : Store), n < f → I n g S → wl c wb De f g S
  | 0, _, _, _, h, _ => absurd h (Nat.not_lt_zero _)
  | f + 1, n, g, S, h, hI => st n g S (wl c wb De f) hI fun m g' S' hm hI' => wl_inv I st f m g' S' (by omega) hI'
theorem while_inv {c : WT} {wb : WS} {De : En} (I : Nat → Sg → Store → Prop) {n : Nat} {g : Sg} {S : Store} (h : I n g S)
    (st : ∀ (n : Nat) (g : Sg) (S : Store) (N : Sg → Store → Prop), I n g S → (∀ m g S, m < n → I m g S → N g S) → c g S fun b S1 => if b = true then wb { nx := N, rt := De.rt, bk := De.nx, ct := N } g S1 else De.nx g S1) : wWhile c wb De g S :=
  ⟨n + 1, wl_inv I st (n + 1) n g S (Nat.lt_succ_self n) h⟩
/-! ## bits -/
theorem mulx {i j : Int} (a b : Nat) (h1 : i.natAbs < 2 ^ a) (h2 : j.natAbs < 2 ^ b) (h : a + b ≤ 134217728) : CMulX i j := by
  have x := PyProof.Rows.intBits_le h1
  have y := PyProof.Rows.intBits_le h2
  unfold CMulX
  omega
theorem divp {i j : Int} (h1 : 0 < j) (h2 : j < 1073741824) : CDivP i j := ⟨h1, PyProof.noPylong_small (by omega)⟩
end J
set_option Elab.async false
set_option linter.all false
set_option maxRecDepth 100000
set_option maxHeartbeats 4000000
namespace Lw
open PySem PySem.Spec L2 J
def top (i : Nat) : Stmt := PySem.Challenge.pw_turnsum_k26_whole_bars_bitten_to_the_end.main.body.getD i (.Pass ⟨0, 0, 0, 0⟩)
/-! ## what each def does, over data -/
def ct_BadPosition (y : String) : Option Bool := if ["BadPosition"].contains y then some true else none
abbrev s_law_mixed : Stmt := top 14
theorem sc__law_mixed : FnScope ["number", "place", "first", "second", "third"] ["number", "place"] (defScope s_law_mixed) := ⟨rfl, rfl, rfl, by decide +kernel, rfl, by decide +kernel, by decide +kernel⟩
def b_law_mixed (xd : XD) : WS := (wSq (wSet 2 (w2 kMod (wB kInt (wCons (w2 kAdd (w2 kAdd (w2 kMul (wVar 0) (wC (.int 410338673998125441398711))) (w2 kMul (wVar 1) (wC (.int 736418259301774563982039)))) (wC (.int 295075153872261839517363))) wNil)) (wC (.int 618970019642690137449562111))))
  (wSq (wSet 3 (w2 kMod (wB kInt (wCons (w2 kAdd (w2 kAdd (w2 kMul (wVar 2) (wVar 2)) (w2 kMul (wC (.int 7)) (wVar 2))) (wVar 1)) wNil)) (wC (.int 162259276829213363391578010288127))))
  (wSq (wSet 4 (w2 kMod (wB kInt (wCons (w2 kAdd (w2 kMul (wVar 3) (wVar 3)) (wVar 2)) wNil)) (wC (.int 618970019642690137449562111))))
  (wRet (w2 kAdd (w2 kMul (wVar 3) (wC (.int 618970019642690137449562111))) (wVar 4))))))
def W_law_mixed : CallW := wFn 5 b_law_mixed
abbrev s_law_rest : Stmt := top 15
theorem sc__law_rest : FnScope ["script", "place", "turns", "number"] ["script", "place", "turns"] (defScope s_law_rest) := ⟨rfl, rfl, rfl, by decide +kernel, rfl, by decide +kernel, by decide +kernel⟩
def b_law_rest (xd : XD) : WS := (wSq (wSet 3 (wC (.int 0)))
  (wSq (wIf (wTst (w2 kGt (wB kLen (wCons (wVar 0) wNil)) (wC (.int 0))))
  (wSet 3 (wB kInt (wCons (w2 kIx (wVar 0) (w2 kMod (wB kInt (wCons (wVar 1) wNil)) (wB kLen (wCons (wVar 0) wNil)))) wNil)))
  wNext)
  (wSq (wIf (wTst (w2 kLt (wVar 3) (wC (.int 0))))
  (wSet 3 (w2 kSub (wC (.int 1)) (w2 kMul (wC (.int 2)) (wVar 3))))
  wNext)
  (wSq (wIf (wAndT (wTst (w2 kEq (wVar 2) (wC (.int 0)))) (wAndT (wTst (w2 kLt (wVar 1) (wB kLen (wCons (wVar 0) wNil)))) (wTst (w2 kGe (wVar 3) (w2 kPow (wC (.int 10)) (wC (.int 18)))))))
  (wRet (w2 kSub (wVar 3) (w2 kPow (wC (.int 10)) (wC (.int 18)))))
  wNext)
  (wRet (wCall 2 W_law_mixed xd (wCons (w2 kAdd (wVar 3) (w2 kMul (wVar 2) (wC (.int 1000003)))) (wCons (wVar 1) wNil))))))))
def W_law_rest : CallW := wFn 4 b_law_rest
abbrev s_law_pool : Stmt := top 16
theorem sc__law_pool : FnScope ["script"] ["script"] (defScope s_law_pool) := ⟨rfl, rfl, rfl, by decide +kernel, rfl, by decide +kernel, by decide +kernel⟩
def b_law_pool (xd : XD) : WS := (wRet (wLstM (wCons (wVar 0) (wCons (wC (.int 0)) (wCons (wCall 3 W_law_rest xd (wCons (wVar 0) (wCons (wC (.int 0)) (wCons (wC (.int 0)) wNil)))) (wCons (wC (.int 0)) wNil))))))
def W_law_pool : CallW := wFn 1 b_law_pool
abbrev s_law_bites : Stmt := top 20
theorem sc__law_bites : FnScope ["rows", "found", "r", "c", "row", "size"] ["rows"] (defScope s_law_bites) := ⟨rfl, rfl, rfl, by decide +kernel, rfl, by decide +kernel, by decide +kernel⟩
def b_law_bites (xd : XD) : WS := (wSq (wSet 1 (wLstM wNil))
  (wSq (wFor (wRng1 (wCons (wB kLen (wCons (wVar 0) wNil)) wNil)) (.one 2)
  (wFor (wRng1 (wCons (w2 kIx (wVar 0) (wVar 2)) wNil)) (.one 3)
  (wIf (wTst (w2 kNe (wTup (wCons (wVar 2) (wCons (wVar 3) wNil))) (wTup (wCons (wC (.int 0)) (wCons (wC (.int 0)) wNil)))))
  (wSq (wSet 4 (w2 kAdd (wB kList (wCons (wSl (wVar 0) wNoP (wPart (wVar 2))) wNil)) (wLc (wSeq (wSl (wVar 0) (wPart (wVar 2)) wNoP)) (.one 5) wYes (wB kMin2 (wCons (wVar 5) (wCons (wVar 3) wNil))) (List.map (·.2) [(("size" : Str), 5)]))))
  (wDrop (wMt kAppend (wVar 1) (wCons (wB kTuple (wCons (wLc (wSeq (wVar 4)) (.one 5) (wTst (w2 kGt (wVar 5) (wC (.int 0)))) (wVar 5) (List.map (·.2) [(("size" : Str), 5)])) wNil)) wNil))))
  wNext)))
  (wRet (w1 kSortSet (wVar 1)))))
def W_law_bites : CallW := wFn 6 b_law_bites
abbrev s_law_turned : Stmt := top 22
theorem sc__law_turned : FnScope ["rows", "c", "size"] ["rows"] (defScope s_law_turned) := ⟨rfl, rfl, rfl, by decide +kernel, rfl, by decide +kernel, by decide +kernel⟩
def b_law_turned (xd : XD) : WS := (wRet (wB kTuple (wCons (wLc (wRng1 (wCons (w2 kIx (wVar 0) (wC (.int 0))) wNil)) (.one 1) wYes (wB kLen (wCons (wLc (wSeq (wVar 0)) (.one 2) (wTst (w2 kGt (wVar 2) (wVar 1))) (wVar 2) (List.map (·.2) [(("size" : Str), 2)])) wNil)) (List.map (·.2) [(("c" : Str), 1)])) wNil)))
def W_law_turned : CallW := wFn 3 b_law_turned
abbrev s_law_next : Stmt := top 17
theorem sc__law_next : FnScope ["pool"] ["pool"] (defScope s_law_next) := ⟨rfl, rfl, rfl, by decide +kernel, rfl, by decide +kernel, by decide +kernel⟩
def b_law_next (xd : XD) : WS := (wSq (wSub (wVar 0) (wC (.int 1)) (w2 kAdd (w2 kIx (wVar 0) (wC (.int 1))) (wC (.int 1))))
  (wSq (wSub (wVar 0) (wC (.int 2)) (wCall 3 W_law_rest xd (wCons (w2 kIx (wVar 0) (wC (.int 0))) (wCons (w2 kIx (wVar 0) (wC (.int 1))) (wCons (wC (.int 0)) wNil)))))
  (wSub (wVar 0) (wC (.int 3)) (wC (.int 0)))))
def W_law_next : CallW := wFn 1 b_law_next
abbrev s_law_draw : Stmt := top 18
theorem sc__law_draw : FnScope ["pool", "limit", "value"] ["pool", "limit"] (defScope s_law_draw) := ⟨rfl, rfl, rfl, by decide +kernel, rfl, by decide +kernel, by decide +kernel⟩
def b_law_draw (xd : XD) : WS := (wSq (wIf (wTst (w2 kLe (w2 kIx (wVar 0) (wC (.int 2))) (wC (.int 1))))
  (wSq (wSub (wVar 0) (wC (.int 3)) (w2 kAdd (w2 kIx (wVar 0) (wC (.int 3))) (wC (.int 1))))
  (wSub (wVar 0) (wC (.int 2)) (wCall 3 W_law_rest xd (wCons (w2 kIx (wVar 0) (wC (.int 0))) (wCons (w2 kIx (wVar 0) (wC (.int 1))) (wCons (w2 kIx (wVar 0) (wC (.int 3))) wNil))))))
  wNext)
  (wSq (wSet 2 (w2 kMod (wB kInt (wCons (w2 kIx (wVar 0) (wC (.int 2))) wNil)) (wVar 1)))
  (wSq (wSub (wVar 0) (wC (.int 2)) (w2 kFdiv (wB kInt (wCons (w2 kIx (wVar 0) (wC (.int 2))) wNil)) (wVar 1)))
  (wRet (wVar 2)))))
def W_law_draw : CallW := wFn 3 b_law_draw
abbrev s_law_same : Stmt := top 19
theorem sc__law_same : FnScope ["answer", "due", "key", "k"] ["answer", "due"] (defScope s_law_same) := ⟨rfl, rfl, rfl, by decide +kernel, rfl, by decide +kernel, by decide +kernel⟩
def b_law_same (Wr : CallW) (xd : XD) : WS := (wSq (wIf (wTst (w1 (kIsa "dict") (wVar 1)))
  (wSq (wIf (wOrT (wNotT (wTst (w1 (kIsa "dict") (wVar 0)))) (wTst (w2 kNe (wB kLen (wCons (wVar 0) wNil)) (wB kLen (wCons (wVar 1) wNil)))))
  (wRet (wC (.bl false)))
  wNext)
  (wRet (wB kAll (wCons (wLc (wSeq (wVar 1)) (.one 2) wYes (wAndV (w2 (kInB false) (wVar 2) (wVar 0)) (wCall 2 Wr xd0 (wCons (w2 kIx (wVar 0) (wVar 2)) (wCons (w2 kIx (wVar 1) (wVar 2)) wNil)))) (List.map (·.2) [(("key" : Str), 2)])) wNil))))
  wNext)
  (wSq (wIf (wOrT (wTst (w1 (kIsa "list") (wVar 1))) (wTst (w1 (kIsa "tuple") (wVar 1))))
  (wSq (wIf (wOrT (wTst (w2 kNe (w1 (kIsa "list") (wVar 1)) (w1 (kIsa "list") (wVar 0)))) (wTst (w2 kNe (w1 (kIsa "tuple") (wVar 1)) (w1 (kIsa "tuple") (wVar 0)))))
  (wRet (wC (.bl false)))
  wNext)
  (wRet (wAndV (w2 kEq (wB kLen (wCons (wVar 0) wNil)) (wB kLen (wCons (wVar 1) wNil))) (wB kAll (wCons (wLc (wRng1 (wCons (wB kLen (wCons (wVar 1) wNil)) wNil)) (.one 3) wYes (wCall 2 Wr xd0 (wCons (w2 kIx (wVar 0) (wVar 3)) (wCons (w2 kIx (wVar 1) (wVar 3)) wNil))) (List.map (·.2) [(("k" : Str), 3)])) wNil)))))
  wNext)
  (wSq (wIf (wTst (w1 (kIsa "str") (wVar 1)))
  (wRet (wAndV (w1 (kIsa "str") (wVar 0)) (w2 kEq (wVar 0) (wVar 1))))
  wNext)
  (wSq (wIf (wOrT (wTst (w2 (kIsB false) (wVar 1) (wC .non))) (wOrT (wTst (w2 (kIsB false) (wVar 1) (wC (.bl true)))) (wTst (w2 (kIsB false) (wVar 1) (wC (.bl false))))))
  (wRet (wOrV (wAndV (w2 (kIsB false) (wVar 1) (wC .non)) (w2 (kIsB false) (wVar 0) (wC .non))) (wOrV (wAndV (w2 (kIsB false) (wVar 1) (wC (.bl true))) (w2 (kIsB false) (wVar 0) (wC (.bl true)))) (wAndV (w2 (kIsB false) (wVar 1) (wC (.bl false))) (w2 (kIsB false) (wVar 0) (wC (.bl false)))))))
  wNext)
  (wRet (wAndV (w1 (kIsa "int") (wVar 0)) (wAndV (wNotV (w1 (kIsa "bool") (wVar 0))) (w2 kEq (wVar 0) (wVar 1)))))))))
def W_law_same : Nat → CallW
  | 0 => fun _ _ _ _ => False
  | n + 1 => wFn 4 (b_law_same (W_law_same n))
abbrev s_law_lost : Stmt := top 21
theorem sc__law_lost : FnScope ["rows", "known", "one"] ["rows", "known"] (defScope s_law_lost) := ⟨rfl, rfl, rfl, by decide +kernel, rfl, by decide +kernel, by decide +kernel⟩
def b_law_lost (Wr : CallW) (xd : XD) : WS := (wSq (wIf (wTst (w2 (kInB true) (wVar 0) (wVar 1)))
  (wSub (wVar 1) (wVar 0) (w2 kEq (wLc (wSeq (wCall 1 W_law_bites xd (wCons (wVar 0) wNil))) (.one 2) (wTst (wCall 2 Wr xd0 (wCons (wVar 2) (wCons (wVar 1) wNil)))) (wVar 2) (List.map (·.2) [(("one" : Str), 2)])) (wLst wNil)))
  wNext)
  (wRet (w2 kIx (wVar 1) (wVar 0))))
def W_law_lost : Nat → CallW
  | 0 => fun _ _ _ _ => False
  | n + 1 => wFn 3 (b_law_lost (W_law_lost n))
abbrev stwo_rows_lose : Stmt := top 10
theorem sc_two_rows_lose : FnScope ["low", "high"] ["low", "high"] (defScope stwo_rows_lose) := ⟨rfl, rfl, rfl, by decide +kernel, rfl, by decide +kernel, by decide +kernel⟩
def btwo_rows_lose (xd : XD) : WS := (wSq (wIf (wTst (w2 kEq (wVar 1) (wC (.int 0))))
  (wRet (w2 kEq (wVar 0) (wC (.int 1))))
  wNext)
  (wRet (w2 kEq (wVar 0) (w2 kAdd (wVar 1) (wC (.int 1))))))
def Wtwo_rows_lose : CallW := wFn 2 btwo_rows_lose
abbrev sneed_bar : Stmt := top 6
theorem sc_need_bar : FnScope ["rows", "k"] ["rows"] (defScope sneed_bar) := ⟨rfl, rfl, rfl, by decide +kernel, rfl, by decide +kernel, by decide +kernel⟩
def bneed_bar (xd : XD) : WS := (wSq (wIf (wOrT (wNotT (wTst (wChn kLe kLe (wC (.int 1)) (wB kLen (wCons (wVar 0) wNil)) (wC (.int 6))))) (wOrT (wTst (w2 kGt (wB kSum (wCons (wVar 0) wNil)) (wC (.int 40)))) (wTst (w2 kLt (w2 kIx (wVar 0) (w1 kNeg (wC (.int 1)))) (wC (.int 1))))))
  (wRaise xd "BadPosition")
  wNext)
  (wIf (wNotT (wTst (wB kAll (wCons (wLc (wRng1 (wCons (w2 kSub (wB kLen (wCons (wVar 0) wNil)) (wC (.int 1))) wNil)) (.one 1) wYes (w2 kGe (w2 kIx (wVar 0) (wVar 1)) (w2 kIx (wVar 0) (w2 kAdd (wVar 1) (wC (.int 1))))) (List.map (·.2) [(("k" : Str), 1)])) wNil))))
  (wRaise xd "BadPosition")
  wNext))
def Wneed_bar : CallW := wFn 2 bneed_bar
abbrev sbites : Stmt := top 7
theorem sc_bites : FnScope ["rows", "found", "row", "column", "left", "length"] ["rows"] (defScope sbites) := ⟨rfl, rfl, rfl, by decide +kernel, rfl, by decide +kernel, by decide +kernel⟩
def bbites (xd : XD) : WS := (wSq (wDrop (wCall 1 Wneed_bar xd (wCons (wVar 0) wNil)))
  (wSq (wSet 1 (wLstM wNil))
  (wSq (wFor (wRng1 (wCons (wB kLen (wCons (wVar 0) wNil)) wNil)) (.one 2)
  (wFor (wRng1 (wCons (w2 kIx (wVar 0) (wVar 2)) wNil)) (.one 3)
  (wIf (wTst (w2 kGt (w2 kAdd (wVar 2) (wVar 3)) (wC (.int 0))))
  (wSq (wSet 4 (w2 kAdd (wB kTuple (wCons (wSl (wVar 0) wNoP (wPart (wVar 2))) wNil)) (wB kTuple (wCons (wLc (wSeq (wSl (wVar 0) (wPart (wVar 2)) wNoP)) (.one 5) wYes (wB kMin2 (wCons (wVar 5) (wCons (wVar 3) wNil))) (List.map (·.2) [(("length" : Str), 5)])) wNil))))
  (wDrop (wMt kAppend (wVar 1) (wCons (wB kTuple (wCons (wLc (wSeq (wVar 4)) (.one 5) (wTst (w2 kGt (wVar 5) (wC (.int 0)))) (wVar 5) (List.map (·.2) [(("length" : Str), 5)])) wNil)) wNil))))
  wNext)))
  (wRet (w1 kSortSet (wVar 1))))))
def Wbites : CallW := wFn 6 bbites
abbrev sloses : Stmt := top 8
theorem sc_loses : FnScope ["rows", "known", "waiting", "one", "options", "missing", "option"] ["rows"] (defScope sloses) := ⟨rfl, rfl, rfl, by decide +kernel, rfl, by decide +kernel, by decide +kernel⟩
def bloses (xd : XD) : WS := (wSq (wDrop (wCall 1 Wneed_bar xd (wCons (wVar 0) wNil)))
  (wSq (wSet 1 wDcT)
  (wSq (wSet 2 (wLstM (wCons (wB kTuple (wCons (wVar 0) wNil)) wNil)))
  (wSq (wWhile (wTst (w2 kGt (wB kLen (wCons (wVar 2) wNil)) (wC (.int 0))))
  (wSq (wSet 3 (w2 kIx (wVar 2) (w1 kNeg (wC (.int 1)))))
  (wSq (wSet 4 (wCall 1 Wbites xd (wCons (wVar 3) wNil)))
  (wSq (wSet 5 (wLc (wSeq (wVar 4)) (.one 6) (wTst (w2 (kInB true) (wVar 6) (wVar 1))) (wVar 6) (List.map (·.2) [(("option" : Str), 6)])))
  (wIf (wTst (w2 (kInB false) (wVar 3) (wVar 1)))
  (wDrop (wMt0 kPop (wVar 2)))
  (wIf (wTst (w2 kGt (wB kLen (wCons (wVar 5) wNil)) (wC (.int 0))))
  (wDrop (wMt kAppend (wVar 2) (wCons (w2 kIx (wVar 5) (wC (.int 0))) wNil)))
  (wSub (wVar 1) (wVar 3) (wNotV (wB kAny (wCons (wLc (wSeq (wVar 4)) (.one 6) wYes (w2 kIx (wVar 1) (wVar 6)) (List.map (·.2) [(("option" : Str), 6)])) wNil))))))))))
  (wRet (w2 kIx (wVar 1) (wB kTuple (wCons (wVar 0) wNil))))))))
def Wloses : CallW := wFn 7 bloses
abbrev sgood_bites : Stmt := top 9
theorem sc_good_bites : FnScope ["rows", "left"] ["rows"] (defScope sgood_bites) := ⟨rfl, rfl, rfl, by decide +kernel, rfl, by decide +kernel, by decide +kernel⟩
def bgood_bites (xd : XD) : WS := (wRet (wLc (wSeq (wCall 1 Wbites xd (wCons (wVar 0) wNil))) (.one 1) (wTst (wCall 1 Wloses xd0 (wCons (wVar 1) wNil))) (wVar 1) (List.map (·.2) [(("left" : Str), 1)])))
def Wgood_bites : CallW := wFn 2 bgood_bites
abbrev smirrored : Stmt := top 12
theorem sc_mirrored : FnScope ["rows", "column", "length"] ["rows"] (defScope smirrored) := ⟨rfl, rfl, rfl, by decide +kernel, rfl, by decide +kernel, by decide +kernel⟩
def bmirrored (xd : XD) : WS := (wSq (wDrop (wCall 1 Wneed_bar xd (wCons (wVar 0) wNil)))
  (wRet (wB kTuple (wCons (wLc (wRng1 (wCons (w2 kIx (wVar 0) (wC (.int 0))) wNil)) (.one 1) wYes (wB kLen (wCons (wLc (wSeq (wVar 0)) (.one 2) (wTst (w2 kGt (wVar 2) (wVar 1))) (wC (.int 1)) (List.map (·.2) [(("length" : Str), 2)])) wNil)) (List.map (·.2) [(("column" : Str), 1)])) wNil))))
def Wmirrored : CallW := wFn 3 bmirrored
abbrev ssquare_answer : Stmt := top 11
theorem sc_square_answer : FnScope ["rows", "length"] ["rows"] (defScope ssquare_answer) := ⟨rfl, rfl, rfl, by decide +kernel, rfl, by decide +kernel, by decide +kernel⟩
def bsquare_answer (xd : XD) : WS := (wSq (wDrop (wCall 1 Wneed_bar xd (wCons (wVar 0) wNil)))
  (wSq (wIf (wOrT (wTst (w2 kLt (wB kLen (wCons (wVar 0) wNil)) (wC (.int 2)))) (wTst (wB kAny (wCons (wLc (wSeq (wVar 0)) (.one 1) wYes (w2 kNe (wVar 1) (wB kLen (wCons (wVar 0) wNil))) (List.map (·.2) [(("length" : Str), 1)])) wNil))))
  (wRet (wC .non))
  wNext)
  (wRet (w2 kAdd (wTup (wCons (wB kLen (wCons (wVar 0) wNil)) wNil)) (w2 kMulT (wTup (wCons (wC (.int 1)) wNil)) (w2 kSub (wB kLen (wCons (wVar 0) wNil)) (wC (.int 1))))))))
def Wsquare_answer : CallW := wFn 2 bsquare_answer
abbrev slaw : Stmt := top 23
theorem sc_law : FnScope ["script", "pool", "k", "rows", "known", "bites_told", "good", "turned", "n", "low", "high", "bar", "far", "refused", "wrong", "most", "one"] ["script"] (defScope slaw) := ⟨rfl, rfl, rfl, by decide +kernel, rfl, by decide +kernel, by decide +kernel⟩
def blaw (xd : XD) : WS := (wSq (wSet 1 (wCall 1 W_law_pool xd (wCons (wVar 0) wNil)))
  (wSq (wPar 3 15 (wCons (wLstM wNil) (wCons (wC (.int 5)) wNil)))
  (wSq (wFor (wRng1 (wCons (w2 kAdd (wC (.int 1)) (wCall 2 W_law_draw xd (wCons (wVar 1) (wCons (wC (.int 4)) wNil)))) wNil)) (.one 2)
  (wSq (wSet 15 (w2 kAdd (wC (.int 1)) (wCall 2 W_law_draw xd (wCons (wVar 1) (wCons (wVar 15) wNil)))))
  (wDrop (wMt kAppend (wVar 3) (wCons (wVar 15) wNil)))))
  (wSq (wSet 3 (wB kTuple (wCons (wVar 3) wNil)))
  (wSq (wSet 4 wDcT)
  (wSq (wSet 5 (wCall 1 W_law_bites xd (wCons (wVar 3) wNil)))
  (wSq (wSet 6 (wLc (wSeq (wVar 5)) (.one 16) (wTst (wCall 2 (W_law_lost 40) xd0 (wCons (wVar 16) (wCons (wVar 4) wNil)))) (wVar 16) (List.map (·.2) [(("one" : Str), 16)])))
  (wSq (wIf (wNotT (wTst (wCall 2 (W_law_same 8) xd (wCons (wLst (wCons (wCall 1 Wbites xd (wCons (wVar 3) wNil)) (wCons (wCall 1 Wloses xd (wCons (wVar 3) wNil)) (wCons (wCall 1 Wgood_bites xd (wCons (wVar 3) wNil)) wNil)))) (wCons (wLst (wCons (wVar 5) (wCons (w2 kEq (wVar 6) (wLst wNil)) (wCons (wVar 6) wNil)))) wNil)))))
  (wRet (wC (.bl false)))
  wNext)
  (wSq (wSet 7 (wCall 1 W_law_turned xd (wCons (wVar 3) wNil)))
  (wSq (wIf (wNotT (wTst (wCall 2 (W_law_same 8) xd (wCons (wLst (wCons (wCall 1 Wmirrored xd (wCons (wVar 3) wNil)) (wCons (wCall 1 Wmirrored xd (wCons (wVar 7) wNil)) (wCons (wCall 1 Wloses xd (wCons (wVar 7) wNil)) wNil)))) (wCons (wLst (wCons (wVar 7) (wCons (wVar 3) (wCons (w2 kEq (wVar 6) (wLst wNil)) wNil)))) wNil)))))
  (wRet (wC (.bl false)))
  wNext)
  (wSq (wIf (wAndT (wTst (w2 kEq (wVar 6) (wLst wNil))) (wAndT (wTst (w2 kNe (wVar 3) (wTup (wCons (wC (.int 1)) wNil)))) (wOrT (wTst (w2 kEq (wB kLen (wCons (wVar 3) wNil)) (wC (.int 1)))) (wTst (w2 kEq (wVar 7) (w2 kMulT (wTup (wCons (wC (.int 1)) wNil)) (w2 kIx (wVar 3) (wC (.int 0)))))))))
  (wRet (wC (.bl false)))
  wNext)
  (wSq (wSet 8 (w2 kAdd (wC (.int 2)) (wCall 2 W_law_draw xd (wCons (wVar 1) (wCons (wC (.int 4)) wNil)))))
  (wSq (wIf (wOrT (wNotT (wTst (wCall 2 (W_law_same 8) xd (wCons (wCall 1 Wsquare_answer xd (wCons (w2 kMulT (wTup (wCons (wVar 8) wNil)) (wVar 8)) wNil)) (wCons (w2 kAdd (wTup (wCons (wVar 8) wNil)) (w2 kMulT (wTup (wCons (wC (.int 1)) wNil)) (w2 kSub (wVar 8) (wC (.int 1))))) wNil))))) (wAndT (wTst (w2 kGt (w1 kLenSet (w2 kAdd (wVar 3) (wTup (wCons (wB kLen (wCons (wVar 3) wNil)) wNil)))) (wC (.int 1)))) (wTst (w2 (kIsB true) (wCall 1 Wsquare_answer xd (wCons (wVar 3) wNil)) (wC .non)))))
  (wRet (wC (.bl false)))
  wNext)
  (wSq (wIf (wNotT (wTst (wCall 2 (W_law_lost 40) xd (wCons (w2 kAdd (wTup (wCons (wVar 8) wNil)) (w2 kMulT (wTup (wCons (wC (.int 1)) wNil)) (w2 kSub (wVar 8) (wC (.int 1))))) (wCons (wVar 4) wNil)))))
  (wRet (wC (.bl false)))
  wNext)
  (wSq (wDrop (wCall 1 W_law_next xd (wCons (wVar 1) wNil)))
  (wSq (wSet 9 (w2 kAdd (wC (.int 1)) (wCall 2 W_law_draw xd (wCons (wVar 1) (wCons (wC (.int 6)) wNil)))))
  (wSq (wSet 10 (wCall 2 W_law_draw xd (wCons (wVar 1) (wCons (w2 kAdd (wVar 9) (wC (.int 1))) wNil))))
  (wSq (wSet 11 (wIfE (wTst (w2 kGt (wVar 10) (wC (.int 0)))) (wTup (wCons (wVar 9) (wCons (wVar 10) wNil))) (wTup (wCons (wVar 9) wNil))))
  (wSq (wIf (wNotT (wTst (wCall 2 (W_law_same 8) xd (wCons (wCall 2 Wtwo_rows_lose xd (wCons (wVar 9) (wCons (wVar 10) wNil))) (wCons (wCall 2 (W_law_lost 40) xd (wCons (wVar 11) (wCons (wVar 4) wNil))) wNil)))))
  (wRet (wC (.bl false)))
  wNext)
  (wSq (wSet 12 (w2 kAdd (wC (.int 1)) (wCall 2 W_law_draw xd (wCons (wVar 1) (wCons (w2 kPow (wC (.int 10)) (wC (.int 9))) wNil)))))
  (wSq (wIf (wNotT (wTst (wCall 2 (W_law_same 8) xd (wCons (wLst (wCons (wCall 2 Wtwo_rows_lose xd (wCons (w2 kAdd (wVar 12) (wC (.int 1))) (wCons (wVar 12) wNil))) (wCons (wCall 2 Wtwo_rows_lose xd (wCons (w2 kAdd (wVar 12) (wC (.int 1))) (wCons (w2 kAdd (wVar 12) (wC (.int 1))) wNil))) (wCons (wCall 2 Wtwo_rows_lose xd (wCons (w2 kAdd (wVar 12) (wC (.int 2))) (wCons (wVar 12) wNil))) wNil)))) (wCons (wLst (wCons (wC (.bl true)) (wCons (wC (.bl false)) (wCons (wC (.bl false)) wNil)))) wNil)))))
  (wRet (wC (.bl false)))
  wNext)
  (wSq (wSet 13 (wC (.int 0)))
  (wSq (wFor (wSeq (wLst (wCons (wTup wNil) (wCons (wTup (wCons (wC (.int 2)) (wCons (wC (.int 3)) wNil))) (wCons (wTup (wCons (wC (.int 0)) wNil)) (wCons (w2 kMulT (wTup (wCons (wC (.int 7)) wNil)) (wC (.int 7))) wNil)))))) (.one 14)
  (wTry ct_BadPosition (fun xd => (wDrop (wCall 1 Wloses xd (wCons (wVar 14) wNil)))) (wSet 13 (w2 kAdd (wVar 13) (wC (.int 1)))) xd))
  (wRet (w2 kEq (wVar 13) (wC (.int 4)))))))))))))))))))))))))))
def Wlaw : CallW := wFn 17 blaw
/-! ## the text behind the top -/
structure Tx (K : PySem.W.Frag) (mg : Str → Option Value) (of : String → Addr) where
  a_law_mixed : Addr
  fd_law_mixed : FuncData
  d_law_mixed : Df K mg "_law_mixed" s_law_mixed ["number", "place"] a_law_mixed fd_law_mixed
  a_law_rest : Addr
  fd_law_rest : FuncData
  d_law_rest : Df K mg "_law_rest" s_law_rest ["script", "place", "turns"] a_law_rest fd_law_rest
  a_law_pool : Addr
  fd_law_pool : FuncData
  d_law_pool : Df K mg "_law_pool" s_law_pool ["script"] a_law_pool fd_law_pool
  a_law_bites : Addr
  fd_law_bites : FuncData
  d_law_bites : Df K mg "_law_bites" s_law_bites ["rows"] a_law_bites fd_law_bites
  a_law_turned : Addr
  fd_law_turned : FuncData
  d_law_turned : Df K mg "_law_turned" s_law_turned ["rows"] a_law_turned fd_law_turned
  a_law_next : Addr
  fd_law_next : FuncData
  d_law_next : Df K mg "_law_next" s_law_next ["pool"] a_law_next fd_law_next
  a_law_draw : Addr
  fd_law_draw : FuncData
  d_law_draw : Df K mg "_law_draw" s_law_draw ["pool", "limit"] a_law_draw fd_law_draw
  a_law_same : Addr
  fd_law_same : FuncData
  d_law_same : Df K mg "_law_same" s_law_same ["answer", "due"] a_law_same fd_law_same
  a_law_lost : Addr
  fd_law_lost : FuncData
  d_law_lost : Df K mg "_law_lost" s_law_lost ["rows", "known"] a_law_lost fd_law_lost
  atwo_rows_lose : Addr
  fdtwo_rows_lose : FuncData
  dtwo_rows_lose : Df K mg "two_rows_lose" stwo_rows_lose ["low", "high"] atwo_rows_lose fdtwo_rows_lose
  aneed_bar : Addr
  fdneed_bar : FuncData
  dneed_bar : Df K mg "need_bar" sneed_bar ["rows"] aneed_bar fdneed_bar
  abites : Addr
  fdbites : FuncData
  dbites : Df K mg "bites" sbites ["rows"] abites fdbites
  aloses : Addr
  fdloses : FuncData
  dloses : Df K mg "loses" sloses ["rows"] aloses fdloses
  agood_bites : Addr
  fdgood_bites : FuncData
  dgood_bites : Df K mg "good_bites" sgood_bites ["rows"] agood_bites fdgood_bites
  amirrored : Addr
  fdmirrored : FuncData
  dmirrored : Df K mg "mirrored" smirrored ["rows"] amirrored fdmirrored
  asquare_answer : Addr
  fdsquare_answer : FuncData
  dsquare_answer : Df K mg "square_answer" ssquare_answer ["rows"] asquare_answer fdsquare_answer
  alaw : Addr
  fdlaw : FuncData
  dlaw : Df K mg "law" slaw ["script"] alaw fdlaw
  m_all : mg "all" = none
  m_any : mg "any" = none
  m_bool : mg "bool" = none
  m_dict : mg "dict" = none
  m_int : mg "int" = none
  m_isinstance : mg "isinstance" = none
  m_len : mg "len" = none
  m_list : mg "list" = none
  m_min : mg "min" = none
  m_range : mg "range" = none
  m_set : mg "set" = none
  m_sorted : mg "sorted" = none
  m_str : mg "str" = none
  m_sum : mg "sum" = none
  m_tuple : mg "tuple" = none
  c_ROWS_MOST : ∃ t, mg "ROWS_MOST" = some (.int 6 t)
  c_SQUARES_MOST : ∃ t, mg "SQUARES_MOST" = some (.int 40 t)
  e_BadPosition : OwnK K mg (of "BadPosition") "BadPosition"
  x_BadPosition : ∀ y b, ct_BadPosition y = some b → PySem.W.exmOne K (.ref (of y)) (.ref (of "BadPosition")) = some b
end Lw
set_option Elab.async false
set_option linter.all false
set_option maxRecDepth 100000
set_option maxHeartbeats 2000000
namespace Lw
open PySem PySem.Spec L2 J
/-! ## the draws -/
theorem modlt (a m : Int) (b : Nat) (hm : 0 < m) (hb : m.natAbs ≤ 2 ^ b) : (a % m).natAbs < 2 ^ b := by
  have h1 := Int.emod_nonneg a (Int.ne_of_gt hm)
  have h2 := Int.emod_lt_of_pos a hm
  omega
def NB : Nat := 2 ^ 2000000
theorem mulNB {i j : Int} (h1 : i.natAbs < NB) (h2 : j.natAbs < 2 ^ 90) : CMulX i j := mulx 2000000 90 h1 h2 (by decide)
theorem mulNB2 {i j : Int} (h1 : i.natAbs < 2 ^ 90) (h2 : j.natAbs < NB) : CMulX i j := mulx 90 2000000 h1 h2 (by decide)
theorem mixed_sem (n p : Int) (S : Store) (Q : QE) (E : String → Store → Prop) (hn : n.natAbs < NB) (hp : p.natAbs < 2 ^ 64) (h : ∀ v, Q (.int v) S) : W_law_mixed [.int n, .int p] S Q E := by
  unfold W_law_mixed b_law_mixed
  simp only [wFn, startD, wSq, wSet, wVar, getS, wC, w2, w1, eTup, eLst, eLstM, wCons, wNil, wIf, wTst, wRet, wRetN, wDrop, wB, wNext, kB_b, orF_some, orF_none, kI0_ii, kIC_ii, kAdd_ii, kAdd_tt, kAdd_ll, kMul_ii, kMulT_ti, kInt_i, kMin2_ii, kMax2_ii, kLen_l, kLen_t, kLen_s, kIx_l, kIx_t, kIx_s, kTuple_l, kTuple_t, kList_l, kList_t, kSl_t, kSl_l, kEq_ii, kNe_ii, kLt, kLe, kGt, kGe, kSub, kMod, kFdiv, kPow, kIx_p, kLen_p, kAppend_p, kSetI_p, at4_0, at4_1, at4_2, at4_3, ix4_0, ix4_1, ix4_2, ix4_3, wAndT, wOrT, wNotT, wAndV, wOrV, wNotV, wIfE, wCall, wSub, wPar, wChn, wRaise, wSl, wPart, wNoP, wBrk, wCnt, List.map_cons, List.map_nil, List.length_cons, List.length_nil, List.cons_append, List.nil_append, List.getElem?_cons_zero, List.getElem?_cons_succ, List.set_cons_zero, List.set_cons_succ, Option.join_some, Option.join_none, List.replicate_succ, List.replicate_zero, Nat.reduceAdd, Nat.reduceSub, Nat.sub_zero]
  have f : ∀ a : Int, (a % 618970019642690137449562111).natAbs < 2 ^ 90 := fun a => modlt a _ 90 (by decide) (by decide +kernel)
  have s : ∀ a : Int, (a % 162259276829213363391578010288127).natAbs < 2 ^ 110 := fun a => modlt a _ 110 (by decide) (by decide +kernel)
  refine ⟨mulNB hn (by decide +kernel), mulx 64 90 hp (by decide +kernel) (by decide), by decide, mulx 90 90 (f _) (f _) (by decide), mulx 3 90 (by decide) (f _) (by decide), by decide, mulx 110 110 (s _) (s _) (by decide), by decide, mulx 110 90 (s _) (by decide +kernel) (by decide), Rt.same (h _)⟩
theorem atI_nn {α : Type} {l : List α} {i : Int} (h0 : 0 ≤ i) (h1 : i < l.length) : ∃ x, atI l i = some x ∧ x ∈ l := by
  have hlt : i.toNat < l.length := by omega
  refine ⟨l[i.toNat], ?_, List.getElem_mem hlt⟩
  unfold atI ixN
  rw [if_pos h0, if_pos h1]
  exact List.getElem?_eq_getElem hlt
/-- a script that may be asked -/
def ScrOk (ns : List Int) : Prop := ns.length ≤ 63 ∧ ∀ z ∈ ns, Builtin.Int.intBits z ≤ 1048576
theorem bits_nat {z : Int} {m : Nat} (h : Builtin.Int.intBits z ≤ m) : z.natAbs < 2 ^ m := PySem.intBits_le_iff.mp h
theorem big : ∃ M : Nat, (∀ z : Int, Builtin.Int.intBits z ≤ 1048576 → z.natAbs < M) ∧ 2 ^ 64 ≤ M ∧ ∀ z : Int, z.natAbs < 16 * M → z.natAbs < NB := by
  refine ⟨2 ^ 1048576, fun z h => bits_nat h, Nat.pow_le_pow_right (by decide) (by decide), fun z hz => Nat.lt_of_lt_of_le hz ?_⟩
  have e : (16 : Nat) = 2 ^ 4 := by decide
  unfold NB
  rw [e, ← Nat.pow_add]
  exact Nat.pow_le_pow_right (by decide) (by decide)
theorem rest_sem (ns : List Int) (i t : Int) (S : Store) (Q : QE) (E : String → Store → Prop) (hns : ScrOk ns) (hi : 0 ≤ i ∧ i < 1000000) (ht : 0 ≤ t ∧ t < 1000000) (h : ∀ v, Q (.int v) S) : W_law_rest [.scr ns, .int i, .int t] S Q E := by
  obtain ⟨M, M0, M1, M2⟩ := big
  have hi64 : i.natAbs < 2 ^ 64 := by omega
  have cp : CPow 10 18 := ⟨by decide, by decide, by decide⟩
  have ct : CMulX t 1000003 := mulx 64 64 (by omega) (by decide) (by decide)
  have mx : ∀ d : Int, d.natAbs ≤ 1 + 2 * M → W_law_mixed [.int (d + t * 1000003), .int i] S (Rt Q) (fun x S' => Et E x S') := fun d hd =>
    mixed_sem _ _ S _ _ (M2 _ (by omega)) hi64 fun v => Rt.same (h v)
  have al : ∀ d : Int, d.natAbs < M → CMulX 2 d := fun d hd => mulNB2 (by decide) (M2 _ (by omega))
  unfold W_law_rest b_law_rest
  simp only [wFn, startD, wSq, wSet, wVar, getS, wC, w2, w1, eTup, eLst, eLstM, wCons, wNil, wIf, wTst, wRet, wRetN, wDrop, wB, wNext, kB_b, orF_some, orF_none, kI0_ii, kIC_ii, kAdd_ii, kAdd_tt, kAdd_ll, kMul_ii, kMulT_ti, kInt_i, kMin2_ii, kMax2_ii, kLen_l, kLen_t, kLen_s, kIx_l, kIx_t, kIx_s, kTuple_l, kTuple_t, kList_l, kList_t, kSl_t, kSl_l, kEq_ii, kNe_ii, kLt, kLe, kGt, kGe, kSub, kMod, kFdiv, kPow, kIx_p, kLen_p, kAppend_p, kSetI_p, at4_0, at4_1, at4_2, at4_3, ix4_0, ix4_1, ix4_2, ix4_3, wAndT, wOrT, wNotT, wAndV, wOrV, wNotV, wIfE, wCall, wSub, wPar, wChn, wRaise, wSl, wPart, wNoP, wBrk, wCnt, List.map_cons, List.map_nil, List.length_cons, List.length_nil, List.cons_append, List.nil_append, List.getElem?_cons_zero, List.getElem?_cons_succ, List.set_cons_zero, List.set_cons_succ, Option.join_some, Option.join_none, List.replicate_succ, List.replicate_zero, Nat.reduceAdd, Nat.reduceSub, Nat.sub_zero]
  have r1 := fun v => Rt.same (S := S) (h v)
  have aux : ∀ x : Int, x.natAbs ≤ 1 + 2 * M → (if (t == 0) = true then (if decide (i < (ns.length : Int)) = true then CPow 10 18 ∧ (if decide (10 ^ Int.toNat 18 ≤ x) = true then CPow 10 18 ∧ Rt Q (D.int (x - 10 ^ Int.toNat 18)) S
            else CMulX t 1000003 ∧ True ∧ W_law_mixed [D.int (x + t * 1000003), D.int i] S (Rt Q) fun x S' => Et E x S')
          else if false = true then CPow 10 18 ∧ Rt Q (D.int (x - 10 ^ Int.toNat 18)) S else CMulX t 1000003 ∧ True ∧ W_law_mixed [D.int (x + t * 1000003), D.int i] S (Rt Q) fun x S' => Et E x S')
        else if false = true then CPow 10 18 ∧ Rt Q (D.int (x - 10 ^ Int.toNat 18)) S else CMulX t 1000003 ∧ True ∧ W_law_mixed [D.int (x + t * 1000003), D.int i] S (Rt Q) fun x S' => Et E x S') := by
    intro x hx
    have m := mx x hx
    by_cases a : (t == 0) = true
    · rw [if_pos a]
      by_cases b : decide (i < (ns.length : Int)) = true
      · rw [if_pos b]
        refine ⟨cp, ?_⟩
        by_cases c : decide (10 ^ Int.toNat 18 ≤ x) = true
        · rw [if_pos c]; exact ⟨cp, r1 _⟩
        · rw [if_neg c]; exact ⟨ct, trivial, m⟩
      · rw [if_neg b, if_neg Bool.false_ne_true]; exact ⟨ct, trivial, m⟩
    · rw [if_neg a, if_neg Bool.false_ne_true]; exact ⟨ct, trivial, m⟩
  split
  · rename_i hl
    have hl' : (0 : Int) < ns.length := of_decide_eq_true hl
    refine ⟨hl', ?_⟩
    obtain ⟨x, ex, hx⟩ := atI_nn (l := ns) (i := i % (ns.length : Int)) (Int.emod_nonneg _ (by omega)) (Int.emod_lt_of_pos _ hl')
    rw [ex, orF_some]
    have hM := M0 x (hns.2 x hx)
    by_cases hd : decide (x < 0) = true
    · rw [if_pos hd]; exact ⟨al x hM, aux _ (by omega)⟩
    · rw [if_neg hd]; exact aux _ (by omega)
  · rw [if_neg (by decide)]; exact aux 0 (by show 0 ≤ 1 + 2 * M; omega)
/-- the pool: where it stands, and how far it has come -/
def PoolAt (S : Store) (p : Addr) (ns : List Int) (B : Int) : Prop := ∃ i c t : Int, S p = some (.lst [.scr ns, .int i, .int c, .int t]) ∧ 0 ≤ i ∧ i ≤ B ∧ 0 ≤ t ∧ t ≤ B
theorem draw_sem (p : Addr) (ns : List Int) (B lim : Int) (S : Store) (Q : QE) (E : String → Store → Prop) (hns : ScrOk ns) (hp : PoolAt S p ns B) (hB : B < 900000) (h1 : 0 < lim) (h2 : lim < 1073741824)
    (h : ∀ (v : Int) (i c t : Int), 0 ≤ v → v < lim → 0 ≤ i → i ≤ B + 1 → 0 ≤ t → t ≤ B + 1 → Q (.int v) (put S p (.lst [.scr ns, .int i, .int c, .int t]))) : W_law_draw [.ref p, .int lim] S Q E := by
  obtain ⟨i, c, t, hS, i0, i1, t0, t1⟩ := hp
  unfold W_law_draw b_law_draw
  simp only [wFn, startD, wSq, wSet, wVar, getS, wC, w2, w1, eTup, eLst, eLstM, wCons, wNil, wIf, wTst, wRet, wRetN, wDrop, wB, wNext, kB_b, orF_some, orF_none, kI0_ii, kIC_ii, kAdd_ii, kAdd_tt, kAdd_ll, kMul_ii, kMulT_ti, kInt_i, kMin2_ii, kMax2_ii, kLen_l, kLen_t, kLen_s, kIx_l, kIx_t, kIx_s, kTuple_l, kTuple_t, kList_l, kList_t, kSl_t, kSl_l, kEq_ii, kNe_ii, kLt, kLe, kGt, kGe, kSub, kMod, kFdiv, kPow, kIx_p, kLen_p, kAppend_p, kSetI_p, at4_0, at4_1, at4_2, at4_3, ix4_0, ix4_1, ix4_2, ix4_3, wAndT, wOrT, wNotT, wAndV, wOrV, wNotV, wIfE, wCall, wSub, wPar, wChn, wRaise, wSl, wPart, wNoP, wBrk, wCnt, List.map_cons, List.map_nil, List.length_cons, List.length_nil, List.cons_append, List.nil_append, List.getElem?_cons_zero, List.getElem?_cons_succ, List.set_cons_zero, List.set_cons_succ, Option.join_some, Option.join_none, List.replicate_succ, List.replicate_zero, Nat.reduceAdd, Nat.reduceSub, Nat.sub_zero, kIx_r hS, kSetI_r hS]
  have ht1 : ((if true = true then (1 : Int) else 0) = 1) := rfl
  by_cases hc : c ≤ 1
  · rw [if_pos (decide_eq_true hc)]
    refine ⟨trivial, rest_sem ns i (t + 1) _ _ _ hns ⟨i0, by omega⟩ ⟨by omega, by omega⟩ fun v => ?_⟩
    simp only [wFn, startD, wSq, wSet, wVar, getS, wC, w2, w1, eTup, eLst, eLstM, wCons, wNil, wIf, wTst, wRet, wRetN, wDrop, wB, wNext, kB_b, orF_some, orF_none, kI0_ii, kIC_ii, kAdd_ii, kAdd_tt, kAdd_ll, kMul_ii, kMulT_ti, kInt_i, kMin2_ii, kMax2_ii, kLen_l, kLen_t, kLen_s, kIx_l, kIx_t, kIx_s, kTuple_l, kTuple_t, kList_l, kList_t, kSl_t, kSl_l, kEq_ii, kNe_ii, kLt, kLe, kGt, kGe, kSub, kMod, kFdiv, kPow, kIx_p, kLen_p, kAppend_p, kSetI_p, at4_0, at4_1, at4_2, at4_3, ix4_0, ix4_1, ix4_2, ix4_3, wAndT, wOrT, wNotT, wAndV, wOrV, wNotV, wIfE, wCall, wSub, wPar, wChn, wRaise, wSl, wPart, wNoP, wBrk, wCnt, List.map_cons, List.map_nil, List.length_cons, List.length_nil, List.cons_append, List.nil_append, List.getElem?_cons_zero, List.getElem?_cons_succ, List.set_cons_zero, List.set_cons_succ, Option.join_some, Option.join_none, List.replicate_succ, List.replicate_zero, Nat.reduceAdd, Nat.reduceSub, Nat.sub_zero]
    refine ⟨h1, divp h1 h2, Rt.same ?_⟩
    exact h _ _ _ _ (Int.emod_nonneg _ (by omega)) (Int.emod_lt_of_pos _ h1) i0 (by omega) (by omega) (by omega)
  · rw [if_neg (by rw [decide_eq_false hc]; exact Bool.false_ne_true)]
    refine ⟨h1, divp h1 h2, Rt.same ?_⟩
    exact h _ _ _ _ (Int.emod_nonneg _ (by omega)) (Int.emod_lt_of_pos _ h1) i0 (by omega) t0 (by omega)
theorem next_sem (p : Addr) (ns : List Int) (B : Int) (S : Store) (Q : QE) (E : String → Store → Prop) (hns : ScrOk ns) (hp : PoolAt S p ns B) (hB : B < 900000)
    (h : ∀ i c t : Int, 0 ≤ i → i ≤ B + 1 → 0 ≤ t → t ≤ B + 1 → Q .non (put S p (.lst [.scr ns, .int i, .int c, .int t]))) : W_law_next [.ref p] S Q E := by
  obtain ⟨i, c, t, hS, i0, i1, t0, t1⟩ := hp
  unfold W_law_next b_law_next
  simp only [wFn, startD, wSq, wSet, wVar, getS, wC, w2, w1, eTup, eLst, eLstM, wCons, wNil, wIf, wTst, wRet, wRetN, wDrop, wB, wNext, kB_b, orF_some, orF_none, kI0_ii, kIC_ii, kAdd_ii, kAdd_tt, kAdd_ll, kMul_ii, kMulT_ti, kInt_i, kMin2_ii, kMax2_ii, kLen_l, kLen_t, kLen_s, kIx_l, kIx_t, kIx_s, kTuple_l, kTuple_t, kList_l, kList_t, kSl_t, kSl_l, kEq_ii, kNe_ii, kLt, kLe, kGt, kGe, kSub, kMod, kFdiv, kPow, kIx_p, kLen_p, kAppend_p, kSetI_p, at4_0, at4_1, at4_2, at4_3, ix4_0, ix4_1, ix4_2, ix4_3, wAndT, wOrT, wNotT, wAndV, wOrV, wNotV, wIfE, wCall, wSub, wPar, wChn, wRaise, wSl, wPart, wNoP, wBrk, wCnt, List.map_cons, List.map_nil, List.length_cons, List.length_nil, List.cons_append, List.nil_append, List.getElem?_cons_zero, List.getElem?_cons_succ, List.set_cons_zero, List.set_cons_succ, Option.join_some, Option.join_none, List.replicate_succ, List.replicate_zero, Nat.reduceAdd, Nat.reduceSub, Nat.sub_zero, kIx_r hS, kSetI_r hS]
  refine ⟨trivial, rest_sem ns (i + 1) 0 _ _ _ hns ⟨by omega, by omega⟩ ⟨by omega, by omega⟩ fun v => ?_⟩
  simp only [wFn, startD, wSq, wSet, wVar, getS, wC, w2, w1, eTup, eLst, eLstM, wCons, wNil, wIf, wTst, wRet, wRetN, wDrop, wB, wNext, kB_b, orF_some, orF_none, kI0_ii, kIC_ii, kAdd_ii, kAdd_tt, kAdd_ll, kMul_ii, kMulT_ti, kInt_i, kMin2_ii, kMax2_ii, kLen_l, kLen_t, kLen_s, kIx_l, kIx_t, kIx_s, kTuple_l, kTuple_t, kList_l, kList_t, kSl_t, kSl_l, kEq_ii, kNe_ii, kLt, kLe, kGt, kGe, kSub, kMod, kFdiv, kPow, kIx_p, kLen_p, kAppend_p, kSetI_p, at4_0, at4_1, at4_2, at4_3, ix4_0, ix4_1, ix4_2, ix4_3, wAndT, wOrT, wNotT, wAndV, wOrV, wNotV, wIfE, wCall, wSub, wPar, wChn, wRaise, wSl, wPart, wNoP, wBrk, wCnt, List.map_cons, List.map_nil, List.length_cons, List.length_nil, List.cons_append, List.nil_append, List.getElem?_cons_zero, List.getElem?_cons_succ, List.set_cons_zero, List.set_cons_succ, Option.join_some, Option.join_none, List.replicate_succ, List.replicate_zero, Nat.reduceAdd, Nat.reduceSub, Nat.sub_zero]
  exact Rt.same (h _ _ _ (by omega) (by omega) (by omega) (by omega))
theorem pool_sem (ns : List Int) (S : Store) (Q : QE) (E : String → Store → Prop) (hns : ScrOk ns) (h : ∀ (p : Addr) (c : Int), S p = none → Q (.ref p) (put S p (.lst [.scr ns, .int 0, .int c, .int 0]))) : W_law_pool [.scr ns] S Q E := by
  unfold W_law_pool b_law_pool
  simp only [wFn, startD, wSq, wSet, wVar, getS, wC, w2, w1, eTup, eLst, eLstM, wCons, wNil, wIf, wTst, wRet, wRetN, wDrop, wB, wNext, kB_b, orF_some, orF_none, kI0_ii, kIC_ii, kAdd_ii, kAdd_tt, kAdd_ll, kMul_ii, kMulT_ti, kInt_i, kMin2_ii, kMax2_ii, kLen_l, kLen_t, kLen_s, kIx_l, kIx_t, kIx_s, kTuple_l, kTuple_t, kList_l, kList_t, kSl_t, kSl_l, kEq_ii, kNe_ii, kLt, kLe, kGt, kGe, kSub, kMod, kFdiv, kPow, kIx_p, kLen_p, kAppend_p, kSetI_p, at4_0, at4_1, at4_2, at4_3, ix4_0, ix4_1, ix4_2, ix4_3, wAndT, wOrT, wNotT, wAndV, wOrV, wNotV, wIfE, wCall, wSub, wPar, wChn, wRaise, wSl, wPart, wNoP, wBrk, wCnt, List.map_cons, List.map_nil, List.length_cons, List.length_nil, List.cons_append, List.nil_append, List.getElem?_cons_zero, List.getElem?_cons_succ, List.set_cons_zero, List.set_cons_succ, Option.join_some, Option.join_none, List.replicate_succ, List.replicate_zero, Nat.reduceAdd, Nat.reduceSub, Nat.sub_zero]
  refine ⟨trivial, rest_sem ns 0 0 _ _ _ hns ⟨by omega, by omega⟩ ⟨by omega, by omega⟩ fun v => ⟨fits (by decide), fun p hp => Rt.same (h p v hp)⟩⟩
end Lw
set_option Elab.async false
set_option linter.all false
set_option maxRecDepth 100000
set_option maxHeartbeats 2000000
namespace Lw
open PySem PySem.Spec L2 J
/-! ## the answer and what is due are the same -/
theorem shp_mono : ∀ (n m : Nat) (d : D), n ≤ m → shp n d = true → shp m d = true := by
  intro n
  induction n with
  | zero =>
    intro m d h hs
    cases d <;> first | (cases m <;> simp [shp]; done) | (simp [shp] at hs)
  | succ n ih =>
    intro m d h hs
    obtain ⟨k, rfl⟩ : ∃ k, m = k + 1 := ⟨m - 1, by omega⟩
    have al : ∀ l : List D, shps n l = true → shps k l = true := by
      intro l
      induction l with
      | nil => intro _; simp [shps]
      | cons x l ihl =>
        intro hl
        simp only [shps, Bool.and_eq_true] at hl ⊢
        exact ⟨ih k x (by omega) hl.1, ihl hl.2⟩
    cases d with
    | tup l => simp only [shp] at hs ⊢; exact al l hs
    | lst l => simp only [shp] at hs ⊢; exact al l hs
    | ref p => simp [shp] at hs
    | scr p => simp [shp] at hs
    | _ => simp [shp]
theorem shps_mem : ∀ {n : Nat} {l : List D} {d : D}, shps n l = true → d ∈ l → shp n d = true
  | _, _ :: _, _, h, hm => by
    simp only [shps, Bool.and_eq_true] at h
    rcases List.mem_cons.mp hm with rfl | hm
    · exact h.1
    · exact shps_mem h.2 hm
theorem atI_nat {α : Type} {l : List α} {k : Nat} {x : α} (h : l[k]? = some x) : atI l (k : Int) = some x := by
  have hk := (List.getElem?_eq_some_iff.mp h).1
  unfold atI ixN
  rw [if_pos (by omega), if_pos (by omega)]
  simpa using h
mutual
/-- as shp, and every row short -/
def dat : Nat → D → Bool
  | _, .non => true
  | _, .bl _ => true
  | _, .int _ => true
  | _, .str _ => true
  | n + 1, .tup l => decide (l.length ≤ 100000) && dats n l
  | n + 1, .lst l => decide (l.length ≤ 100000) && dats n l
  | _, _ => false
def dats : Nat → List D → Bool
  | _, [] => true
  | n, d :: ds => dat n d && dats n ds
end
theorem dat_shp : ∀ (n : Nat) (d : D), dat n d = true → shp n d = true := by
  intro n
  induction n with
  | zero => intro d h; cases d <;> first | (simp [shp]; done) | (simp [dat] at h)
  | succ n ih =>
    intro d h
    have al : ∀ l : List D, dats n l = true → shps n l = true := by
      intro l
      induction l with
      | nil => intro _; simp [shps]
      | cons x l ihl =>
        intro hl
        simp only [dats, shps, Bool.and_eq_true] at hl ⊢
        exact ⟨ih x hl.1, ihl hl.2⟩
    cases d with
    | tup l => simp only [dat, shp, Bool.and_eq_true] at h ⊢; exact al l h.2
    | lst l => simp only [dat, shp, Bool.and_eq_true] at h ⊢; exact al l h.2
    | ref p => simp [dat] at h
    | scr p => simp [dat] at h
    | _ => simp [shp]
theorem dats_mem : ∀ {n : Nat} {l : List D} {d : D}, dats n l = true → d ∈ l → dat n d = true
  | _, _ :: _, _, h, hm => by
    simp only [dats, Bool.and_eq_true] at h
    rcases List.mem_cons.mp hm with rfl | hm
    · exact h.1
    · exact dats_mem h.2 hm
theorem eqv_refl_s {d : D} (h : shp 0 d = true) : eqv d d = true := by
  cases d <;> first | (simp [eqv]; done) | (simp [shp] at h)
theorem same_0 (n : Nat) (d : D) (S : Store) (Q : QE) (E : String → Store → Prop) (hs : shp 0 d = true) (h : Q (.bl true) S) : W_law_same (n + 1) [d, d] S Q E := by
  have h6 := shp_mono 0 60 d (by omega) hs
  have r := Rt.same h
  unfold W_law_same b_law_same
  simp only [wFn, startD, wSq, wSet, wVar, getS, wC, w2, w1, eTup, eLst, eLstM, wCons, wNil, wIf, wTst, wRet, wRetN, wDrop, wB, wNext, kB_b, orF_some, orF_none, kI0_ii, kIC_ii, kAdd_ii, kAdd_tt, kAdd_ll, kMul_ii, kMulT_ti, kInt_i, kMin2_ii, kMax2_ii, kLen_l, kLen_t, kLen_s, kIx_l, kIx_t, kIx_s, kTuple_l, kTuple_t, kList_l, kList_t, kSl_t, kSl_l, kEq_ii, kNe_ii, kLt, kLe, kGt, kGe, kSub, kMod, kFdiv, kPow, kIx_p, kLen_p, kAppend_p, kSetI_p, at4_0, at4_1, at4_2, at4_3, ix4_0, ix4_1, ix4_2, ix4_3, wAndT, wOrT, wNotT, wAndV, wOrV, wNotV, wIfE, wCall, wSub, wPar, wChn, wRaise, wSl, wPart, wNoP, wBrk, wCnt, List.map_cons, List.map_nil, List.length_cons, List.length_nil, List.cons_append, List.nil_append, List.getElem?_cons_zero, List.getElem?_cons_succ, List.set_cons_zero, List.set_cons_succ, Option.join_some, Option.join_none, List.replicate_succ, List.replicate_zero, Nat.reduceAdd, Nat.reduceSub, Nat.sub_zero, kIsa, h6, true_and]
  cases d <;> first | (simp [shp] at hs; done) | skip
  case non => simpa [isT, kIsB, J.isNon, kB] using r
  case bl b => cases b <;> simpa [isT, kIsB, J.isNon, kB] using r
  case int i => simpa [isT, kIsB, J.isNon, kB, kEq_ii] using r
  case str i => simpa [isT, kIsB, J.isNon, kB, kEq, shp, eqv] using r
theorem all_true : ∀ n : Nat, (List.replicate n true).all id = true
  | 0 => rfl
  | n + 1 => by rw [List.replicate_succ, List.all_cons, all_true n]; rfl
theorem same_seq (n : Nat) (l : List D) (S : Store) (Q : QE) (hl : l.length ≤ 100000) (c : D) (hc : c = .lst l ∨ c = .tup l)
    (ih : ∀ d ∈ l, ∀ (S : Store) (Q : QE) (E : String → Store → Prop), Q (.bl true) S → W_law_same n [d, d] S Q E) (h : Q (.bl true) S) :
    wLc (wRng1 (wCons (wB kLen (wCons (wVar 1) wNil)) wNil)) (Tgt.one 3) wYes (wCall 2 (W_law_same n) xd0 (wCons (w2 kIx (wVar 0) (wVar 3)) (wCons (w2 kIx (wVar 1) (wVar 3)) wNil))) [3] [some c, some c, none, none] S fun d S1 => kAll [d] S1 Q := by
  have e1 : ∀ R : SrcK, (wRng1 (wCons (wB kLen (wCons (wVar 1) wNil)) wNil)) [some c, some c, none, none] S R = (smR (l.length : Int) ∧ R ((List.range l.length).map fun k : Nat => D.int (k : Int)) noReq S) := by
    intro R
    rcases hc with rfl | rfl <;> simp only [wFn, startD, wSq, wSet, wVar, getS, wC, w2, w1, eTup, eLst, eLstM, wCons, wNil, wIf, wTst, wRet, wRetN, wDrop, wB, wNext, kB_b, orF_some, orF_none, kI0_ii, kIC_ii, kAdd_ii, kAdd_tt, kAdd_ll, kMul_ii, kMulT_ti, kInt_i, kMin2_ii, kMax2_ii, kLen_l, kLen_t, kLen_s, kIx_l, kIx_t, kIx_s, kTuple_l, kTuple_t, kList_l, kList_t, kSl_t, kSl_l, kEq_ii, kNe_ii, kLt, kLe, kGt, kGe, kSub, kMod, kFdiv, kPow, kIx_p, kLen_p, kAppend_p, kSetI_p, at4_0, at4_1, at4_2, at4_3, ix4_0, ix4_1, ix4_2, ix4_3, wAndT, wOrT, wNotT, wAndV, wOrV, wNotV, wIfE, wCall, wSub, wPar, wChn, wRaise, wSl, wPart, wNoP, wBrk, wCnt, List.map_cons, List.map_nil, List.length_cons, List.length_nil, List.cons_append, List.nil_append, List.getElem?_cons_zero, List.getElem?_cons_succ, List.set_cons_zero, List.set_cons_succ, Option.join_some, Option.join_none, List.replicate_succ, List.replicate_zero, Nat.reduceAdd, Nat.reduceSub, Nat.sub_zero, wRng1, Int.toNat_natCast]
  simp only [wLc, eLcA, e1, wipeD]
  refine ⟨⟨by omega, by omega⟩, fitsL (by simp; omega), ?_⟩
  refine lcl_pure (fun _ => true) (fun _ => .bl true) trivial _ _ (fun d hd => ?_) ?_
  · obtain ⟨k, hk, rfl⟩ := List.mem_map.mp hd
    have hk' : k < l.length := List.mem_range.mp hk
    refine ⟨_, rfl, fun k h => h, fun _ K hK => ?_⟩
    have e2 := List.getElem?_eq_getElem hk'
    have e3 : ∀ Q : QE, kIx c (.int (k : Int)) S Q = Q l[k] S := by
      intro Q
      rcases hc with rfl | rfl <;> simp only [kIx_l, kIx_t, atI_nat e2, orF_some]
    simp only [wFn, startD, wSq, wSet, wVar, getS, wC, w2, w1, eTup, eLst, eLstM, wCons, wNil, wIf, wTst, wRet, wRetN, wDrop, wB, wNext, kB_b, orF_some, orF_none, kI0_ii, kIC_ii, kAdd_ii, kAdd_tt, kAdd_ll, kMul_ii, kMulT_ti, kInt_i, kMin2_ii, kMax2_ii, kLen_l, kLen_t, kLen_s, kIx_l, kIx_t, kIx_s, kTuple_l, kTuple_t, kList_l, kList_t, kSl_t, kSl_l, kEq_ii, kNe_ii, kLt, kLe, kGt, kGe, kSub, kMod, kFdiv, kPow, kIx_p, kLen_p, kAppend_p, kSetI_p, at4_0, at4_1, at4_2, at4_3, ix4_0, ix4_1, ix4_2, ix4_3, wAndT, wOrT, wNotT, wAndV, wOrV, wNotV, wIfE, wCall, wSub, wPar, wChn, wRaise, wSl, wPart, wNoP, wBrk, wCnt, List.map_cons, List.map_nil, List.length_cons, List.length_nil, List.cons_append, List.nil_append, List.getElem?_cons_zero, List.getElem?_cons_succ, List.set_cons_zero, List.set_cons_succ, Option.join_some, Option.join_none, List.replicate_succ, List.replicate_zero, Nat.reduceAdd, Nat.reduceSub, Nat.sub_zero, e3]
    exact ⟨trivial, ih _ (List.getElem_mem hk') _ _ _ hK⟩
  · have e4 : ([] ++ ((List.filter (fun _ => true) ((List.range l.length).map fun k : Nat => D.int (k : Int))).map fun _ => D.bl true)) = (List.replicate l.length true).map D.bl := by
      rw [List.filter_eq_self.mpr (fun _ _ => rfl)]
      apply List.ext_getElem <;> simp
    rw [e4, kAll_l, all_true]
    exact h
theorem same_refl : ∀ (n : Nat) (d : D) (S : Store) (Q : QE) (E : String → Store → Prop), dat n d = true → n ≤ 60 → Q (.bl true) S → W_law_same (n + 1) [d, d] S Q E := by
  intro n
  induction n with
  | zero => intro d S Q E hs _ h; exact same_0 0 d S Q E (dat_shp 0 d hs) h
  | succ n ih =>
    intro d S Q E hs h60 h
    have h6 := shp_mono _ 60 d h60 (dat_shp _ d hs)
    have r := Rt.same h
    by_cases h0 : shp 0 d = true
    · exact same_0 (n + 1) d S Q E h0 h
    · cases d with
      | tup l =>
        simp only [dat, Bool.and_eq_true, decide_eq_true_eq] at hs
        have q := same_seq (n + 1) l S (Rt Q) hs.1 (.tup l) (.inr rfl) (fun d hd S Q E h => ih d S Q E (dats_mem hs.2 hd) (by omega) h) r
        unfold W_law_same b_law_same
        simp only [wFn, startD, wSq, wSet, wVar, getS, wC, w2, w1, eTup, eLst, eLstM, wCons, wNil, wIf, wTst, wRet, wRetN, wDrop, wB, wNext, kB_b, orF_some, orF_none, kI0_ii, kIC_ii, kAdd_ii, kAdd_tt, kAdd_ll, kMul_ii, kMulT_ti, kInt_i, kMin2_ii, kMax2_ii, kLen_l, kLen_t, kLen_s, kIx_l, kIx_t, kIx_s, kTuple_l, kTuple_t, kList_l, kList_t, kSl_t, kSl_l, kEq_ii, kNe_ii, kLt, kLe, kGt, kGe, kSub, kMod, kFdiv, kPow, kIx_p, kLen_p, kAppend_p, kSetI_p, at4_0, at4_1, at4_2, at4_3, ix4_0, ix4_1, ix4_2, ix4_3, wAndT, wOrT, wNotT, wAndV, wOrV, wNotV, wIfE, wCall, wSub, wPar, wChn, wRaise, wSl, wPart, wNoP, wBrk, wCnt, List.map_cons, List.map_nil, List.length_cons, List.length_nil, List.cons_append, List.nil_append, List.getElem?_cons_zero, List.getElem?_cons_succ, List.set_cons_zero, List.set_cons_succ, Option.join_some, Option.join_none, List.replicate_succ, List.replicate_zero, Nat.reduceAdd, Nat.reduceSub, Nat.sub_zero, kIsa, h6, true_and]
        simpa [isT, kIsB, J.isNon, kB, kNe, kEq, shp, eqv, kLen_t] using q
      | lst l =>
        simp only [dat, Bool.and_eq_true, decide_eq_true_eq] at hs
        have q := same_seq (n + 1) l S (Rt Q) hs.1 (.lst l) (.inl rfl) (fun d hd S Q E h => ih d S Q E (dats_mem hs.2 hd) (by omega) h) r
        unfold W_law_same b_law_same
        simp only [wFn, startD, wSq, wSet, wVar, getS, wC, w2, w1, eTup, eLst, eLstM, wCons, wNil, wIf, wTst, wRet, wRetN, wDrop, wB, wNext, kB_b, orF_some, orF_none, kI0_ii, kIC_ii, kAdd_ii, kAdd_tt, kAdd_ll, kMul_ii, kMulT_ti, kInt_i, kMin2_ii, kMax2_ii, kLen_l, kLen_t, kLen_s, kIx_l, kIx_t, kIx_s, kTuple_l, kTuple_t, kList_l, kList_t, kSl_t, kSl_l, kEq_ii, kNe_ii, kLt, kLe, kGt, kGe, kSub, kMod, kFdiv, kPow, kIx_p, kLen_p, kAppend_p, kSetI_p, at4_0, at4_1, at4_2, at4_3, ix4_0, ix4_1, ix4_2, ix4_3, wAndT, wOrT, wNotT, wAndV, wOrV, wNotV, wIfE, wCall, wSub, wPar, wChn, wRaise, wSl, wPart, wNoP, wBrk, wCnt, List.map_cons, List.map_nil, List.length_cons, List.length_nil, List.cons_append, List.nil_append, List.getElem?_cons_zero, List.getElem?_cons_succ, List.set_cons_zero, List.set_cons_succ, Option.join_some, Option.join_none, List.replicate_succ, List.replicate_zero, Nat.reduceAdd, Nat.reduceSub, Nat.sub_zero, kIsa, h6, true_and]
        simpa [isT, kIsB, J.isNon, kB, kNe, kEq, shp, eqv, kLen_l] using q
      | ref p => simp [dat] at hs
      | scr p => simp [dat] at hs
      | _ => exact absurd (by simp [shp]) h0
end Lw
set_option Elab.async false
set_option linter.all false
set_option maxRecDepth 100000
set_option maxHeartbeats 2000000
namespace Lw
open PySem PySem.Spec L2 J
/-! ## chomp, in plain Lean -/
/-- min(x, c) as the text computes it -/
def mn (x c : Int) : Int := if c < x then c else x
def bite (r : List Int) (i : Nat) (c : Int) : List Int := (r.take i ++ (r.drop i).map fun x => mn x c).filter fun x => decide (0 < x)
def bsRow (r : List Int) (i k : Nat) : List (List Int) := ((List.range k).filter fun c => decide (0 < i + c)).map fun c : Nat => bite r i (c : Int)
def bsTo (r : List Int) : Nat → List (List Int)
  | 0 => []
  | i + 1 => bsTo r i ++ bsRow r i (r.getD i 0).toNat
def bs (r : List Int) : List (List Int) := bsTo r r.length
structure Valid (r : List Int) : Prop where
  ne : r ≠ []
  len : r.length ≤ 6
  sum : r.sum ≤ 40
  dec : r.Pairwise (fun a b => b ≤ a)
  pos : ∀ x ∈ r, 1 ≤ x
theorem sum_filter : ∀ l : List Int, (∀ x ∈ l, 0 ≤ x) → (l.filter fun x => decide (0 < x)).sum = l.sum
  | [], _ => rfl
  | x :: l, h => by
    have ih := sum_filter l fun y hy => h y (List.mem_cons_of_mem _ hy)
    have hx := h x List.mem_cons_self
    by_cases h0 : 0 < x
    · rw [List.filter_cons, if_pos (decide_eq_true h0), List.sum_cons, List.sum_cons, ih]
    · rw [List.filter_cons, if_neg (by simpa using h0), List.sum_cons, ih]; omega
theorem sum_mn (c : Int) (hc : 0 ≤ c) : ∀ l : List Int, (l.map fun x => mn x c).sum ≤ l.sum
  | [] => by simp
  | x :: l => by
    have ih := sum_mn c hc l
    simp only [List.map_cons, List.sum_cons]
    have : mn x c ≤ x := by unfold mn; split <;> omega
    omega
theorem pos_sum : ∀ l : List Int, (∀ x ∈ l, 1 ≤ x) → (l.length : Int) ≤ l.sum
  | [], _ => by simp
  | x :: l, h => by
    have ih := pos_sum l fun y hy => h y (List.mem_cons_of_mem _ hy)
    have := h x List.mem_cons_self
    simp only [List.length_cons, List.sum_cons]; omega
section
variable {r : List Int} {i : Nat} {c : Int}
theorem bite_nn (hr : Valid r) (hc : 0 ≤ c) : ∀ x ∈ r.take i ++ (r.drop i).map fun x => mn x c, 0 ≤ x := fun x hx => by
  rcases List.mem_append.mp hx with h | h
  · have := hr.pos x (List.mem_of_mem_take h); omega
  · obtain ⟨y, hy, rfl⟩ := List.mem_map.mp h
    have := hr.pos y (List.mem_of_mem_drop hy)
    unfold mn; split <;> omega
theorem bite_sum (hr : Valid r) (hi : i < r.length) (hc : 0 ≤ c) (hlt : c < r[i]) : (bite r i c).sum < r.sum := by
  unfold bite
  rw [sum_filter _ (bite_nn hr hc), List.sum_append]
  have e : r.sum = (r.take i).sum + (r.drop i).sum := by rw [← List.sum_append, List.take_append_drop]
  have e2 : r.drop i = r[i] :: r.drop (i + 1) := List.drop_eq_getElem_cons hi
  rw [e, e2, List.map_cons, List.sum_cons, List.sum_cons]
  have h1 := sum_mn c hc (r.drop (i + 1))
  have h2 : mn r[i] c = c := by unfold mn; rw [if_pos hlt]
  rw [h2]; omega
theorem mn_mono {x y c : Int} (h : y ≤ x) : mn y c ≤ mn x c := by unfold mn; split <;> split <;> omega
theorem mn_le {x c : Int} : mn x c ≤ x := by unfold mn; split <;> omega
theorem bite_valid (hr : Valid r) (hi : i < r.length) (hc : 0 ≤ c) (hlt : c < r[i]) (h0 : 0 < (i : Int) + c) : Valid (bite r i c) := by
  have hs := bite_sum hr hi hc hlt
  have hp : ∀ x ∈ bite r i c, 1 ≤ x := fun x hx => by
    have := of_decide_eq_true (List.mem_filter.mp hx).2
    omega
  refine ⟨?_, ?_, by have := hr.sum; omega, ?_, hp⟩
  · -- the first square stands
    have h00 : 0 < r.length := Nat.lt_of_le_of_lt (Nat.zero_le _) hi
    by_cases hi0 : i = 0
    · subst hi0
      have : mn r[0] c ∈ bite r 0 c := by
        refine List.mem_filter.mpr ⟨List.mem_append.mpr (.inr (List.mem_map.mpr ⟨r[0], by simp, rfl⟩)), decide_eq_true ?_⟩
        unfold mn; rw [if_pos hlt]; omega
      exact List.ne_nil_of_mem this
    · have : r[0] ∈ bite r i c := by
        refine List.mem_filter.mpr ⟨List.mem_append.mpr (.inl ?_), decide_eq_true (by have := hr.pos r[0] (List.getElem_mem h00); omega)⟩
        exact List.mem_take_iff_getElem.mpr ⟨0, by omega, rfl⟩
      exact List.ne_nil_of_mem this
  · refine Nat.le_trans (List.length_filter_le _ _) ?_
    rw [List.length_append, List.length_map, List.length_take, List.length_drop]
    have := hr.len; omega
  · refine List.Pairwise.filter _ (List.pairwise_append.mpr ⟨hr.dec.sublist (List.take_sublist i r), ?_, fun a ha b hb => ?_⟩)
    · exact List.pairwise_map.mpr ((hr.dec.sublist (List.drop_sublist i r)).imp fun h => mn_mono h)
    · obtain ⟨y, hy, rfl⟩ := List.mem_map.mp hb
      have h1 : r.take i ++ r.drop i = r := List.take_append_drop i r
      have h2 := hr.dec
      rw [← h1] at h2
      have := (List.pairwise_append.mp h2).2.2 a ha y hy
      exact Int.le_trans mn_le this
end
theorem bsTo_mem {r x : List Int} : ∀ {n : Nat}, n ≤ r.length → x ∈ bsTo r n → ∃ (i : Nat) (c : Int) (hi : i < r.length), 0 ≤ c ∧ c < r[i] ∧ 0 < (i : Int) + c ∧ x = bite r i c
  | 0, _, h => by cases h
  | n + 1, hn, h => by
    rcases List.mem_append.mp h with h | h
    · exact bsTo_mem (by omega) h
    · obtain ⟨c, hc, rfl⟩ := List.mem_map.mp h
      obtain ⟨h1, h2⟩ := List.mem_filter.mp hc
      have h3 := List.mem_range.mp h1
      have h4 := of_decide_eq_true h2
      have e : r.getD n 0 = r[n] := by simp [List.getD, List.getElem?_eq_getElem (show n < r.length from hn)]
      rw [e] at h3
      exact ⟨n, c, hn, by omega, by omega, by omega, rfl⟩
theorem bs_mem {r x : List Int} (h : x ∈ bs r) : ∃ (i : Nat) (c : Int) (hi : i < r.length), 0 ≤ c ∧ c < r[i] ∧ 0 < (i : Int) + c ∧ x = bite r i c := bsTo_mem (Nat.le_refl _) h
theorem bs_valid {r x : List Int} (hr : Valid r) (h : x ∈ bs r) : Valid x ∧ x.sum < r.sum := by
  obtain ⟨i, c, hi, h1, h2, h3, rfl⟩ := bs_mem h
  exact ⟨bite_valid hr hi h1 h2 h3, bite_sum hr hi h1 h2⟩
theorem bsTo_len {r : List Int} (hr : Valid r) : ∀ {n : Nat}, n ≤ r.length → ((bsTo r n).length : Int) ≤ (r.take n).sum
  | 0, _ => by simp [bsTo]
  | n + 1, hn => by
    have ih := bsTo_len hr (n := n) (by omega)
    have h1 : (bsRow r n (r.getD n 0).toNat).length ≤ (r.getD n 0).toNat := by
      unfold bsRow
      rw [List.length_map]
      exact Nat.le_trans (List.length_filter_le _ _) (by rw [List.length_range]; exact Nat.le_refl _)
    have e : r.getD n 0 = r[n] := by simp [List.getD, List.getElem?_eq_getElem (show n < r.length from hn)]
    have h2 := hr.pos r[n] (List.getElem_mem _)
    rw [e] at h1
    have e2 : (r.take (n + 1)).sum = (r.take n).sum + r[n] := by rw [List.take_succ_eq_append_getElem hn, List.sum_append]; simp
    simp only [bsTo, List.length_append, e]
    omega
theorem bs_len {r : List Int} (hr : Valid r) : (bs r).length < 64 := by
  have h := bsTo_len hr (Nat.le_refl r.length)
  rw [List.take_length] at h
  have := hr.sum
  unfold bs; omega
/-! ### in order, each once -/
def ins (x : List Int) : List (List Int) → List (List Int)
  | [] => [x]
  | y :: l => if x < y then x :: y :: l else if x = y then y :: l else y :: ins x l
def srt (l : List (List Int)) : List (List Int) := l.foldr ins []
theorem ins_mem {x z : List Int} : ∀ {l : List (List Int)}, z ∈ ins x l ↔ z = x ∨ z ∈ l
  | [] => by simp [ins]
  | y :: l => by
    unfold ins
    split
    · simp
    · split
      · rename_i h; subst h; simp
      · simp only [List.mem_cons, ins_mem (l := l)]
        constructor
        · rintro (h | h | h) <;> simp [h]
        · rintro (h | h | h) <;> simp [h]
theorem ins_srt {x : List Int} : ∀ {l : List (List Int)}, l.Pairwise (· < ·) → (ins x l).Pairwise (· < ·)
  | [], _ => List.pairwise_singleton _ _
  | y :: l, h => by
    obtain ⟨h1, h2⟩ := List.pairwise_cons.mp h
    unfold ins
    split
    · rename_i hxy
      refine List.Pairwise.cons (fun z hz => ?_) h
      rcases List.mem_cons.mp hz with rfl | hz
      · exact hxy
      · exact List.lt_trans hxy (h1 z hz)
    · split
      · exact h
      · rename_i n1 n2
        refine List.Pairwise.cons (fun z hz => ?_) (ins_srt h2)
        rcases ins_mem.mp hz with rfl | hz
        · rcases Classical.em (y < z) with h | h
          · exact h
          · exact absurd (List.le_antisymm (List.not_lt.mp h) (List.not_lt.mp n1)) n2
        · exact h1 z hz
theorem srt_mem {l : List (List Int)} {z : List Int} : z ∈ srt l ↔ z ∈ l := by
  unfold srt
  induction l with
  | nil => simp
  | cons x l ih => rw [List.foldr_cons, ins_mem, ih]; simp
theorem srt_srt (l : List (List Int)) : (srt l).Pairwise (· < ·) := by
  unfold srt
  induction l with
  | nil => exact .nil
  | cons x l ih => exact ins_srt ih
theorem srt_uniq : ∀ {l m : List (List Int)}, l.Pairwise (· < ·) → m.Pairwise (· < ·) → (∀ z, z ∈ l ↔ z ∈ m) → l = m
  | [], [], _, _, _ => rfl
  | [], y :: m, _, _, h => absurd ((h y).mpr List.mem_cons_self) (by simp)
  | x :: l, [], _, _, h => absurd ((h x).mp List.mem_cons_self) (by simp)
  | x :: l, y :: m, h1, h2, h => by
    obtain ⟨a1, a2⟩ := List.pairwise_cons.mp h1
    obtain ⟨b1, b2⟩ := List.pairwise_cons.mp h2
    have e : x = y := by
      rcases List.mem_cons.mp ((h x).mp List.mem_cons_self) with e | hx
      · exact e
      · rcases List.mem_cons.mp ((h y).mpr List.mem_cons_self) with e | hy
        · exact e.symm
        · exact absurd (List.lt_trans (a1 y hy) (b1 x hx)) (List.lt_irrefl x)
    subst e
    refine congrArg (x :: ·) (srt_uniq a2 b2 fun z => ⟨fun hz => ?_, fun hz => ?_⟩)
    · rcases List.mem_cons.mp ((h z).mp (List.mem_cons_of_mem _ hz)) with rfl | q
      · exact absurd (a1 z hz) (List.lt_irrefl z)
      · exact q
    · rcases List.mem_cons.mp ((h z).mpr (List.mem_cons_of_mem _ hz)) with rfl | q
      · exact absurd (b1 z hz) (List.lt_irrefl z)
      · exact q
def opt (r : List Int) : List (List Int) := srt (bs r)
theorem opt_valid {r x : List Int} (hr : Valid r) (h : x ∈ opt r) : Valid x ∧ x.sum < r.sum := bs_valid hr (srt_mem.mp h)
theorem any_srt (f : List Int → Bool) (l : List (List Int)) : (srt l).any f = l.any f := by
  rw [Bool.eq_iff_iff, List.any_eq_true, List.any_eq_true]
  constructor
  · rintro ⟨x, h1, h2⟩; exact ⟨x, srt_mem.mp h1, h2⟩
  · rintro ⟨x, h1, h2⟩; exact ⟨x, srt_mem.mpr h1, h2⟩
/-! ### who loses -/
def loseN : Nat → List Int → Bool
  | 0, _ => true
  | n + 1, r => !(opt r).any (loseN n)
def lose (r : List Int) : Bool := loseN (r.sum.toNat + 1) r
theorem any_congr {α : Type} {f g : α → Bool} : ∀ {l : List α}, (∀ x ∈ l, f x = g x) → l.any f = l.any g
  | [], _ => rfl
  | x :: l, h => by rw [List.any_cons, List.any_cons, h x List.mem_cons_self, any_congr fun y hy => h y (List.mem_cons_of_mem _ hy)]
theorem valid_nn {r : List Int} (hr : Valid r) : 0 < r.sum := by
  have h := pos_sum r hr.pos
  have := List.length_pos_iff.mpr hr.ne
  omega
theorem loseN_eq : ∀ (n m : Nat) (r : List Int), Valid r → r.sum.toNat < n → r.sum.toNat < m → loseN n r = loseN m r := by
  intro n
  induction n with
  | zero => intro m r _ h; omega
  | succ n ih =>
    intro m r hr h1 h2
    obtain ⟨k, rfl⟩ : ∃ k, m = k + 1 := ⟨m - 1, by omega⟩
    simp only [loseN]
    congr 1
    refine any_congr fun x hx => ?_
    obtain ⟨hv, hs⟩ := opt_valid hr hx
    have := valid_nn hv
    exact ih k x hv (by omega) (by omega)
theorem lose_eq {r : List Int} (hr : Valid r) : lose r = !(opt r).any lose := by
  show (!(opt r).any (loseN r.sum.toNat)) = _
  congr 1
  refine any_congr fun x hx => ?_
  obtain ⟨hv, hs⟩ := opt_valid hr hx
  have := valid_nn hv
  exact loseN_eq _ _ x hv (by omega) (by omega)
/-- a table of all that lose among some rows -/
theorem lose_table {U : List (List Int)} {T : List (List Int)} (hU : ∀ r ∈ U, Valid r) (hc : ∀ r ∈ U, (∀ x ∈ bs r, x ∈ U) ∧ T.contains r = !(bs r).any fun x => T.contains x) : ∀ r ∈ U, lose r = T.contains r := by
  have : ∀ (n : Nat) (r : List Int), r.sum.toNat ≤ n → r ∈ U → lose r = T.contains r := by
    intro n
    induction n with
    | zero => intro r h hr; have := valid_nn (hU r hr); omega
    | succ n ih =>
      intro r h hr
      rw [lose_eq (hU r hr), (hc r hr).2]
      unfold opt
      rw [any_srt]
      congr 1
      refine any_congr fun x hx => ?_
      have h1 := (bs_valid (hU r hr) hx).2
      have h2 := valid_nn (bs_valid (hU r hr) hx).1
      exact ih x (by omega) ((hc r hr).1 x hx)
  exact fun r hr => this _ r (Nat.le_refl _) hr
end Lw
set_option Elab.async false
set_option linter.all false
set_option maxRecDepth 100000
set_option maxHeartbeats 2000000
namespace Lw
open PySem PySem.Spec L2 J
theorem atI_last {r : List Int} (hr : r ≠ []) : atI (r.map D.int) (-1) = some (.int (r.getLast hr)) := by
  have hl := List.length_pos_iff.mpr hr
  unfold atI ixN
  rw [if_neg (by decide), if_pos (by simp; omega)]
  simp only [Option.bind_some, List.length_map]
  have e : ((-1 : Int) + (r.length : Int)).toNat = r.length - 1 := by omega
  rw [e, List.getElem?_map, List.getLast_eq_getElem, List.getElem?_eq_getElem (by omega)]
  rfl
theorem dec_at {r : List Int} (hr : r.Pairwise fun a b => b ≤ a) {k : Nat} (h : k + 1 < r.length) : r[k + 1] ≤ r[k] := List.pairwise_iff_getElem.mp hr k (k + 1) (by omega) h (by omega)
theorem atI_row {r : List Int} {k : Nat} (h : k < r.length) : atI (r.map D.int) (k : Int) = some (.int r[k]) := atI_nat (by rw [List.getElem?_map, List.getElem?_eq_getElem h]; rfl)
theorem filt_tt {α : Type} (l : List α) : l.filter (fun _ => true) = l := List.filter_eq_self.mpr fun _ _ => rfl
theorem map_tt {α : Type} (l : List α) : ([] ++ ((l.filter fun _ => true).map fun _ => D.bl true)) = (List.replicate l.length true).map D.bl := by
  rw [filt_tt]
  apply List.ext_getElem <;> simp
theorem need_ok {r : List Int} {S : Store} {Q : QE} {E : String → Store → Prop} (hr : Valid r) (h : Q .non S) : Wneed_bar [rowD r] S Q E := by
  have r1 := Rt.same h
  have hl := List.length_pos_iff.mpr hr.ne
  have h6 := hr.len
  have hsum := hr.sum
  have hlast := hr.pos _ (List.getLast_mem hr.ne)
  unfold Wneed_bar bneed_bar
  simp only [wFn, startD, wSq, wSet, wVar, getS, wC, w2, w1, eTup, eLst, eLstM, wCons, wNil, wIf, wTst, wRet, wRetN, wDrop, wB, wNext, kB_b, orF_some, orF_none, kI0_ii, kIC_ii, kAdd_ii, kAdd_tt, kAdd_ll, kMul_ii, kMulT_ti, kInt_i, kMin2_ii, kMax2_ii, kLen_l, kLen_t, kLen_s, kIx_l, kIx_t, kIx_s, kTuple_l, kTuple_t, kList_l, kList_t, kSl_t, kSl_l, kEq_ii, kNe_ii, kLt, kLe, kGt, kGe, kSub, kMod, kFdiv, kPow, kIx_p, kLen_p, kAppend_p, kSetI_p, at4_0, at4_1, at4_2, at4_3, ix4_0, ix4_1, ix4_2, ix4_3, wAndT, wOrT, wNotT, wAndV, wOrV, wNotV, wIfE, wCall, wSub, wPar, wChn, wRaise, wSl, wPart, wNoP, wBrk, wCnt, wMt, wMt0, List.map_cons, List.map_nil, List.length_cons, List.length_nil, List.cons_append, List.nil_append, List.getElem?_cons_zero, List.getElem?_cons_succ, List.set_cons_zero, List.set_cons_succ, Option.join_some, Option.join_none, List.replicate_succ, List.replicate_zero, Nat.reduceAdd, Nat.reduceSub, Nat.sub_zero, rowD, List.length_map, atI_last hr.ne, kSum, intsOf_of]
  rw [if_pos (decide_eq_true (by omega)), if_neg (by rw [decide_eq_true (by omega)]; decide), if_neg (by rw [decide_eq_false (by omega)]; decide)]
  simp only [kNeg, kIx_t, atI_last hr.ne, orF_some, kI0_ii, kB_b]
  rw [if_neg (by rw [decide_eq_false (by omega)]; decide)]
  simp only [wLc, eLcA, wRng1, wFn, startD, wSq, wSet, wVar, getS, wC, w2, w1, eTup, eLst, eLstM, wCons, wNil, wIf, wTst, wRet, wRetN, wDrop, wB, wNext, kB_b, orF_some, orF_none, kI0_ii, kIC_ii, kAdd_ii, kAdd_tt, kAdd_ll, kMul_ii, kMulT_ti, kInt_i, kMin2_ii, kMax2_ii, kLen_l, kLen_t, kLen_s, kIx_l, kIx_t, kIx_s, kTuple_l, kTuple_t, kList_l, kList_t, kSl_t, kSl_l, kEq_ii, kNe_ii, kLt, kLe, kGt, kGe, kSub, kMod, kFdiv, kPow, kIx_p, kLen_p, kAppend_p, kSetI_p, at4_0, at4_1, at4_2, at4_3, ix4_0, ix4_1, ix4_2, ix4_3, wAndT, wOrT, wNotT, wAndV, wOrV, wNotV, wIfE, wCall, wSub, wPar, wChn, wRaise, wSl, wPart, wNoP, wBrk, wCnt, wMt, wMt0, List.map_cons, List.map_nil, List.length_cons, List.length_nil, List.cons_append, List.nil_append, List.getElem?_cons_zero, List.getElem?_cons_succ, List.set_cons_zero, List.set_cons_succ, Option.join_some, Option.join_none, List.replicate_succ, List.replicate_zero, Nat.reduceAdd, Nat.reduceSub, Nat.sub_zero, wipeD, List.length_map]
  refine ⟨⟨by omega, by omega⟩, fitsL (by simp; omega), lcl_pure (fun _ => true) (fun _ => .bl true) trivial _ _ (fun d hd => ?_) ?_⟩
  · obtain ⟨k, hk, rfl⟩ := List.mem_map.mp hd
    have hk' := List.mem_range.mp hk
    have h1 : k < r.length := by omega
    have h2 : k + 1 < r.length := by omega
    refine ⟨_, rfl, fun k h => h, fun _ K hK => ?_⟩
    have e2 : atI (r.map D.int) ((k : Int) + 1) = some (.int r[k + 1]) := atI_row h2
    simp only [wFn, startD, wSq, wSet, wVar, getS, wC, w2, w1, eTup, eLst, eLstM, wCons, wNil, wIf, wTst, wRet, wRetN, wDrop, wB, wNext, kB_b, orF_some, orF_none, kI0_ii, kIC_ii, kAdd_ii, kAdd_tt, kAdd_ll, kMul_ii, kMulT_ti, kInt_i, kMin2_ii, kMax2_ii, kLen_l, kLen_t, kLen_s, kIx_l, kIx_t, kIx_s, kTuple_l, kTuple_t, kList_l, kList_t, kSl_t, kSl_l, kEq_ii, kNe_ii, kLt, kLe, kGt, kGe, kSub, kMod, kFdiv, kPow, kIx_p, kLen_p, kAppend_p, kSetI_p, at4_0, at4_1, at4_2, at4_3, ix4_0, ix4_1, ix4_2, ix4_3, wAndT, wOrT, wNotT, wAndV, wOrV, wNotV, wIfE, wCall, wSub, wPar, wChn, wRaise, wSl, wPart, wNoP, wBrk, wCnt, wMt, wMt0, List.map_cons, List.map_nil, List.length_cons, List.length_nil, List.cons_append, List.nil_append, List.getElem?_cons_zero, List.getElem?_cons_succ, List.set_cons_zero, List.set_cons_succ, Option.join_some, Option.join_none, List.replicate_succ, List.replicate_zero, Nat.reduceAdd, Nat.reduceSub, Nat.sub_zero, atI_row h1, e2]
    rw [decide_eq_true (dec_at hr.dec h2)]
    exact hK
  · rw [map_tt, kAll_l, all_true, kB_b, if_neg (by decide)]
    exact r1
theorem cut_to {xs : List D} {i : Nat} : cutD xs none (some (i : Int)) = xs.take i := by
  unfold cutD
  rw [HT.sIx_none, HT.sIx_nat, List.drop_zero, Nat.sub_zero]
  by_cases h : i ≤ xs.length
  · rw [Nat.min_eq_left h]
  · rw [Nat.min_eq_right (by omega), List.take_of_length_le (Nat.le_refl _), List.take_of_length_le (by omega)]
theorem cut_from {xs : List D} {i : Nat} : cutD xs (some (i : Int)) none = xs.drop i := by
  unfold cutD
  rw [HT.sIx_none, HT.sIx_nat]
  by_cases h : i ≤ xs.length
  · rw [Nat.min_eq_left h, List.take_of_length_le (by rw [List.length_drop]; exact Nat.le_refl _)]
  · rw [Nat.min_eq_right (by omega), List.drop_of_length_le (Nat.le_refl _), List.drop_of_length_le (by omega), List.take_nil]
def mnD (c : Int) : D → D
  | .int x => .int (mn x c)
  | d => d
def posD : D → Bool
  | .int x => decide (0 < x)
  | _ => false
theorem pos_filter (l : List Int) : ((l.map D.int).filter posD).map id = (l.filter fun x => decide (0 < x)).map D.int := by
  rw [List.map_id, List.filter_map]; rfl
section
variable {r : List Int} {i : Nat} {c : Int} {a1 a2 a3 a4 a5 a6 : Option D} {S : Store} {K : QE}
/-- [min(length, column) for length in rows[row:]] -/
theorem lc1 (hr : Valid r) (h : K (.lst (((r.drop i).map fun x => mn x c).map D.int)) S) :
    wLc (wSeq (wSl (wVar 0) (wPart (wVar 2)) wNoP)) (Tgt.one 5) wYes (wB kMin2 (wCons (wVar 5) (wCons (wVar 3) wNil))) [5] [some (D.tup (r.map D.int)), a1, some (.int (i : Int)), some (.int c), a4, a5] S K := by
  have h6 := hr.len
  simp only [wLc, eLcA, wSeq, wFn, startD, wSq, wSet, wVar, getS, wC, w2, w1, eTup, eLst, eLstM, wCons, wNil, wIf, wTst, wRet, wRetN, wDrop, wB, wNext, kB_b, orF_some, orF_none, kI0_ii, kIC_ii, kAdd_ii, kAdd_tt, kAdd_ll, kMul_ii, kMulT_ti, kInt_i, kMin2_ii, kMax2_ii, kLen_l, kLen_t, kLen_s, kIx_l, kIx_t, kIx_s, kTuple_l, kTuple_t, kList_l, kList_t, kSl_t, kSl_l, kEq_ii, kNe_ii, kLt, kLe, kGt, kGe, kSub, kMod, kFdiv, kPow, kIx_p, kLen_p, kAppend_p, kSetI_p, at4_0, at4_1, at4_2, at4_3, ix4_0, ix4_1, ix4_2, ix4_3, wAndT, wOrT, wNotT, wAndV, wOrV, wNotV, wIfE, wCall, wSub, wPar, wChn, wRaise, wSl, wPart, wNoP, wBrk, wCnt, wMt, wMt0, List.map_cons, List.map_nil, List.length_cons, List.length_nil, List.cons_append, List.nil_append, List.getElem?_cons_zero, List.getElem?_cons_succ, List.set_cons_zero, List.set_cons_succ, Option.join_some, Option.join_none, List.replicate_succ, List.replicate_zero, Nat.reduceAdd, Nat.reduceSub, Nat.sub_zero, wipeD, cut_from]
  refine ⟨fitsL (by simp; omega), lcl_pure (fun _ => true) (mnD c) trivial _ _ (fun d hd => ?_) ?_⟩
  · obtain ⟨x, hx, rfl⟩ := List.mem_map.mp (List.mem_of_mem_drop hd)
    refine ⟨_, rfl, fun k h => h, fun _ K hK => ?_⟩
    simp only [wFn, startD, wSq, wSet, wVar, getS, wC, w2, w1, eTup, eLst, eLstM, wCons, wNil, wIf, wTst, wRet, wRetN, wDrop, wB, wNext, kB_b, orF_some, orF_none, kI0_ii, kIC_ii, kAdd_ii, kAdd_tt, kAdd_ll, kMul_ii, kMulT_ti, kInt_i, kMin2_ii, kMax2_ii, kLen_l, kLen_t, kLen_s, kIx_l, kIx_t, kIx_s, kTuple_l, kTuple_t, kList_l, kList_t, kSl_t, kSl_l, kEq_ii, kNe_ii, kLt, kLe, kGt, kGe, kSub, kMod, kFdiv, kPow, kIx_p, kLen_p, kAppend_p, kSetI_p, at4_0, at4_1, at4_2, at4_3, ix4_0, ix4_1, ix4_2, ix4_3, wAndT, wOrT, wNotT, wAndV, wOrV, wNotV, wIfE, wCall, wSub, wPar, wChn, wRaise, wSl, wPart, wNoP, wBrk, wCnt, wMt, wMt0, List.map_cons, List.map_nil, List.length_cons, List.length_nil, List.cons_append, List.nil_append, List.getElem?_cons_zero, List.getElem?_cons_succ, List.set_cons_zero, List.set_cons_succ, Option.join_some, Option.join_none, List.replicate_succ, List.replicate_zero, Nat.reduceAdd, Nat.reduceSub, Nat.sub_zero]
    exact hK
  · rw [filt_tt, List.nil_append, ← List.map_drop, List.map_map]
    rw [List.map_map] at h
    exact h
/-- tuple([length for length in left if length > 0]) -/
theorem lc2 {l : List Int} (hl : l.length ≤ 100) (h : K (.lst ((l.filter fun x => decide (0 < x)).map D.int)) S) :
    wLc (wSeq (wVar 4)) (Tgt.one 5) (wTst (w2 (kI0 fun i j => D.bl (decide (j < i))) (wVar 5) (wC (D.int 0)))) (wVar 5) [5] [a1, a2, a3, a5, some (.tup (l.map D.int)), a6] S K := by
  simp only [wLc, eLcA, wSeq, wFn, startD, wSq, wSet, wVar, getS, wC, w2, w1, eTup, eLst, eLstM, wCons, wNil, wIf, wTst, wRet, wRetN, wDrop, wB, wNext, kB_b, orF_some, orF_none, kI0_ii, kIC_ii, kAdd_ii, kAdd_tt, kAdd_ll, kMul_ii, kMulT_ti, kInt_i, kMin2_ii, kMax2_ii, kLen_l, kLen_t, kLen_s, kIx_l, kIx_t, kIx_s, kTuple_l, kTuple_t, kList_l, kList_t, kSl_t, kSl_l, kEq_ii, kNe_ii, kLt, kLe, kGt, kGe, kSub, kMod, kFdiv, kPow, kIx_p, kLen_p, kAppend_p, kSetI_p, at4_0, at4_1, at4_2, at4_3, ix4_0, ix4_1, ix4_2, ix4_3, wAndT, wOrT, wNotT, wAndV, wOrV, wNotV, wIfE, wCall, wSub, wPar, wChn, wRaise, wSl, wPart, wNoP, wBrk, wCnt, wMt, wMt0, List.map_cons, List.map_nil, List.length_cons, List.length_nil, List.cons_append, List.nil_append, List.getElem?_cons_zero, List.getElem?_cons_succ, List.set_cons_zero, List.set_cons_succ, Option.join_some, Option.join_none, List.replicate_succ, List.replicate_zero, Nat.reduceAdd, Nat.reduceSub, Nat.sub_zero, wipeD]
  refine ⟨fitsL (by simp; omega), lcl_pure posD id trivial _ _ (fun d hd => ?_) ?_⟩
  · obtain ⟨x, hx, rfl⟩ := List.mem_map.mp hd
    refine ⟨_, rfl, fun k h => ?_, fun _ K hK => ?_⟩
    · simp only [wFn, startD, wSq, wSet, wVar, getS, wC, w2, w1, eTup, eLst, eLstM, wCons, wNil, wIf, wTst, wRet, wRetN, wDrop, wB, wNext, kB_b, orF_some, orF_none, kI0_ii, kIC_ii, kAdd_ii, kAdd_tt, kAdd_ll, kMul_ii, kMulT_ti, kInt_i, kMin2_ii, kMax2_ii, kLen_l, kLen_t, kLen_s, kIx_l, kIx_t, kIx_s, kTuple_l, kTuple_t, kList_l, kList_t, kSl_t, kSl_l, kEq_ii, kNe_ii, kLt, kLe, kGt, kGe, kSub, kMod, kFdiv, kPow, kIx_p, kLen_p, kAppend_p, kSetI_p, at4_0, at4_1, at4_2, at4_3, ix4_0, ix4_1, ix4_2, ix4_3, wAndT, wOrT, wNotT, wAndV, wOrV, wNotV, wIfE, wCall, wSub, wPar, wChn, wRaise, wSl, wPart, wNoP, wBrk, wCnt, wMt, wMt0, List.map_cons, List.map_nil, List.length_cons, List.length_nil, List.cons_append, List.nil_append, List.getElem?_cons_zero, List.getElem?_cons_succ, List.set_cons_zero, List.set_cons_succ, Option.join_some, Option.join_none, List.replicate_succ, List.replicate_zero, Nat.reduceAdd, Nat.reduceSub, Nat.sub_zero]; exact h
    · simp only [wFn, startD, wSq, wSet, wVar, getS, wC, w2, w1, eTup, eLst, eLstM, wCons, wNil, wIf, wTst, wRet, wRetN, wDrop, wB, wNext, kB_b, orF_some, orF_none, kI0_ii, kIC_ii, kAdd_ii, kAdd_tt, kAdd_ll, kMul_ii, kMulT_ti, kInt_i, kMin2_ii, kMax2_ii, kLen_l, kLen_t, kLen_s, kIx_l, kIx_t, kIx_s, kTuple_l, kTuple_t, kList_l, kList_t, kSl_t, kSl_l, kEq_ii, kNe_ii, kLt, kLe, kGt, kGe, kSub, kMod, kFdiv, kPow, kIx_p, kLen_p, kAppend_p, kSetI_p, at4_0, at4_1, at4_2, at4_3, ix4_0, ix4_1, ix4_2, ix4_3, wAndT, wOrT, wNotT, wAndV, wOrV, wNotV, wIfE, wCall, wSub, wPar, wChn, wRaise, wSl, wPart, wNoP, wBrk, wCnt, wMt, wMt0, List.map_cons, List.map_nil, List.length_cons, List.length_nil, List.cons_append, List.nil_append, List.getElem?_cons_zero, List.getElem?_cons_succ, List.set_cons_zero, List.set_cons_succ, Option.join_some, Option.join_none, List.replicate_succ, List.replicate_zero, Nat.reduceAdd, Nat.reduceSub, Nat.sub_zero]; exact hK
  · rw [List.nil_append, pos_filter]; exact h
end
theorem mem_sum {r : List Int} (h : ∀ x ∈ r, 1 ≤ x) {x : Int} (hx : x ∈ r) : x ≤ r.sum := by
  induction r with
  | nil => cases hx
  | cons y r ih =>
    have h1 := pos_sum r fun z hz => h z (List.mem_cons_of_mem _ hz)
    rw [List.sum_cons]
    rcases List.mem_cons.mp hx with rfl | hx
    · omega
    · have := ih (fun z hz => h z (List.mem_cons_of_mem _ hz)) hx
      have := h y List.mem_cons_self
      omega
theorem bsRow_succ (r : List Int) (i j : Nat) : bsRow r i (j + 1) = bsRow r i j ++ (if 0 < i + j then [bite r i (j : Int)] else []) := by
  unfold bsRow
  rw [List.range_succ, List.filter_append, List.map_append]
  congr 1
  by_cases h : 0 < i + j
  · rw [if_pos h]; simp [h]
  · rw [if_neg h]; simp [h]
theorem bsTo_succ {r : List Int} {k : Nat} (hk : k < r.length) : bsTo r (k + 1) = bsTo r k ++ bsRow r k r[k].toNat := by
  have hget : r.getD k 0 = r[k] := by simp [List.getD, List.getElem?_eq_getElem hk]
  rw [bsTo, hget]
theorem bsLen_le {r : List Int} (hr : Valid r) {k j : Nat} (hk : k < r.length) (hj : j ≤ r[k].toNat) : (bsTo r k ++ bsRow r k j).length ≤ 100 := by
  have h1 := bsTo_len hr (n := k) (by omega)
  have h2 := pos_sum (r.drop k) fun x hx => hr.pos x (List.mem_of_mem_drop hx)
  have h3 : (r.take k).sum + (r.drop k).sum = r.sum := by rw [← List.sum_append, List.take_append_drop]
  have h4 : (bsRow r k j).length ≤ j := by
    unfold bsRow
    rw [List.length_map]
    exact Nat.le_trans (List.length_filter_le _ _) (by rw [List.length_range]; exact Nat.le_refl _)
  have h5 := mem_sum hr.pos (List.getElem_mem hk)
  have h6 := hr.sum
  rw [List.length_append]
  omega
theorem idx_range {n k : Nat} {d : D} (h : ((List.range n).map fun k : Nat => D.int (k : Int))[k]? = some d) : k < n ∧ d = .int (k : Int) := by
  have hk : k < n := by have := (List.getElem?_eq_some_iff.mp h).1; simpa using this
  rw [List.getElem?_map, List.getElem?_range hk] at h
  cases h
  exact ⟨hk, rfl⟩
theorem rows_snoc (l : List (List Int)) (x : List Int) : (l.map rowD) ++ [rowD x] = (l ++ [x]).map rowD := by simp
theorem bites_sem {r : List Int} {S : Store} {Q : QE} {E : String → Store → Prop} (hr : Valid r) (h : Q (.lst ((opt r).map rowD)) S) : Wbites [rowD r] S Q E := by
  have h6 := hr.len
  unfold Wbites bbites
  simp only [wFn, startD, wSq, wSet, wVar, getS, wC, w2, w1, eTup, eLst, eLstM, wCons, wNil, wIf, wTst, wRet, wRetN, wDrop, wB, wNext, kB_b, orF_some, orF_none, kI0_ii, kIC_ii, kAdd_ii, kAdd_tt, kAdd_ll, kMul_ii, kMulT_ti, kInt_i, kMin2_ii, kMax2_ii, kLen_l, kLen_t, kLen_s, kIx_l, kIx_t, kIx_s, kTuple_l, kTuple_t, kList_l, kList_t, kSl_t, kSl_l, kEq_ii, kNe_ii, kLt, kLe, kGt, kGe, kSub, kMod, kFdiv, kPow, kIx_p, kLen_p, kAppend_p, kSetI_p, at4_0, at4_1, at4_2, at4_3, ix4_0, ix4_1, ix4_2, ix4_3, wAndT, wOrT, wNotT, wAndV, wOrV, wNotV, wIfE, wCall, wSub, wPar, wChn, wRaise, wSl, wPart, wNoP, wBrk, wCnt, wMt, wMt0, List.map_cons, List.map_nil, List.length_cons, List.length_nil, List.cons_append, List.nil_append, List.getElem?_cons_zero, List.getElem?_cons_succ, List.set_cons_zero, List.set_cons_succ, Option.join_some, Option.join_none, List.replicate_succ, List.replicate_zero, Nat.reduceAdd, Nat.reduceSub, Nat.sub_zero]
  refine ⟨trivial, need_ok hr ⟨fits (by decide), fun p hp => ?_⟩⟩
  simp only [wFor, wRng1, wFn, startD, wSq, wSet, wVar, getS, wC, w2, w1, eTup, eLst, eLstM, wCons, wNil, wIf, wTst, wRet, wRetN, wDrop, wB, wNext, kB_b, orF_some, orF_none, kI0_ii, kIC_ii, kAdd_ii, kAdd_tt, kAdd_ll, kMul_ii, kMulT_ti, kInt_i, kMin2_ii, kMax2_ii, kLen_l, kLen_t, kLen_s, kIx_l, kIx_t, kIx_s, kTuple_l, kTuple_t, kList_l, kList_t, kSl_t, kSl_l, kEq_ii, kNe_ii, kLt, kLe, kGt, kGe, kSub, kMod, kFdiv, kPow, kIx_p, kLen_p, kAppend_p, kSetI_p, at4_0, at4_1, at4_2, at4_3, ix4_0, ix4_1, ix4_2, ix4_3, wAndT, wOrT, wNotT, wAndV, wOrV, wNotV, wIfE, wCall, wSub, wPar, wChn, wRaise, wSl, wPart, wNoP, wBrk, wCnt, wMt, wMt0, List.map_cons, List.map_nil, List.length_cons, List.length_nil, List.cons_append, List.nil_append, List.getElem?_cons_zero, List.getElem?_cons_succ, List.set_cons_zero, List.set_cons_succ, Option.join_some, Option.join_none, List.replicate_succ, List.replicate_zero, Nat.reduceAdd, Nat.reduceSub, Nat.sub_zero, rowD, List.length_map, Int.toNat_natCast]
  refine ⟨⟨by omega, by omega⟩, fl_inv (fun k g S' => k ≤ r.length ∧ ∃ a b c d, g = [some (rowD r), some (.ref p), a, b, c, d] ∧ S' = put S p (.lst ((bsTo r k).map rowD))) _ 0 _ _ ⟨Nat.zero_le _, _, _, _, _, rfl, rfl⟩ (fun k d g S' N hk hI hN => ?_) fun g S' hI => ?_⟩
  · obtain ⟨_, a, b, c, d', rfl, rfl⟩ := hI
    simp only [Nat.zero_add] at hN ⊢
    obtain ⟨hkl, rfl⟩ := idx_range hk
    refine ⟨trivial, _, rfl, ?_⟩
    have hpos := hr.pos r[k] (List.getElem_mem hkl)
    have h40 := mem_sum hr.pos (List.getElem_mem hkl)
    have hs := hr.sum
    simp only [wFor, wRng1, wFn, startD, wSq, wSet, wVar, getS, wC, w2, w1, eTup, eLst, eLstM, wCons, wNil, wIf, wTst, wRet, wRetN, wDrop, wB, wNext, kB_b, orF_some, orF_none, kI0_ii, kIC_ii, kAdd_ii, kAdd_tt, kAdd_ll, kMul_ii, kMulT_ti, kInt_i, kMin2_ii, kMax2_ii, kLen_l, kLen_t, kLen_s, kIx_l, kIx_t, kIx_s, kTuple_l, kTuple_t, kList_l, kList_t, kSl_t, kSl_l, kEq_ii, kNe_ii, kLt, kLe, kGt, kGe, kSub, kMod, kFdiv, kPow, kIx_p, kLen_p, kAppend_p, kSetI_p, at4_0, at4_1, at4_2, at4_3, ix4_0, ix4_1, ix4_2, ix4_3, wAndT, wOrT, wNotT, wAndV, wOrV, wNotV, wIfE, wCall, wSub, wPar, wChn, wRaise, wSl, wPart, wNoP, wBrk, wCnt, wMt, wMt0, List.map_cons, List.map_nil, List.length_cons, List.length_nil, List.cons_append, List.nil_append, List.getElem?_cons_zero, List.getElem?_cons_succ, List.set_cons_zero, List.set_cons_succ, Option.join_some, Option.join_none, List.replicate_succ, List.replicate_zero, Nat.reduceAdd, Nat.reduceSub, Nat.sub_zero, rowD, atI_row hkl]
    refine ⟨⟨by omega, by omega⟩, fl_inv (fun j g S' => j ≤ r[k].toNat ∧ ∃ b c d, g = [some (rowD r), some (.ref p), some (.int (k : Int)), b, c, d] ∧ S' = put S p (.lst ((bsTo r k ++ bsRow r k j).map rowD))) _ 0 _ _ ⟨Nat.zero_le _, _, _, _, rfl, by simp [bsRow]⟩ (fun j d g S' N' hj hI' hN' => ?_) fun g S' hI' => ?_⟩
    · obtain ⟨_, b, c, d2, rfl, rfl⟩ := hI'
      simp only [Nat.zero_add] at hN' ⊢
      obtain ⟨hjl, rfl⟩ := idx_range hj
      refine ⟨trivial, _, rfl, ?_⟩
      have hfit := bsLen_le hr hkl (Nat.le_of_lt hjl)
      simp only [wFn, startD, wSq, wSet, wVar, getS, wC, w2, w1, eTup, eLst, eLstM, wCons, wNil, wIf, wTst, wRet, wRetN, wDrop, wB, wNext, kB_b, orF_some, orF_none, kI0_ii, kIC_ii, kAdd_ii, kAdd_tt, kAdd_ll, kMul_ii, kMulT_ti, kInt_i, kMin2_ii, kMax2_ii, kLen_l, kLen_t, kLen_s, kIx_l, kIx_t, kIx_s, kTuple_l, kTuple_t, kList_l, kList_t, kSl_t, kSl_l, kEq_ii, kNe_ii, kLt, kLe, kGt, kGe, kSub, kMod, kFdiv, kPow, kIx_p, kLen_p, kAppend_p, kSetI_p, at4_0, at4_1, at4_2, at4_3, ix4_0, ix4_1, ix4_2, ix4_3, wAndT, wOrT, wNotT, wAndV, wOrV, wNotV, wIfE, wCall, wSub, wPar, wChn, wRaise, wSl, wPart, wNoP, wBrk, wCnt, wMt, wMt0, List.map_cons, List.map_nil, List.length_cons, List.length_nil, List.cons_append, List.nil_append, List.getElem?_cons_zero, List.getElem?_cons_succ, List.set_cons_zero, List.set_cons_succ, Option.join_some, Option.join_none, List.replicate_succ, List.replicate_zero, Nat.reduceAdd, Nat.reduceSub, Nat.sub_zero, rowD]
      by_cases h0 : (0 : Int) < (k : Int) + (j : Int)
      · rw [if_pos (decide_eq_true h0)]
        have hb : bsRow r k (j + 1) = bsRow r k j ++ [bite r k (j : Int)] := by rw [bsRow_succ, if_pos (by omega)]
        refine lc1 hr ?_
        simp only [wFn, startD, wSq, wSet, wVar, getS, wC, w2, w1, eTup, eLst, eLstM, wCons, wNil, wIf, wTst, wRet, wRetN, wDrop, wB, wNext, kB_b, orF_some, orF_none, kI0_ii, kIC_ii, kAdd_ii, kAdd_tt, kAdd_ll, kMul_ii, kMulT_ti, kInt_i, kMin2_ii, kMax2_ii, kLen_l, kLen_t, kLen_s, kIx_l, kIx_t, kIx_s, kTuple_l, kTuple_t, kList_l, kList_t, kSl_t, kSl_l, kEq_ii, kNe_ii, kLt, kLe, kGt, kGe, kSub, kMod, kFdiv, kPow, kIx_p, kLen_p, kAppend_p, kSetI_p, at4_0, at4_1, at4_2, at4_3, ix4_0, ix4_1, ix4_2, ix4_3, wAndT, wOrT, wNotT, wAndV, wOrV, wNotV, wIfE, wCall, wSub, wPar, wChn, wRaise, wSl, wPart, wNoP, wBrk, wCnt, wMt, wMt0, List.map_cons, List.map_nil, List.length_cons, List.length_nil, List.cons_append, List.nil_append, List.getElem?_cons_zero, List.getElem?_cons_succ, List.set_cons_zero, List.set_cons_succ, Option.join_some, Option.join_none, List.replicate_succ, List.replicate_zero, Nat.reduceAdd, Nat.reduceSub, Nat.sub_zero, cut_to]
        refine ⟨fits (by simp; omega), isLst_p, ?_⟩
        rw [← List.map_take, ← List.map_append]
        refine lc2 (by simp; omega) ?_
        simp only [wFn, startD, wSq, wSet, wVar, getS, wC, w2, w1, eTup, eLst, eLstM, wCons, wNil, wIf, wTst, wRet, wRetN, wDrop, wB, wNext, kB_b, orF_some, orF_none, kI0_ii, kIC_ii, kAdd_ii, kAdd_tt, kAdd_ll, kMul_ii, kMulT_ti, kInt_i, kMin2_ii, kMax2_ii, kLen_l, kLen_t, kLen_s, kIx_l, kIx_t, kIx_s, kTuple_l, kTuple_t, kList_l, kList_t, kSl_t, kSl_l, kEq_ii, kNe_ii, kLt, kLe, kGt, kGe, kSub, kMod, kFdiv, kPow, kIx_p, kLen_p, kAppend_p, kSetI_p, at4_0, at4_1, at4_2, at4_3, ix4_0, ix4_1, ix4_2, ix4_3, wAndT, wOrT, wNotT, wAndV, wOrV, wNotV, wIfE, wCall, wSub, wPar, wChn, wRaise, wSl, wPart, wNoP, wBrk, wCnt, wMt, wMt0, List.map_cons, List.map_nil, List.length_cons, List.length_nil, List.cons_append, List.nil_append, List.getElem?_cons_zero, List.getElem?_cons_succ, List.set_cons_zero, List.set_cons_succ, Option.join_some, Option.join_none, List.replicate_succ, List.replicate_zero, Nat.reduceAdd, Nat.reduceSub, Nat.sub_zero, List.length_map]
        refine ⟨fitsL (by omega), hN' _ _ ⟨by omega, _, _, _, rfl, ?_⟩⟩
        rw [hb, ← List.append_assoc, ← rows_snoc]
        rfl
      · rw [if_neg (by rw [decide_eq_false h0]; decide)]
        refine hN' _ _ ⟨by omega, _, _, _, rfl, ?_⟩
        rw [bsRow_succ, if_neg (by omega), List.append_nil]
    · obtain ⟨_, b, c, d2, rfl, rfl⟩ := hI'
      refine ⟨trivial, hN _ _ ⟨by omega, _, _, _, _, rfl, ?_⟩⟩
      rw [bsTo_succ hkl]
      simp
  · obtain ⟨_, a, b, c, d, rfl, rfl⟩ := hI
    simp only [Nat.zero_add, List.length_map, List.length_range]
    refine ⟨trivial, ?_⟩
    simp only [wFn, startD, wSq, wSet, wVar, getS, wC, w2, w1, eTup, eLst, eLstM, wCons, wNil, wIf, wTst, wRet, wRetN, wDrop, wB, wNext, kB_b, orF_some, orF_none, kI0_ii, kIC_ii, kAdd_ii, kAdd_tt, kAdd_ll, kMul_ii, kMulT_ti, kInt_i, kMin2_ii, kMax2_ii, kLen_l, kLen_t, kLen_s, kIx_l, kIx_t, kIx_s, kTuple_l, kTuple_t, kList_l, kList_t, kSl_t, kSl_l, kEq_ii, kNe_ii, kLt, kLe, kGt, kGe, kSub, kMod, kFdiv, kPow, kIx_p, kLen_p, kAppend_p, kSetI_p, at4_0, at4_1, at4_2, at4_3, ix4_0, ix4_1, ix4_2, ix4_3, wAndT, wOrT, wNotT, wAndV, wOrV, wNotV, wIfE, wCall, wSub, wPar, wChn, wRaise, wSl, wPart, wNoP, wBrk, wCnt, wMt, wMt0, List.map_cons, List.map_nil, List.length_cons, List.length_nil, List.cons_append, List.nil_append, List.getElem?_cons_zero, List.getElem?_cons_succ, List.set_cons_zero, List.set_cons_succ, Option.join_some, Option.join_none, List.replicate_succ, List.replicate_zero, Nat.reduceAdd, Nat.reduceSub, Nat.sub_zero, kSortSet_r put_same]
    refine ⟨bs_len hr, fun x hx => (bs_valid hr hx).1.ne, fun out h1 h2 => Rt.less (sub_put hp) ?_⟩
    have e : out = opt r := srt_uniq h1 (srt_srt _) fun z => (h2 z).trans srt_mem.symm
    rw [e]; exact h
end Lw
set_option Elab.async false
set_option linter.all false
set_option maxRecDepth 100000
set_option maxHeartbeats 2000000
namespace Lw
open PySem PySem.Spec L2 J
section
variable {r : List Int} {i : Nat} {c : Int} {a1 a2 a3 a4 a5 a6 : Option D} {S : Store} {K : QE}
/-- the same of a list -/
theorem lc2L {l : List Int} (hl : l.length ≤ 100) (h : K (.lst ((l.filter fun x => decide (0 < x)).map D.int)) S) :
    wLc (wSeq (wVar 4)) (Tgt.one 5) (wTst (w2 (kI0 fun i j => D.bl (decide (j < i))) (wVar 5) (wC (D.int 0)))) (wVar 5) [5] [a1, a2, a3, a5, some (.lst (l.map D.int)), a6] S K := by
  simp only [wLc, eLcA, wSeq, wFn, startD, wSq, wSet, wVar, getS, wC, w2, w1, eTup, eLst, eLstM, wCons, wNil, wIf, wTst, wRet, wRetN, wDrop, wB, wNext, kB_b, orF_some, orF_none, kI0_ii, kIC_ii, kAdd_ii, kAdd_tt, kAdd_ll, kMul_ii, kMulT_ti, kInt_i, kMin2_ii, kMax2_ii, kLen_l, kLen_t, kLen_s, kIx_l, kIx_t, kIx_s, kTuple_l, kTuple_t, kList_l, kList_t, kSl_t, kSl_l, kEq_ii, kNe_ii, kLt, kLe, kGt, kGe, kSub, kMod, kFdiv, kPow, kIx_p, kLen_p, kAppend_p, kSetI_p, at4_0, at4_1, at4_2, at4_3, ix4_0, ix4_1, ix4_2, ix4_3, wAndT, wOrT, wNotT, wAndV, wOrV, wNotV, wIfE, wCall, wSub, wPar, wChn, wRaise, wSl, wPart, wNoP, wBrk, wCnt, wMt, wMt0, List.map_cons, List.map_nil, List.length_cons, List.length_nil, List.cons_append, List.nil_append, List.getElem?_cons_zero, List.getElem?_cons_succ, List.set_cons_zero, List.set_cons_succ, Option.join_some, Option.join_none, List.replicate_succ, List.replicate_zero, Nat.reduceAdd, Nat.reduceSub, Nat.sub_zero, wipeD]
  refine ⟨fitsL (by simp; omega), lcl_pure posD id trivial _ _ (fun d hd => ?_) ?_⟩
  · obtain ⟨x, hx, rfl⟩ := List.mem_map.mp hd
    refine ⟨_, rfl, fun k h => ?_, fun _ K hK => ?_⟩
    · simp only [wFn, startD, wSq, wSet, wVar, getS, wC, w2, w1, eTup, eLst, eLstM, wCons, wNil, wIf, wTst, wRet, wRetN, wDrop, wB, wNext, kB_b, orF_some, orF_none, kI0_ii, kIC_ii, kAdd_ii, kAdd_tt, kAdd_ll, kMul_ii, kMulT_ti, kInt_i, kMin2_ii, kMax2_ii, kLen_l, kLen_t, kLen_s, kIx_l, kIx_t, kIx_s, kTuple_l, kTuple_t, kList_l, kList_t, kSl_t, kSl_l, kEq_ii, kNe_ii, kLt, kLe, kGt, kGe, kSub, kMod, kFdiv, kPow, kIx_p, kLen_p, kAppend_p, kSetI_p, at4_0, at4_1, at4_2, at4_3, ix4_0, ix4_1, ix4_2, ix4_3, wAndT, wOrT, wNotT, wAndV, wOrV, wNotV, wIfE, wCall, wSub, wPar, wChn, wRaise, wSl, wPart, wNoP, wBrk, wCnt, wMt, wMt0, List.map_cons, List.map_nil, List.length_cons, List.length_nil, List.cons_append, List.nil_append, List.getElem?_cons_zero, List.getElem?_cons_succ, List.set_cons_zero, List.set_cons_succ, Option.join_some, Option.join_none, List.replicate_succ, List.replicate_zero, Nat.reduceAdd, Nat.reduceSub, Nat.sub_zero]; exact h
    · simp only [wFn, startD, wSq, wSet, wVar, getS, wC, w2, w1, eTup, eLst, eLstM, wCons, wNil, wIf, wTst, wRet, wRetN, wDrop, wB, wNext, kB_b, orF_some, orF_none, kI0_ii, kIC_ii, kAdd_ii, kAdd_tt, kAdd_ll, kMul_ii, kMulT_ti, kInt_i, kMin2_ii, kMax2_ii, kLen_l, kLen_t, kLen_s, kIx_l, kIx_t, kIx_s, kTuple_l, kTuple_t, kList_l, kList_t, kSl_t, kSl_l, kEq_ii, kNe_ii, kLt, kLe, kGt, kGe, kSub, kMod, kFdiv, kPow, kIx_p, kLen_p, kAppend_p, kSetI_p, at4_0, at4_1, at4_2, at4_3, ix4_0, ix4_1, ix4_2, ix4_3, wAndT, wOrT, wNotT, wAndV, wOrV, wNotV, wIfE, wCall, wSub, wPar, wChn, wRaise, wSl, wPart, wNoP, wBrk, wCnt, wMt, wMt0, List.map_cons, List.map_nil, List.length_cons, List.length_nil, List.cons_append, List.nil_append, List.getElem?_cons_zero, List.getElem?_cons_succ, List.set_cons_zero, List.set_cons_succ, Option.join_some, Option.join_none, List.replicate_succ, List.replicate_zero, Nat.reduceAdd, Nat.reduceSub, Nat.sub_zero]; exact hK
  · rw [List.nil_append, pos_filter]; exact h
end
theorem lbites_sem {r : List Int} {S : Store} {Q : QE} {E : String → Store → Prop} (hr : Valid r) (h : Q (.lst ((opt r).map rowD)) S) : W_law_bites [rowD r] S Q E := by
  have h6 := hr.len
  unfold W_law_bites b_law_bites
  simp only [wFn, startD, wSq, wSet, wVar, getS, wC, w2, w1, eTup, eLst, eLstM, wCons, wNil, wIf, wTst, wRet, wRetN, wDrop, wB, wNext, kB_b, orF_some, orF_none, kI0_ii, kIC_ii, kAdd_ii, kAdd_tt, kAdd_ll, kMul_ii, kMulT_ti, kInt_i, kMin2_ii, kMax2_ii, kLen_l, kLen_t, kLen_s, kIx_l, kIx_t, kIx_s, kTuple_l, kTuple_t, kList_l, kList_t, kSl_t, kSl_l, kEq_ii, kNe_ii, kLt, kLe, kGt, kGe, kSub, kMod, kFdiv, kPow, kIx_p, kLen_p, kAppend_p, kSetI_p, at4_0, at4_1, at4_2, at4_3, ix4_0, ix4_1, ix4_2, ix4_3, wAndT, wOrT, wNotT, wAndV, wOrV, wNotV, wIfE, wCall, wSub, wPar, wChn, wRaise, wSl, wPart, wNoP, wBrk, wCnt, wMt, wMt0, List.map_cons, List.map_nil, List.length_cons, List.length_nil, List.cons_append, List.nil_append, List.getElem?_cons_zero, List.getElem?_cons_succ, List.set_cons_zero, List.set_cons_succ, Option.join_some, Option.join_none, List.replicate_succ, List.replicate_zero, Nat.reduceAdd, Nat.reduceSub, Nat.sub_zero]
  refine ⟨fits (by decide), fun p hp => ?_⟩
  simp only [wFor, wRng1, wFn, startD, wSq, wSet, wVar, getS, wC, w2, w1, eTup, eLst, eLstM, wCons, wNil, wIf, wTst, wRet, wRetN, wDrop, wB, wNext, kB_b, orF_some, orF_none, kI0_ii, kIC_ii, kAdd_ii, kAdd_tt, kAdd_ll, kMul_ii, kMulT_ti, kInt_i, kMin2_ii, kMax2_ii, kLen_l, kLen_t, kLen_s, kIx_l, kIx_t, kIx_s, kTuple_l, kTuple_t, kList_l, kList_t, kSl_t, kSl_l, kEq_ii, kNe_ii, kLt, kLe, kGt, kGe, kSub, kMod, kFdiv, kPow, kIx_p, kLen_p, kAppend_p, kSetI_p, at4_0, at4_1, at4_2, at4_3, ix4_0, ix4_1, ix4_2, ix4_3, wAndT, wOrT, wNotT, wAndV, wOrV, wNotV, wIfE, wCall, wSub, wPar, wChn, wRaise, wSl, wPart, wNoP, wBrk, wCnt, wMt, wMt0, List.map_cons, List.map_nil, List.length_cons, List.length_nil, List.cons_append, List.nil_append, List.getElem?_cons_zero, List.getElem?_cons_succ, List.set_cons_zero, List.set_cons_succ, Option.join_some, Option.join_none, List.replicate_succ, List.replicate_zero, Nat.reduceAdd, Nat.reduceSub, Nat.sub_zero, rowD, List.length_map, Int.toNat_natCast]
  refine ⟨⟨by omega, by omega⟩, fl_inv (fun k g S' => k ≤ r.length ∧ ∃ a b c d, g = [some (rowD r), some (.ref p), a, b, c, d] ∧ S' = put S p (.lst ((bsTo r k).map rowD))) _ 0 _ _ ⟨Nat.zero_le _, _, _, _, _, rfl, rfl⟩ (fun k d g S' N hk hI hN => ?_) fun g S' hI => ?_⟩
  · obtain ⟨_, a, b, c, d', rfl, rfl⟩ := hI
    simp only [Nat.zero_add] at hN ⊢
    obtain ⟨hkl, rfl⟩ := idx_range hk
    refine ⟨trivial, _, rfl, ?_⟩
    have hpos := hr.pos r[k] (List.getElem_mem hkl)
    have h40 := mem_sum hr.pos (List.getElem_mem hkl)
    have hs := hr.sum
    simp only [wFor, wRng1, wFn, startD, wSq, wSet, wVar, getS, wC, w2, w1, eTup, eLst, eLstM, wCons, wNil, wIf, wTst, wRet, wRetN, wDrop, wB, wNext, kB_b, orF_some, orF_none, kI0_ii, kIC_ii, kAdd_ii, kAdd_tt, kAdd_ll, kMul_ii, kMulT_ti, kInt_i, kMin2_ii, kMax2_ii, kLen_l, kLen_t, kLen_s, kIx_l, kIx_t, kIx_s, kTuple_l, kTuple_t, kList_l, kList_t, kSl_t, kSl_l, kEq_ii, kNe_ii, kLt, kLe, kGt, kGe, kSub, kMod, kFdiv, kPow, kIx_p, kLen_p, kAppend_p, kSetI_p, at4_0, at4_1, at4_2, at4_3, ix4_0, ix4_1, ix4_2, ix4_3, wAndT, wOrT, wNotT, wAndV, wOrV, wNotV, wIfE, wCall, wSub, wPar, wChn, wRaise, wSl, wPart, wNoP, wBrk, wCnt, wMt, wMt0, List.map_cons, List.map_nil, List.length_cons, List.length_nil, List.cons_append, List.nil_append, List.getElem?_cons_zero, List.getElem?_cons_succ, List.set_cons_zero, List.set_cons_succ, Option.join_some, Option.join_none, List.replicate_succ, List.replicate_zero, Nat.reduceAdd, Nat.reduceSub, Nat.sub_zero, rowD, atI_row hkl]
    refine ⟨⟨by omega, by omega⟩, fl_inv (fun j g S' => j ≤ r[k].toNat ∧ ∃ b c d, g = [some (rowD r), some (.ref p), some (.int (k : Int)), b, c, d] ∧ S' = put S p (.lst ((bsTo r k ++ bsRow r k j).map rowD))) _ 0 _ _ ⟨Nat.zero_le _, _, _, _, rfl, by simp [bsRow]⟩ (fun j d g S' N' hj hI' hN' => ?_) fun g S' hI' => ?_⟩
    · obtain ⟨_, b, c, d2, rfl, rfl⟩ := hI'
      simp only [Nat.zero_add] at hN' ⊢
      obtain ⟨hjl, rfl⟩ := idx_range hj
      refine ⟨trivial, _, rfl, ?_⟩
      have hfit := bsLen_le hr hkl (Nat.le_of_lt hjl)
      simp only [wFn, startD, wSq, wSet, wVar, getS, wC, w2, w1, eTup, eLst, eLstM, wCons, wNil, wIf, wTst, wRet, wRetN, wDrop, wB, wNext, kB_b, orF_some, orF_none, kI0_ii, kIC_ii, kAdd_ii, kAdd_tt, kAdd_ll, kMul_ii, kMulT_ti, kInt_i, kMin2_ii, kMax2_ii, kLen_l, kLen_t, kLen_s, kIx_l, kIx_t, kIx_s, kTuple_l, kTuple_t, kList_l, kList_t, kSl_t, kSl_l, kEq_ii, kNe_ii, kLt, kLe, kGt, kGe, kSub, kMod, kFdiv, kPow, kIx_p, kLen_p, kAppend_p, kSetI_p, at4_0, at4_1, at4_2, at4_3, ix4_0, ix4_1, ix4_2, ix4_3, wAndT, wOrT, wNotT, wAndV, wOrV, wNotV, wIfE, wCall, wSub, wPar, wChn, wRaise, wSl, wPart, wNoP, wBrk, wCnt, wMt, wMt0, List.map_cons, List.map_nil, List.length_cons, List.length_nil, List.cons_append, List.nil_append, List.getElem?_cons_zero, List.getElem?_cons_succ, List.set_cons_zero, List.set_cons_succ, Option.join_some, Option.join_none, List.replicate_succ, List.replicate_zero, Nat.reduceAdd, Nat.reduceSub, Nat.sub_zero, rowD]
      have hne : ∀ Q : QE, kNe (.tup [.int (k : Int), .int (j : Int)]) (.tup [.int 0, .int 0]) (put S p (.lst ((bsTo r k ++ bsRow r k j).map rowD))) Q = Q (.bl (decide (0 < k + j))) (put S p (.lst ((bsTo r k ++ bsRow r k j).map rowD))) := by
        intro Q
        have e : (!eqv (.tup [.int (k : Int), .int (j : Int)]) (.tup [.int 0, .int 0])) = decide (0 < k + j) := by
          simp only [eqv, eqvs, Bool.and_true]
          rw [Bool.eq_iff_iff]
          simp
          omega
        simp only [kNe, shp, shps, Bool.and_self, true_and, e]
      simp only [hne, kB_b]
      refine ⟨fits (by decide), fits (by decide), ?_⟩
      by_cases h0 : 0 < k + j
      · rw [if_pos (decide_eq_true h0)]
        have hb : bsRow r k (j + 1) = bsRow r k j ++ [bite r k (j : Int)] := by rw [bsRow_succ, if_pos h0]
        refine lc1 hr ?_
        simp only [wFn, startD, wSq, wSet, wVar, getS, wC, w2, w1, eTup, eLst, eLstM, wCons, wNil, wIf, wTst, wRet, wRetN, wDrop, wB, wNext, kB_b, orF_some, orF_none, kI0_ii, kIC_ii, kAdd_ii, kAdd_tt, kAdd_ll, kMul_ii, kMulT_ti, kInt_i, kMin2_ii, kMax2_ii, kLen_l, kLen_t, kLen_s, kIx_l, kIx_t, kIx_s, kTuple_l, kTuple_t, kList_l, kList_t, kSl_t, kSl_l, kEq_ii, kNe_ii, kLt, kLe, kGt, kGe, kSub, kMod, kFdiv, kPow, kIx_p, kLen_p, kAppend_p, kSetI_p, at4_0, at4_1, at4_2, at4_3, ix4_0, ix4_1, ix4_2, ix4_3, wAndT, wOrT, wNotT, wAndV, wOrV, wNotV, wIfE, wCall, wSub, wPar, wChn, wRaise, wSl, wPart, wNoP, wBrk, wCnt, wMt, wMt0, List.map_cons, List.map_nil, List.length_cons, List.length_nil, List.cons_append, List.nil_append, List.getElem?_cons_zero, List.getElem?_cons_succ, List.set_cons_zero, List.set_cons_succ, Option.join_some, Option.join_none, List.replicate_succ, List.replicate_zero, Nat.reduceAdd, Nat.reduceSub, Nat.sub_zero, cut_to]
        refine ⟨fits (by simp; omega), isLst_p, ?_⟩
        rw [← List.map_take, ← List.map_append]
        refine lc2L (by simp; omega) ?_
        simp only [wFn, startD, wSq, wSet, wVar, getS, wC, w2, w1, eTup, eLst, eLstM, wCons, wNil, wIf, wTst, wRet, wRetN, wDrop, wB, wNext, kB_b, orF_some, orF_none, kI0_ii, kIC_ii, kAdd_ii, kAdd_tt, kAdd_ll, kMul_ii, kMulT_ti, kInt_i, kMin2_ii, kMax2_ii, kLen_l, kLen_t, kLen_s, kIx_l, kIx_t, kIx_s, kTuple_l, kTuple_t, kList_l, kList_t, kSl_t, kSl_l, kEq_ii, kNe_ii, kLt, kLe, kGt, kGe, kSub, kMod, kFdiv, kPow, kIx_p, kLen_p, kAppend_p, kSetI_p, at4_0, at4_1, at4_2, at4_3, ix4_0, ix4_1, ix4_2, ix4_3, wAndT, wOrT, wNotT, wAndV, wOrV, wNotV, wIfE, wCall, wSub, wPar, wChn, wRaise, wSl, wPart, wNoP, wBrk, wCnt, wMt, wMt0, List.map_cons, List.map_nil, List.length_cons, List.length_nil, List.cons_append, List.nil_append, List.getElem?_cons_zero, List.getElem?_cons_succ, List.set_cons_zero, List.set_cons_succ, Option.join_some, Option.join_none, List.replicate_succ, List.replicate_zero, Nat.reduceAdd, Nat.reduceSub, Nat.sub_zero, List.length_map]
        refine ⟨fitsL (by omega), hN' _ _ ⟨by omega, _, _, _, rfl, ?_⟩⟩
        rw [hb, ← List.append_assoc, ← rows_snoc]
        rfl
      · rw [if_neg (by rw [decide_eq_false h0]; decide)]
        refine hN' _ _ ⟨by omega, _, _, _, rfl, ?_⟩
        rw [bsRow_succ, if_neg h0, List.append_nil]
    · obtain ⟨_, b, c, d2, rfl, rfl⟩ := hI'
      refine ⟨trivial, hN _ _ ⟨by omega, _, _, _, _, rfl, ?_⟩⟩
      rw [bsTo_succ hkl]
      simp
  · obtain ⟨_, a, b, c, d, rfl, rfl⟩ := hI
    simp only [Nat.zero_add, List.length_map, List.length_range]
    refine ⟨trivial, ?_⟩
    simp only [wFn, startD, wSq, wSet, wVar, getS, wC, w2, w1, eTup, eLst, eLstM, wCons, wNil, wIf, wTst, wRet, wRetN, wDrop, wB, wNext, kB_b, orF_some, orF_none, kI0_ii, kIC_ii, kAdd_ii, kAdd_tt, kAdd_ll, kMul_ii, kMulT_ti, kInt_i, kMin2_ii, kMax2_ii, kLen_l, kLen_t, kLen_s, kIx_l, kIx_t, kIx_s, kTuple_l, kTuple_t, kList_l, kList_t, kSl_t, kSl_l, kEq_ii, kNe_ii, kLt, kLe, kGt, kGe, kSub, kMod, kFdiv, kPow, kIx_p, kLen_p, kAppend_p, kSetI_p, at4_0, at4_1, at4_2, at4_3, ix4_0, ix4_1, ix4_2, ix4_3, wAndT, wOrT, wNotT, wAndV, wOrV, wNotV, wIfE, wCall, wSub, wPar, wChn, wRaise, wSl, wPart, wNoP, wBrk, wCnt, wMt, wMt0, List.map_cons, List.map_nil, List.length_cons, List.length_nil, List.cons_append, List.nil_append, List.getElem?_cons_zero, List.getElem?_cons_succ, List.set_cons_zero, List.set_cons_succ, Option.join_some, Option.join_none, List.replicate_succ, List.replicate_zero, Nat.reduceAdd, Nat.reduceSub, Nat.sub_zero, kSortSet_r put_same]
    refine ⟨bs_len hr, fun x hx => (bs_valid hr hx).1.ne, fun out h1 h2 => Rt.less (sub_put hp) ?_⟩
    have e : out = opt r := srt_uniq h1 (srt_srt _) fun z => (h2 z).trans srt_mem.symm
    rw [e]; exact h
end Lw
set_option Elab.async false
set_option linter.all false
set_option maxRecDepth 100000
set_option maxHeartbeats 2000000
namespace Lw
open PySem PySem.Spec L2 J
/-! ## what is known of rows -/
def kn (K : List (List Int)) : List (D × D) := K.map fun x => (rowD x, D.bl (lose x))
theorem eqvs_ints : ∀ a b : List Int, eqvs (a.map D.int) (b.map D.int) = decide (a = b)
  | [], [] => by simp [eqvs]
  | [], _ :: _ => by simp [eqvs]
  | _ :: _, [] => by simp [eqvs]
  | x :: a, y :: b => by
    simp only [List.map_cons, eqvs, eqv, eqvs_ints a b]
    rw [Bool.eq_iff_iff]
    simp
theorem eqv_row (a b : List Int) : eqv (rowD a) (rowD b) = decide (a = b) := by rw [rowD, rowD, eqv, eqvs_ints]
theorem keyd_row (r : List Int) : keyd 8 (.tup (r.map D.int)) = true := by
  simp only [keyd]
  induction r with
  | nil => simp [keyds]
  | cons x r ih => simp [keyds, keyd, ih]
theorem look_kn (x : List Int) : ∀ K : List (List Int), look (kn K) (rowD x) = if x ∈ K then some (.bl (lose x)) else none
  | [] => by simp [look, kn]
  | y :: K => by
    have ih := look_kn x K
    unfold look kn at ih ⊢
    rw [List.map_cons, List.find?_cons, eqv_row]
    by_cases h : y = x
    · subst h; simp
    · rw [decide_eq_false h]
      simp only [ih, List.mem_cons]
      by_cases h2 : x ∈ K
      · simp [h2]
      · have : ¬ x = y := fun e => h e.symm
        simp [h2, this]
theorem put_kn {x : List Int} {K : List (List Int)} (h : x ∉ K) : putD (kn K) (rowD x) (.bl (lose x)) = kn (K ++ [x]) := by
  unfold putD
  rw [look_kn, if_neg h]
  simp [kn]
/-- some rows, with all that can come of them -/
structure Clo (U : List (List Int)) : Prop where
  v : ∀ x ∈ U, Valid x
  c : ∀ x ∈ U, ∀ y ∈ opt x, y ∈ U
  few : U.length ≤ 1000000
/-- how many are not known -/
def unk (U K : List (List Int)) : Nat := (U.filter fun x => !K.contains x).length
theorem unk_lt {U K : List (List Int)} {x : List Int} (hU : x ∈ U) (hK : x ∉ K) : unk U (K ++ [x]) < unk U K := by
  unfold unk
  have sub : ∀ l : List (List Int), (l.filter fun y => !(K ++ [x]).contains y).length ≤ (l.filter fun y => !K.contains y).length := by
    intro l
    rw [← List.countP_eq_length_filter, ← List.countP_eq_length_filter]
    refine List.countP_mono_left fun y _ h => ?_
    simp at h ⊢
    exact h.1
  induction U with
  | nil => cases hU
  | cons y U ih =>
    rcases List.mem_cons.mp hU with rfl | hU
    · rw [List.filter_cons, if_neg (by simp), List.filter_cons, if_pos (by simpa using hK), List.length_cons]
      exact Nat.lt_succ_of_le (sub U)
    · have := ih hU
      have h1 : ((!(K ++ [x]).contains y) = true) → ((!K.contains y) = true) := fun h => by simp at h ⊢; exact h.1
      by_cases c1 : (!(K ++ [x]).contains y) = true
      · rw [List.filter_cons, if_pos c1, List.filter_cons, if_pos (h1 c1)]; simp only [List.length_cons]; omega
      · rw [List.filter_cons, if_neg c1]
        by_cases c2 : (!K.contains y) = true
        · rw [List.filter_cons, if_pos c2]; simp only [List.length_cons]; omega
        · rw [List.filter_cons, if_neg c2]; exact this
theorem atI_end {α : Type} (l : List α) (x : α) : atI (l ++ [x]) (-1) = some x := by
  unfold atI ixN
  rw [if_neg (by decide), if_pos (by simp; omega)]
  simp only [Option.bind_some, List.length_append, List.length_singleton]
  have e : ((-1 : Int) + ((l.length + 1 : Nat) : Int)).toNat = l.length := by omega
  rw [e]
  simp
def cst (K : List (List Int)) : List (List Int) → Nat
  | [] => 0
  | x :: _ => if x ∈ K then 41 else x.sum.toNat
/-- the state of the loop: the stack is kept from its top downwards -/
structure LS (r : List Int) (U : List (List Int)) (S S' : Store) (pk pw : Addr) (K st : List (List Int)) : Prop where
  k : S' pk = some (.dcT (kn K))
  w : S' pw = some (.lst (st.reverse.map rowD))
  sub : Sub S S'
  inU : ∀ x ∈ st, x ∈ U
  ord : st.Pairwise fun a b => a.sum < b.sum
  low : ∀ x ∈ st.tail, x ∉ K
  fin : r ∈ K ∨ st.getLast? = some r
  few : K.length + unk U K ≤ 1000000
theorem known_filter (K l : List (List Int)) : ((l.map rowD).filter fun d => match rowOf d with | some x => !K.contains x | none => false).map id = (l.filter fun x => !K.contains x).map rowD := by
  rw [List.map_id, List.filter_map]
  congr 1
  refine List.filter_congr fun x _ => ?_
  simp only [Function.comp, rowOf_row]
theorem opt_len {r : List Int} (hr : Valid r) : (opt r).length ≤ 1000 := by
  have h := bs_len hr
  have : ∀ l : List (List Int), (srt l).length ≤ l.length := by
    intro l
    unfold srt
    induction l with
    | nil => exact Nat.le_refl _
    | cons x l ih =>
      rw [List.foldr_cons]
      have : ∀ m : List (List Int), (ins x m).length ≤ m.length + 1 := by
        intro m
        induction m with
        | nil => exact Nat.le_refl _
        | cons y m ihm => unfold ins; split <;> (try split) <;> simp <;> omega
      have := this (l.foldr ins [])
      simp only [List.length_cons]; omega
  have := this (bs r)
  unfold opt; omega
theorem loses_sem {U : List (List Int)} (hU : Clo U) {r : List Int} {S : Store} {Q : QE} {E : String → Store → Prop} (hr : r ∈ U) (h : Q (.bl (lose r)) S) : Wloses [rowD r] S Q E := by
  have hv := hU.v r hr
  unfold Wloses bloses
  simp only [wFn, startD, wSq, wSet, wVar, getS, wC, w2, w1, eTup, eLst, eLstM, wCons, wNil, wIf, wTst, wRet, wRetN, wDrop, wB, wNext, kB_b, orF_some, orF_none, kI0_ii, kIC_ii, kAdd_ii, kAdd_tt, kAdd_ll, kMul_ii, kMulT_ti, kInt_i, kMin2_ii, kMax2_ii, kLen_l, kLen_t, kLen_s, kIx_l, kIx_t, kIx_s, kTuple_l, kTuple_t, kList_l, kList_t, kSl_t, kSl_l, kEq_ii, kNe_ii, kLt, kLe, kGt, kGe, kSub, kMod, kFdiv, kPow, kIx_p, kLen_p, kAppend_p, kSetI_p, at4_0, at4_1, at4_2, at4_3, ix4_0, ix4_1, ix4_2, ix4_3, wAndT, wOrT, wNotT, wAndV, wOrV, wNotV, wIfE, wCall, wSub, wPar, wChn, wRaise, wSl, wPart, wNoP, wBrk, wCnt, wMt, wMt0, List.map_cons, List.map_nil, List.length_cons, List.length_nil, List.cons_append, List.nil_append, List.getElem?_cons_zero, List.getElem?_cons_succ, List.set_cons_zero, List.set_cons_succ, Option.join_some, Option.join_none, List.replicate_succ, List.replicate_zero, Nat.reduceAdd, Nat.reduceSub, Nat.sub_zero]
  refine ⟨trivial, need_ok hv ?_⟩
  simp only [wDcT, wFn, startD, wSq, wSet, wVar, getS, wC, w2, w1, eTup, eLst, eLstM, wCons, wNil, wIf, wTst, wRet, wRetN, wDrop, wB, wNext, kB_b, orF_some, orF_none, kI0_ii, kIC_ii, kAdd_ii, kAdd_tt, kAdd_ll, kMul_ii, kMulT_ti, kInt_i, kMin2_ii, kMax2_ii, kLen_l, kLen_t, kLen_s, kIx_l, kIx_t, kIx_s, kTuple_l, kTuple_t, kList_l, kList_t, kSl_t, kSl_l, kEq_ii, kNe_ii, kLt, kLe, kGt, kGe, kSub, kMod, kFdiv, kPow, kIx_p, kLen_p, kAppend_p, kSetI_p, at4_0, at4_1, at4_2, at4_3, ix4_0, ix4_1, ix4_2, ix4_3, wAndT, wOrT, wNotT, wAndV, wOrV, wNotV, wIfE, wCall, wSub, wPar, wChn, wRaise, wSl, wPart, wNoP, wBrk, wCnt, wMt, wMt0, List.map_cons, List.map_nil, List.length_cons, List.length_nil, List.cons_append, List.nil_append, List.getElem?_cons_zero, List.getElem?_cons_succ, List.set_cons_zero, List.set_cons_succ, Option.join_some, Option.join_none, List.replicate_succ, List.replicate_zero, Nat.reduceAdd, Nat.reduceSub, Nat.sub_zero, rowD]
  intro pk hpk
  refine ⟨fits (by decide), fun pw hpw => ?_⟩
  have hne : pw ≠ pk := by rintro rfl; rw [put_same] at hpw; cases hpw
  have hpw' : S pw = none := by rw [put_ne hne] at hpw; exact hpw
  refine while_inv (fun n g S' => ∃ K st, LS r U S S' pk pw K st ∧ n = unk U K * 100 + cst K st ∧ ∃ a b c d, g = [some (rowD r), some (.ref pk), some (.ref pw), a, b, c, d]) (n := unk U [] * 100 + cst [] [r]) ⟨[], [r], ⟨?_, ?_, ?_, ?_, ?_, ?_, ?_, ?_⟩, rfl, _, _, _, _, rfl⟩ ?_
  · rw [put_ne hne.symm, put_same]; rfl
  · rw [put_same]; rfl
  · exact ((Sub.refl S).put hpk).put hpw'
  · intro x hx; rw [List.mem_singleton.mp hx]; exact hr
  · exact List.pairwise_singleton _ _
  · intro x hx; cases hx
  · exact .inr rfl
  · have : unk U [] ≤ U.length := List.length_filter_le _ _
    have := hU.few
    simp only [List.length_nil]; omega
  · rintro n g S' N ⟨K, st, L, rfl, a, b, c, d, rfl⟩ hN
    simp only [wFn, startD, wSq, wSet, wVar, getS, wC, w2, w1, eTup, eLst, eLstM, wCons, wNil, wIf, wTst, wRet, wRetN, wDrop, wB, wNext, kB_b, orF_some, orF_none, kI0_ii, kIC_ii, kAdd_ii, kAdd_tt, kAdd_ll, kMul_ii, kMulT_ti, kInt_i, kMin2_ii, kMax2_ii, kLen_l, kLen_t, kLen_s, kIx_l, kIx_t, kIx_s, kTuple_l, kTuple_t, kList_l, kList_t, kSl_t, kSl_l, kEq_ii, kNe_ii, kLt, kLe, kGt, kGe, kSub, kMod, kFdiv, kPow, kIx_p, kLen_p, kAppend_p, kSetI_p, at4_0, at4_1, at4_2, at4_3, ix4_0, ix4_1, ix4_2, ix4_3, wAndT, wOrT, wNotT, wAndV, wOrV, wNotV, wIfE, wCall, wSub, wPar, wChn, wRaise, wSl, wPart, wNoP, wBrk, wCnt, wMt, wMt0, List.map_cons, List.map_nil, List.length_cons, List.length_nil, List.cons_append, List.nil_append, List.getElem?_cons_zero, List.getElem?_cons_succ, List.set_cons_zero, List.set_cons_succ, Option.join_some, Option.join_none, List.replicate_succ, List.replicate_zero, Nat.reduceAdd, Nat.reduceSub, Nat.sub_zero, kLen_r L.w, List.length_map, List.length_reverse]
    cases st with
    | nil =>
      rw [if_neg (by simp)]
      have hrK : r ∈ K := by rcases L.fin with h | h; exact h; cases h
      simp only [wFn, startD, wSq, wSet, wVar, getS, wC, w2, w1, eTup, eLst, eLstM, wCons, wNil, wIf, wTst, wRet, wRetN, wDrop, wB, wNext, kB_b, orF_some, orF_none, kI0_ii, kIC_ii, kAdd_ii, kAdd_tt, kAdd_ll, kMul_ii, kMulT_ti, kInt_i, kMin2_ii, kMax2_ii, kLen_l, kLen_t, kLen_s, kIx_l, kIx_t, kIx_s, kTuple_l, kTuple_t, kList_l, kList_t, kSl_t, kSl_l, kEq_ii, kNe_ii, kLt, kLe, kGt, kGe, kSub, kMod, kFdiv, kPow, kIx_p, kLen_p, kAppend_p, kSetI_p, at4_0, at4_1, at4_2, at4_3, ix4_0, ix4_1, ix4_2, ix4_3, wAndT, wOrT, wNotT, wAndV, wOrV, wNotV, wIfE, wCall, wSub, wPar, wChn, wRaise, wSl, wPart, wNoP, wBrk, wCnt, wMt, wMt0, List.map_cons, List.map_nil, List.length_cons, List.length_nil, List.cons_append, List.nil_append, List.getElem?_cons_zero, List.getElem?_cons_succ, List.set_cons_zero, List.set_cons_succ, Option.join_some, Option.join_none, List.replicate_succ, List.replicate_zero, Nat.reduceAdd, Nat.reduceSub, Nat.sub_zero, kIx_T L.k]
      refine ⟨keyd_row r, ?_⟩
      have e := look_kn r K
      rw [if_pos hrK] at e
      rw [e, orF_some]
      exact Rt.less L.sub h
    | cons one st =>
      rw [if_pos (by simp)]
      have hone := L.inU one List.mem_cons_self
      have hvo := hU.v one hone
      simp only [kNeg, kIx_r L.w, List.reverse_cons, List.map_append, List.map_cons, List.map_nil, atI_end, orF_some]
      refine ⟨trivial, bites_sem hvo ?_⟩
      simp only [wLc, eLcA, wSeq, wFn, startD, wSq, wSet, wVar, getS, wC, w2, w1, eTup, eLst, eLstM, wCons, wNil, wIf, wTst, wRet, wRetN, wDrop, wB, wNext, kB_b, orF_some, orF_none, kI0_ii, kIC_ii, kAdd_ii, kAdd_tt, kAdd_ll, kMul_ii, kMulT_ti, kInt_i, kMin2_ii, kMax2_ii, kLen_l, kLen_t, kLen_s, kIx_l, kIx_t, kIx_s, kTuple_l, kTuple_t, kList_l, kList_t, kSl_t, kSl_l, kEq_ii, kNe_ii, kLt, kLe, kGt, kGe, kSub, kMod, kFdiv, kPow, kIx_p, kLen_p, kAppend_p, kSetI_p, at4_0, at4_1, at4_2, at4_3, ix4_0, ix4_1, ix4_2, ix4_3, wAndT, wOrT, wNotT, wAndV, wOrV, wNotV, wIfE, wCall, wSub, wPar, wChn, wRaise, wSl, wPart, wNoP, wBrk, wCnt, wMt, wMt0, List.map_cons, List.map_nil, List.length_cons, List.length_nil, List.cons_append, List.nil_append, List.getElem?_cons_zero, List.getElem?_cons_succ, List.set_cons_zero, List.set_cons_succ, Option.join_some, Option.join_none, List.replicate_succ, List.replicate_zero, Nat.reduceAdd, Nat.reduceSub, Nat.sub_zero, wipeD]
      have hol := opt_len hvo
      refine ⟨fitsL (by simp; omega), lcl_pure (fun d => match rowOf d with | some x => !K.contains x | none => false) id trivial _ _ (fun d hd => ?_) ?_⟩
      · obtain ⟨x, hx, rfl⟩ := List.mem_map.mp hd
        refine ⟨_, rfl, fun k hk => ?_, fun _ k hk => ?_⟩
        · simp only [wFn, startD, wSq, wSet, wVar, getS, wC, w2, w1, eTup, eLst, eLstM, wCons, wNil, wIf, wTst, wRet, wRetN, wDrop, wB, wNext, kB_b, orF_some, orF_none, kI0_ii, kIC_ii, kAdd_ii, kAdd_tt, kAdd_ll, kMul_ii, kMulT_ti, kInt_i, kMin2_ii, kMax2_ii, kLen_l, kLen_t, kLen_s, kIx_l, kIx_t, kIx_s, kTuple_l, kTuple_t, kList_l, kList_t, kSl_t, kSl_l, kEq_ii, kNe_ii, kLt, kLe, kGt, kGe, kSub, kMod, kFdiv, kPow, kIx_p, kLen_p, kAppend_p, kSetI_p, at4_0, at4_1, at4_2, at4_3, ix4_0, ix4_1, ix4_2, ix4_3, wAndT, wOrT, wNotT, wAndV, wOrV, wNotV, wIfE, wCall, wSub, wPar, wChn, wRaise, wSl, wPart, wNoP, wBrk, wCnt, wMt, wMt0, List.map_cons, List.map_nil, List.length_cons, List.length_nil, List.cons_append, List.nil_append, List.getElem?_cons_zero, List.getElem?_cons_succ, List.set_cons_zero, List.set_cons_succ, Option.join_some, Option.join_none, List.replicate_succ, List.replicate_zero, Nat.reduceAdd, Nat.reduceSub, Nat.sub_zero, rowD, kInB_T L.k]
          refine ⟨keyd_row x, ?_⟩
          have e := look_kn x K
          rw [rowD] at e
          rw [e]
          have e2 : (true != (if x ∈ K then some (D.bl (lose x)) else none).isSome) = !K.contains x := by
            by_cases hx : x ∈ K <;> simp [hx]
          rw [e2]
          rw [rowOf_row] at hk
          exact hk
        · simp only [wFn, startD, wSq, wSet, wVar, getS, wC, w2, w1, eTup, eLst, eLstM, wCons, wNil, wIf, wTst, wRet, wRetN, wDrop, wB, wNext, kB_b, orF_some, orF_none, kI0_ii, kIC_ii, kAdd_ii, kAdd_tt, kAdd_ll, kMul_ii, kMulT_ti, kInt_i, kMin2_ii, kMax2_ii, kLen_l, kLen_t, kLen_s, kIx_l, kIx_t, kIx_s, kTuple_l, kTuple_t, kList_l, kList_t, kSl_t, kSl_l, kEq_ii, kNe_ii, kLt, kLe, kGt, kGe, kSub, kMod, kFdiv, kPow, kIx_p, kLen_p, kAppend_p, kSetI_p, at4_0, at4_1, at4_2, at4_3, ix4_0, ix4_1, ix4_2, ix4_3, wAndT, wOrT, wNotT, wAndV, wOrV, wNotV, wIfE, wCall, wSub, wPar, wChn, wRaise, wSl, wPart, wNoP, wBrk, wCnt, wMt, wMt0, List.map_cons, List.map_nil, List.length_cons, List.length_nil, List.cons_append, List.nil_append, List.getElem?_cons_zero, List.getElem?_cons_succ, List.set_cons_zero, List.set_cons_succ, Option.join_some, Option.join_none, List.replicate_succ, List.replicate_zero, Nat.reduceAdd, Nat.reduceSub, Nat.sub_zero]; exact hk
      · rw [List.nil_append, known_filter]
        simp only [wFn, startD, wSq, wSet, wVar, getS, wC, w2, w1, eTup, eLst, eLstM, wCons, wNil, wIf, wTst, wRet, wRetN, wDrop, wB, wNext, kB_b, orF_some, orF_none, kI0_ii, kIC_ii, kAdd_ii, kAdd_tt, kAdd_ll, kMul_ii, kMulT_ti, kInt_i, kMin2_ii, kMax2_ii, kLen_l, kLen_t, kLen_s, kIx_l, kIx_t, kIx_s, kTuple_l, kTuple_t, kList_l, kList_t, kSl_t, kSl_l, kEq_ii, kNe_ii, kLt, kLe, kGt, kGe, kSub, kMod, kFdiv, kPow, kIx_p, kLen_p, kAppend_p, kSetI_p, at4_0, at4_1, at4_2, at4_3, ix4_0, ix4_1, ix4_2, ix4_3, wAndT, wOrT, wNotT, wAndV, wOrV, wNotV, wIfE, wCall, wSub, wPar, wChn, wRaise, wSl, wPart, wNoP, wBrk, wCnt, wMt, wMt0, List.map_cons, List.map_nil, List.length_cons, List.length_nil, List.cons_append, List.nil_append, List.getElem?_cons_zero, List.getElem?_cons_succ, List.set_cons_zero, List.set_cons_succ, Option.join_some, Option.join_none, List.replicate_succ, List.replicate_zero, Nat.reduceAdd, Nat.reduceSub, Nat.sub_zero, rowD, kInB_T L.k]
        refine ⟨keyd_row one, ?_⟩
        have e := look_kn one K
        rw [rowD] at e
        rw [e]
        by_cases hk : one ∈ K
        · rw [if_pos hk, if_pos (by rfl)]
          refine ⟨isLst_r L.w, ?_⟩
          rw [kPop_r L.w]
          have e1 : ((one :: st).reverse.map rowD)[((one :: st).reverse.map rowD).length - 1]? = some (rowD one) := by simp
          have e2 : ((one :: st).reverse.map rowD).dropLast = st.reverse.map rowD := by simp
          rw [e1, orF_some, e2]
          refine hN (unk U K * 100 + cst K st) _ _ ?_ ⟨K, st, ⟨?_, put_same, L.sub.put hpw', ?_, ?_, ?_, ?_, L.few⟩, rfl, _, _, _, _, rfl⟩
          · have e3 : cst K (one :: st) = 41 := by simp [cst, hk]
            have e4 : cst K st ≤ 40 := by
              cases st with
              | nil => exact Nat.zero_le _
              | cons y st =>
                have hy := L.low y (by simp)
                have := (hU.v y (L.inU y (by simp))).sum
                simp only [cst, if_neg hy]; omega
            omega
          · rw [put_ne hne.symm]; exact L.k
          · exact fun x hx => L.inU x (List.mem_cons_of_mem _ hx)
          · exact (List.pairwise_cons.mp L.ord).2
          · exact fun x hx => L.low x (by simpa using List.mem_of_mem_tail hx)
          · rcases L.fin with hf | hf
            · exact .inl hf
            · cases st with
              | nil => simp at hf; subst hf; exact .inl hk
              | cons y st => right; simpa using hf
        · rw [if_neg hk, if_neg (by decide)]
          have hlen : (one :: st).length ≤ 40 := by
            have gen : ∀ (l : List (List Int)) (lo : Int), 0 ≤ lo → lo ≤ 40 → (∀ x ∈ l, lo < x.sum ∧ x.sum ≤ 40) → l.Pairwise (fun a b => a.sum < b.sum) → (l.length : Int) ≤ 40 - lo := by
              intro l
              induction l with
              | nil => intro lo _ _ _ _; simp; omega
              | cons x l ih =>
                intro lo h0 h1 h2 h3
                obtain ⟨p1, p2⟩ := List.pairwise_cons.mp h3
                have hx := h2 x List.mem_cons_self
                have := ih x.sum (by omega) hx.2 (fun y hy => ⟨p1 y hy, (h2 y (List.mem_cons_of_mem _ hy)).2⟩) p2
                simp only [List.length_cons]; omega
            have := gen (one :: st) 0 (by omega) (by omega) (fun x hx => ⟨valid_nn (hU.v x (L.inU x hx)), (hU.v x (L.inU x hx)).sum⟩) L.ord
            omega
          cases hm : (opt one).filter fun x => !K.contains x with
          | cons m0 ms =>
            have hm0 : m0 ∈ (opt one).filter fun x => !K.contains x := by rw [hm]; exact List.mem_cons_self
            obtain ⟨mo, mk⟩ := List.mem_filter.mp hm0
            have mk' : m0 ∉ K := by simpa using mk
            have hms := (opt_valid hvo mo).2
            rw [if_pos (by simp)]
            refine ⟨isLst_r L.w, ?_⟩
            have e1 : atI ((m0 :: ms).map rowD) 0 = some (rowD m0) := atI_nat (k := 0) rfl
            rw [e1, orF_some, kAppend_r L.w]
            have e2 : ((one :: st).reverse.map rowD) ++ [rowD m0] = (m0 :: one :: st).reverse.map rowD := by simp
            rw [e2]
            refine ⟨fitsL (by simp; simp at hlen; omega), hN (unk U K * 100 + cst K (m0 :: one :: st)) _ _ ?_ ⟨K, m0 :: one :: st, ⟨?_, put_same, L.sub.put hpw', ?_, ?_, ?_, ?_, L.few⟩, rfl, _, _, _, _, rfl⟩⟩
            · have := valid_nn (opt_valid hvo mo).1
              simp only [cst, if_neg mk', if_neg hk]; omega
            · rw [put_ne hne.symm]; exact L.k
            · intro x hx
              rcases List.mem_cons.mp hx with rfl | hx
              · exact hU.c one hone x mo
              · exact L.inU x hx
            · refine List.Pairwise.cons (fun x hx => ?_) L.ord
              rcases List.mem_cons.mp hx with rfl | hx
              · exact hms
              · exact Int.lt_trans hms ((List.pairwise_cons.mp L.ord).1 x hx)
            · intro x hx
              rcases List.mem_cons.mp (by simpa using hx) with rfl | hx
              · exact hk
              · exact L.low x (by simpa using hx)
            · rcases L.fin with hf | hf
              · exact .inl hf
              · right; simpa using hf
          | nil =>
            rw [if_neg (by simp)]
            have hall : ∀ x ∈ opt one, x ∈ K := fun x hx => by
              by_cases hx' : x ∈ K
              · exact hx'
              · have : x ∈ (opt one).filter fun x => !K.contains x := List.mem_filter.mpr ⟨hx, by simpa using hx'⟩
                rw [hm] at this; cases this
            refine ⟨fitsL (by simp; omega), lcl_pure (fun _ => true) (fun d => match rowOf d with | some x => .bl (lose x) | none => .non) trivial _ _ (fun d hd => ?_) ?_⟩
            · obtain ⟨x, hx, rfl⟩ := List.mem_map.mp hd
              refine ⟨_, rfl, fun k hk => hk, fun _ k hk => ?_⟩
              simp only [wFn, startD, wSq, wSet, wVar, getS, wC, w2, w1, eTup, eLst, eLstM, wCons, wNil, wIf, wTst, wRet, wRetN, wDrop, wB, wNext, kB_b, orF_some, orF_none, kI0_ii, kIC_ii, kAdd_ii, kAdd_tt, kAdd_ll, kMul_ii, kMulT_ti, kInt_i, kMin2_ii, kMax2_ii, kLen_l, kLen_t, kLen_s, kIx_l, kIx_t, kIx_s, kTuple_l, kTuple_t, kList_l, kList_t, kSl_t, kSl_l, kEq_ii, kNe_ii, kLt, kLe, kGt, kGe, kSub, kMod, kFdiv, kPow, kIx_p, kLen_p, kAppend_p, kSetI_p, at4_0, at4_1, at4_2, at4_3, ix4_0, ix4_1, ix4_2, ix4_3, wAndT, wOrT, wNotT, wAndV, wOrV, wNotV, wIfE, wCall, wSub, wPar, wChn, wRaise, wSl, wPart, wNoP, wBrk, wCnt, wMt, wMt0, List.map_cons, List.map_nil, List.length_cons, List.length_nil, List.cons_append, List.nil_append, List.getElem?_cons_zero, List.getElem?_cons_succ, List.set_cons_zero, List.set_cons_succ, Option.join_some, Option.join_none, List.replicate_succ, List.replicate_zero, Nat.reduceAdd, Nat.reduceSub, Nat.sub_zero, rowD, kIx_T L.k]
              refine ⟨keyd_row x, ?_⟩
              have e := look_kn x K
              rw [rowD, if_pos (hall x hx)] at e
              rw [e, orF_some]
              rw [rowOf_row] at hk
              exact hk
            · have e1 : ([] ++ (((opt one).map rowD).filter fun _ => true).map (fun d => match rowOf d with | some x => D.bl (lose x) | none => .non)) = ((opt one).map lose).map D.bl := by
                rw [filt_tt, List.nil_append, List.map_map, List.map_map]
                refine List.map_congr_left fun x _ => ?_
                simp only [Function.comp, rowOf_row]
              rw [e1, kAny_l, kB_b]
              have e2 : ((opt one).map lose).any id = (opt one).any lose := by rw [List.any_map]; rfl
              have e3 : (!((opt one).map lose).any id) = lose one := by rw [e2, lose_eq hvo]
              rw [e3, kSetI_T L.k]
              have e4 : putD (kn K) (D.tup (one.map D.int)) (.bl (lose one)) = kn (K ++ [one]) := put_kn hk
              have h7 := unk_lt hone hk
              have h8 := L.few
              have e5 : (kn K).length = K.length := by simp [kn]
              refine ⟨keyd_row one, fitsL (by omega), ?_⟩
              rw [e4]
              refine hN (unk U (K ++ [one]) * 100 + cst (K ++ [one]) (one :: st)) _ _ ?_ ⟨K ++ [one], one :: st, ⟨put_same, ?_, L.sub.put hpk, L.inU, L.ord, ?_, ?_, ?_⟩, rfl, _, _, _, _, rfl⟩
              · have : cst (K ++ [one]) (one :: st) ≤ 41 := by simp [cst]
                omega
              · rw [put_ne hne]; exact L.w
              · intro x hx hxK
                rcases List.mem_append.mp hxK with hxK | hxK
                · exact L.low x hx hxK
                · rw [List.mem_singleton.mp hxK] at hx
                  have := (List.pairwise_cons.mp L.ord).1 one (by simpa using hx)
                  omega
              · rcases L.fin with hf | hf
                · exact .inl (List.mem_append.mpr (.inl hf))
                · exact .inr hf
              · rw [List.length_append, List.length_singleton]; omega
end Lw
set_option Elab.async false
set_option linter.all false
set_option maxRecDepth 100000
set_option maxHeartbeats 2000000
namespace Lw
open PySem PySem.Spec L2 J
theorem put_self {S : Store} {p : Addr} {o : O} (h : S p = some o) : put S p o = S := by
  funext q
  by_cases hq : q = p
  · subst hq; rw [put_same, h]
  · exact put_ne hq
theorem put_kn2 (x : List Int) (K : List (List Int)) : putD (kn K) (rowD x) (.bl (lose x)) = kn (if x ∈ K then K else K ++ [x]) := by
  by_cases h : x ∈ K
  · rw [if_pos h]
    unfold putD
    rw [look_kn, if_pos h, if_pos (by rfl)]
    unfold kn
    rw [List.map_map]
    refine List.map_congr_left fun y _ => ?_
    simp only [Function.comp, eqv_row]
    by_cases e : y = x
    · subst e; simp
    · simp [e]
  · rw [if_neg h]; exact put_kn h
def Good (U K : List (List Int)) : Prop := K.length + unk U K ≤ 1000000
theorem Good.add {U K : List (List Int)} {x : List Int} (hU : x ∈ U) (h : Good U K) : Good U (if x ∈ K then K else K ++ [x]) := by
  by_cases hx : x ∈ K
  · rw [if_pos hx]; exact h
  · rw [if_neg hx]
    have := unk_lt hU hx
    unfold Good at h ⊢
    rw [List.length_append, List.length_singleton]; omega
theorem Good.nil {U : List (List Int)} (hU : Clo U) : Good U [] := by
  have : unk U [] ≤ U.length := List.length_filter_le _ _
  have := hU.few
  unfold Good; simp only [List.length_nil]; omega
theorem shps_rows (l : List (List Int)) : shps 60 (l.map rowD) = true ∧ shps 59 (l.map rowD) = true := by
  have hInt : ∀ (n : Nat) (r : List Int), shps n (r.map D.int) = true := by
    intro n r
    induction r with
    | nil => simp [shps]
    | cons x r ih => simp [shps, shp, ih]
  constructor
  · induction l with
    | nil => simp [shps]
    | cons x l ih => simp [shps, shp, ih, hInt]
  · induction l with
    | nil => simp [shps]
    | cons x l ih => simp [shps, shp, ih, hInt]
theorem lost_sem {U : List (List Int)} (hU : Clo U) {pk : Addr} : ∀ (n : Nat) (r : List Int) (K : List (List Int)) (S : Store) (Q : QE) (E : String → Store → Prop), r ∈ U → r.sum.toNat < n → Good U K → S pk = some (.dcT (kn K)) →
    (∀ K', Good U K' → Q (.bl (lose r)) (put S pk (.dcT (kn K')))) → W_law_lost n [rowD r, .ref pk] S Q E := by
  intro n
  induction n with
  | zero => intro r K S Q E _ h; omega
  | succ n ih =>
    intro r K S Q E hr hs hK hS h
    have hv := hU.v r hr
    have hl := look_kn r K
    -- the value that is looked up last
    have last : ∀ K', Good U K' → r ∈ K' → kIx (.ref pk) (rowD r) (put S pk (.dcT (kn K'))) (Rt Q) := by
      intro K' hK' hrK
      rw [rowD, kIx_T put_same]
      refine ⟨keyd_row r, ?_⟩
      have e := look_kn r K'
      rw [if_pos hrK, rowD] at e
      rw [e, orF_some]
      exact Rt.same (h K' hK')
    simp only [W_law_lost, b_law_lost, wFn, startD, wSq, wSet, wVar, getS, wC, w2, w1, eTup, eLst, eLstM, wCons, wNil, wIf, wTst, wRet, wRetN, wDrop, wB, wNext, kB_b, orF_some, orF_none, kI0_ii, kIC_ii, kAdd_ii, kAdd_tt, kAdd_ll, kMul_ii, kMulT_ti, kInt_i, kMin2_ii, kMax2_ii, kLen_l, kLen_t, kLen_s, kIx_l, kIx_t, kIx_s, kTuple_l, kTuple_t, kList_l, kList_t, kSl_t, kSl_l, kEq_ii, kNe_ii, kLt, kLe, kGt, kGe, kSub, kMod, kFdiv, kPow, kIx_p, kLen_p, kAppend_p, kSetI_p, at4_0, at4_1, at4_2, at4_3, ix4_0, ix4_1, ix4_2, ix4_3, wAndT, wOrT, wNotT, wAndV, wOrV, wNotV, wIfE, wCall, wSub, wPar, wChn, wRaise, wSl, wPart, wNoP, wBrk, wCnt, wMt, wMt0, List.map_cons, List.map_nil, List.length_cons, List.length_nil, List.cons_append, List.nil_append, List.getElem?_cons_zero, List.getElem?_cons_succ, List.set_cons_zero, List.set_cons_succ, Option.join_some, Option.join_none, List.replicate_succ, List.replicate_zero, Nat.reduceAdd, Nat.reduceSub, Nat.sub_zero, rowD, kInB_T hS]
    refine ⟨keyd_row r, ?_⟩
    rw [rowD] at hl
    rw [hl]
    by_cases hrK : r ∈ K
    · rw [if_pos hrK, if_neg (by simp)]
      have := last K hK hrK
      rw [put_self hS] at this
      exact this
    · rw [if_neg hrK, if_pos (by decide)]
      simp only [wLc, eLcA, wSeq, wFn, startD, wSq, wSet, wVar, getS, wC, w2, w1, eTup, eLst, eLstM, wCons, wNil, wIf, wTst, wRet, wRetN, wDrop, wB, wNext, kB_b, orF_some, orF_none, kI0_ii, kIC_ii, kAdd_ii, kAdd_tt, kAdd_ll, kMul_ii, kMulT_ti, kInt_i, kMin2_ii, kMax2_ii, kLen_l, kLen_t, kLen_s, kIx_l, kIx_t, kIx_s, kTuple_l, kTuple_t, kList_l, kList_t, kSl_t, kSl_l, kEq_ii, kNe_ii, kLt, kLe, kGt, kGe, kSub, kMod, kFdiv, kPow, kIx_p, kLen_p, kAppend_p, kSetI_p, at4_0, at4_1, at4_2, at4_3, ix4_0, ix4_1, ix4_2, ix4_3, wAndT, wOrT, wNotT, wAndV, wOrV, wNotV, wIfE, wCall, wSub, wPar, wChn, wRaise, wSl, wPart, wNoP, wBrk, wCnt, wMt, wMt0, List.map_cons, List.map_nil, List.length_cons, List.length_nil, List.cons_append, List.nil_append, List.getElem?_cons_zero, List.getElem?_cons_succ, List.set_cons_zero, List.set_cons_succ, Option.join_some, Option.join_none, List.replicate_succ, List.replicate_zero, Nat.reduceAdd, Nat.reduceSub, Nat.sub_zero, wipeD]
      refine ⟨trivial, lbites_sem hv ?_⟩
      have hol := opt_len hv
      refine ⟨fitsL (by simp; omega), ?_⟩
      have fin : ∀ K', Good U K' → Fits 0 ∧ kEq (.lst (((opt r).filter lose).map rowD)) (.lst []) (put S pk (.dcT (kn K'))) fun d S1 => kSetI (.ref pk) (.tup (r.map D.int)) d S1 fun S4 => kIx (.ref pk) (.tup (r.map D.int)) S4 (Rt Q) := by
        intro K' hK'
        refine ⟨fits (by decide), ?_⟩
        have e1 : eqv (.lst (((opt r).filter lose).map rowD)) (.lst []) = lose r := by
          rw [lose_eq hv]
          have : ∀ l : List (List Int), eqvs ((l.filter lose).map rowD) [] = !l.any lose := by
            intro l
            induction l with
            | nil => simp [eqvs]
            | cons x l ih =>
              by_cases hx : lose x = true
              · simp [hx, eqvs]
              · rw [List.filter_cons, if_neg hx, ih]
                simp [hx]
          rw [eqv]; exact this _
        simp only [kEq, shp, (shps_rows _).2, shps, e1, true_and]
        have hlen : (kn K').length = K'.length := by simp [kn]
        have hg : K'.length ≤ 1000000 := by unfold Good at hK'; omega
        rw [kSetI_T put_same]
        refine ⟨keyd_row r, fitsL (by omega), ?_⟩
        have e4 := put_kn2 r K'
        rw [rowD] at e4
        rw [e4, put_put]
        refine last _ (hK'.add hr) ?_
        by_cases hm : r ∈ K'
        · rw [if_pos hm]; exact hm
        · rw [if_neg hm]; simp
      have step : ∀ (l acc : List (List Int)) (K : List (List Int)), (∀ x ∈ l, x ∈ opt r) → Good U K → acc ++ l.filter lose = (opt r).filter lose →
          lcl noReq (Tgt.one 2) (wTst (wCall 2 (W_law_lost n) xd0 (wCons (wVar 2) (wCons (wVar 1) wNil)))) (wVar 2) [some (D.tup (r.map D.int)), some (D.ref pk), none]
            (fun ds S1 => Fits 0 ∧ kEq (.lst ds) (.lst []) S1 fun d S1 => kSetI (.ref pk) (.tup (r.map D.int)) d S1 fun S4 => kIx (.ref pk) (.tup (r.map D.int)) S4 (Rt Q)) (l.map rowD) (acc.map rowD) (put S pk (.dcT (kn K))) := by
        intro l
        induction l with
        | nil =>
          intro acc K _ hK he
          rw [List.filter_nil, List.append_nil] at he
          rw [he]
          exact ⟨trivial, fin K hK⟩
        | cons x l ihl =>
          intro acc K hx hK he
          have hxo := hx x List.mem_cons_self
          have ⟨hvx, hsx⟩ := opt_valid hv hxo
          have h0 := valid_nn hvx
          refine ⟨trivial, ?_⟩
          simp only [asg, orF_some, wFn, startD, wSq, wSet, wVar, getS, wC, w2, w1, eTup, eLst, eLstM, wCons, wNil, wIf, wTst, wRet, wRetN, wDrop, wB, wNext, kB_b, orF_some, orF_none, kI0_ii, kIC_ii, kAdd_ii, kAdd_tt, kAdd_ll, kMul_ii, kMulT_ti, kInt_i, kMin2_ii, kMax2_ii, kLen_l, kLen_t, kLen_s, kIx_l, kIx_t, kIx_s, kTuple_l, kTuple_t, kList_l, kList_t, kSl_t, kSl_l, kEq_ii, kNe_ii, kLt, kLe, kGt, kGe, kSub, kMod, kFdiv, kPow, kIx_p, kLen_p, kAppend_p, kSetI_p, at4_0, at4_1, at4_2, at4_3, ix4_0, ix4_1, ix4_2, ix4_3, wAndT, wOrT, wNotT, wAndV, wOrV, wNotV, wIfE, wCall, wSub, wPar, wChn, wRaise, wSl, wPart, wNoP, wBrk, wCnt, wMt, wMt0, List.map_cons, List.map_nil, List.length_cons, List.length_nil, List.cons_append, List.nil_append, List.getElem?_cons_zero, List.getElem?_cons_succ, List.set_cons_zero, List.set_cons_succ, Option.join_some, Option.join_none, List.replicate_succ, List.replicate_zero, Nat.reduceAdd, Nat.reduceSub, Nat.sub_zero]
          refine ⟨trivial, ih x K _ _ _ (hU.c r hr x hxo) (by omega) hK put_same fun K' hK' => ?_⟩
          rw [put_put, kB_b]
          by_cases hlx : lose x = true
          · rw [if_pos hlx]
            have e : acc.map rowD ++ [rowD x] = (acc ++ [x]).map rowD := by simp
            rw [e]
            refine ihl (acc ++ [x]) K' (fun y hy => hx y (List.mem_cons_of_mem _ hy)) hK' ?_
            rw [← he, List.filter_cons, if_pos hlx]; simp
          · rw [if_neg hlx]
            refine ihl acc K' (fun y hy => hx y (List.mem_cons_of_mem _ hy)) hK' ?_
            rw [← he, List.filter_cons, if_neg hlx]
      have := step (opt r) [] K (fun x hx => hx) hK (by simp)
      rw [put_self hS] at this
      exact this
end Lw
set_option Elab.async false
set_option linter.all false
set_option maxRecDepth 1000000
set_option maxHeartbeats 0
namespace Lw
open PySem PySem.Spec L2 J
def tabU : List (List Int) := [[1], [1, 1], [1, 1, 1], [1, 1, 1, 1], [1, 1, 1, 1, 1], [2], [2, 1], [2, 1, 1], [2, 1, 1, 1], [2, 1, 1, 1, 1], [2, 2], [2, 2, 1], [2, 2, 1, 1], [2, 2, 1, 1, 1], [2, 2, 2], [2, 2, 2, 1], [2, 2, 2, 1, 1], [2, 2, 2, 2], [2, 2, 2, 2, 1], [2, 2, 2, 2, 2], [3], [3, 1], [3, 1, 1], [3, 1, 1, 1], [3, 1, 1, 1, 1], [3, 2], [3, 2, 1], [3, 2, 1, 1], [3, 2, 1, 1, 1], [3, 2, 2], [3, 2, 2, 1], [3, 2, 2, 1, 1], [3, 2, 2, 2], [3, 2, 2, 2, 1], [3, 2, 2, 2, 2], [3, 3], [3, 3, 1], [3, 3, 1, 1], [3, 3, 1, 1, 1], [3, 3, 2], [3, 3, 2, 1], [3, 3, 2, 1, 1], [3, 3, 2, 2], [3, 3, 2, 2, 1], [3, 3, 2, 2, 2], [3, 3, 3], [3, 3, 3, 1], [3, 3, 3, 1, 1], [3, 3, 3, 2], [3, 3, 3, 2, 1], [3, 3, 3, 2, 2], [3, 3, 3, 3], [3, 3, 3, 3, 1], [3, 3, 3, 3, 2], [3, 3, 3, 3, 3], [4], [4, 1], [4, 1, 1], [4, 1, 1, 1], [4, 1, 1, 1, 1], [4, 2], [4, 2, 1], [4, 2, 1, 1], [4, 2, 1, 1, 1], [4, 2, 2], [4, 2, 2, 1], [4, 2, 2, 1, 1], [4, 2, 2, 2], [4, 2, 2, 2, 1], [4, 2, 2, 2, 2], [4, 3], [4, 3, 1], [4, 3, 1, 1], [4, 3, 1, 1, 1], [4, 3, 2], [4, 3, 2, 1], [4, 3, 2, 1, 1], [4, 3, 2, 2], [4, 3, 2, 2, 1], [4, 3, 2, 2, 2], [4, 3, 3], [4, 3, 3, 1], [4, 3, 3, 1, 1], [4, 3, 3, 2], [4, 3, 3, 2, 1], [4, 3, 3, 2, 2], [4, 3, 3, 3], [4, 3, 3, 3, 1], [4, 3, 3, 3, 2], [4, 3, 3, 3, 3], [4, 4], [4, 4, 1], [4, 4, 1, 1], [4, 4, 1, 1, 1], [4, 4, 2], [4, 4, 2, 1], [4, 4, 2, 1, 1], [4, 4, 2, 2], [4, 4, 2, 2, 1], [4, 4, 2, 2, 2], [4, 4, 3], [4, 4, 3, 1], [4, 4, 3, 1, 1], [4, 4, 3, 2], [4, 4, 3, 2, 1], [4, 4, 3, 2, 2], [4, 4, 3, 3], [4, 4, 3, 3, 1], [4, 4, 3, 3, 2], [4, 4, 3, 3, 3], [4, 4, 4], [4, 4, 4, 1], [4, 4, 4, 1, 1], [4, 4, 4, 2], [4, 4, 4, 2, 1], [4, 4, 4, 2, 2], [4, 4, 4, 3], [4, 4, 4, 3, 1], [4, 4, 4, 3, 2], [4, 4, 4, 3, 3], [4, 4, 4, 4], [4, 4, 4, 4, 1], [4, 4, 4, 4, 2], [4, 4, 4, 4, 3], [4, 4, 4, 4, 4], [5], [5, 1], [5, 1, 1], [5, 1, 1, 1], [5, 1, 1, 1, 1], [5, 2], [5, 2, 1], [5, 2, 1, 1], [5, 2, 2], [5, 2, 2, 1], [5, 2, 2, 2], [5, 3], [5, 3, 1], [5, 3, 1, 1], [5, 3, 2], [5, 3, 2, 1], [5, 3, 2, 2], [5, 3, 3], [5, 3, 3, 1], [5, 3, 3, 2], [5, 3, 3, 3], [5, 4], [5, 4, 1], [5, 4, 1, 1], [5, 4, 2], [5, 4, 2, 1], [5, 4, 2, 2], [5, 4, 3], [5, 4, 3, 1], [5, 4, 3, 2], [5, 4, 3, 3], [5, 4, 4], [5, 4, 4, 1], [5, 4, 4, 2], [5, 4, 4, 3], [5, 4, 4, 4], [5, 5], [5, 5, 1], [5, 5, 1, 1], [5, 5, 2], [5, 5, 2, 1], [5, 5, 2, 2], [5, 5, 3], [5, 5, 3, 1], [5, 5, 3, 2], [5, 5, 3, 3], [5, 5, 4], [5, 5, 4, 1], [5, 5, 4, 2], [5, 5, 4, 3], [5, 5, 4, 4], [5, 5, 5], [5, 5, 5, 1], [5, 5, 5, 2], [5, 5, 5, 3], [5, 5, 5, 4], [5, 5, 5, 5], [6], [6, 1], [6, 2], [6, 3], [6, 4], [6, 5], [6, 6]]
def tabT : List (List Int) := [[1], [2, 1], [2, 2, 1], [2, 2, 2, 1], [2, 2, 2, 2, 1], [3, 1, 1], [3, 2], [3, 3, 1, 1], [3, 3, 2, 1, 1], [3, 3, 3, 2, 2], [4, 1, 1, 1], [4, 2, 1, 1, 1], [4, 2, 2], [4, 3], [4, 4, 2, 2, 2], [4, 4, 3, 1, 1], [5, 1, 1, 1, 1], [5, 2, 1, 1], [5, 3, 2], [5, 3, 3, 2], [5, 4], [5, 5, 2, 2], [5, 5, 3], [6, 5]]
def tabR : List (List Int) := [[5], [4], [3], [2], [1], [5, 5], [5, 4], [5, 3], [5, 2], [5, 1], [4, 4], [4, 3], [4, 2], [4, 1], [3, 3], [3, 2], [3, 1], [2, 2], [2, 1], [1, 1], [5, 5, 5], [5, 5, 4], [5, 5, 3], [5, 5, 2], [5, 5, 1], [5, 4, 4], [5, 4, 3], [5, 4, 2], [5, 4, 1], [5, 3, 3], [5, 3, 2], [5, 3, 1], [5, 2, 2], [5, 2, 1], [5, 1, 1], [4, 4, 4], [4, 4, 3], [4, 4, 2], [4, 4, 1], [4, 3, 3], [4, 3, 2], [4, 3, 1], [4, 2, 2], [4, 2, 1], [4, 1, 1], [3, 3, 3], [3, 3, 2], [3, 3, 1], [3, 2, 2], [3, 2, 1], [3, 1, 1], [2, 2, 2], [2, 2, 1], [2, 1, 1], [1, 1, 1], [5, 5, 5, 5], [5, 5, 5, 4], [5, 5, 5, 3], [5, 5, 5, 2], [5, 5, 5, 1], [5, 5, 4, 4], [5, 5, 4, 3], [5, 5, 4, 2], [5, 5, 4, 1], [5, 5, 3, 3], [5, 5, 3, 2], [5, 5, 3, 1], [5, 5, 2, 2], [5, 5, 2, 1], [5, 5, 1, 1], [5, 4, 4, 4], [5, 4, 4, 3], [5, 4, 4, 2], [5, 4, 4, 1], [5, 4, 3, 3], [5, 4, 3, 2], [5, 4, 3, 1], [5, 4, 2, 2], [5, 4, 2, 1], [5, 4, 1, 1], [5, 3, 3, 3], [5, 3, 3, 2], [5, 3, 3, 1], [5, 3, 2, 2], [5, 3, 2, 1], [5, 3, 1, 1], [5, 2, 2, 2], [5, 2, 2, 1], [5, 2, 1, 1], [5, 1, 1, 1], [4, 4, 4, 4], [4, 4, 4, 3], [4, 4, 4, 2], [4, 4, 4, 1], [4, 4, 3, 3], [4, 4, 3, 2], [4, 4, 3, 1], [4, 4, 2, 2], [4, 4, 2, 1], [4, 4, 1, 1], [4, 3, 3, 3], [4, 3, 3, 2], [4, 3, 3, 1], [4, 3, 2, 2], [4, 3, 2, 1], [4, 3, 1, 1], [4, 2, 2, 2], [4, 2, 2, 1], [4, 2, 1, 1], [4, 1, 1, 1], [3, 3, 3, 3], [3, 3, 3, 2], [3, 3, 3, 1], [3, 3, 2, 2], [3, 3, 2, 1], [3, 3, 1, 1], [3, 2, 2, 2], [3, 2, 2, 1], [3, 2, 1, 1], [3, 1, 1, 1], [2, 2, 2, 2], [2, 2, 2, 1], [2, 2, 1, 1], [2, 1, 1, 1], [1, 1, 1, 1]]

def vld (r : List Int) : Bool := !r.isEmpty && decide (r.length ≤ 6) && decide (r.sum ≤ 40) && decide (r.Pairwise (fun a b => b ≤ a)) && r.all fun x => decide (1 ≤ x)
theorem vld_valid {r : List Int} (h : vld r = true) : Valid r := by
  unfold vld at h
  simp only [Bool.and_eq_true, decide_eq_true_eq, List.all_eq_true, Bool.not_eq_true', List.isEmpty_eq_false_iff] at h
  obtain ⟨⟨⟨⟨h1, h2⟩, h3⟩, h4⟩, h5⟩ := h
  exact ⟨h1, h2, h3, h4, h5⟩
theorem tab_ok : tabU.all (fun r => vld r && (bs r).all (fun x => tabU.contains x) && (tabT.contains r == !(bs r).any fun x => tabT.contains x)) = true := by decide +kernel
def trn (r : List Int) : List Int := (List.range (r.getD 0 0).toNat).map fun c : Nat => ((r.filter fun x => decide ((c : Int) < x)).length : Int)
theorem tab_v : ∀ r ∈ tabU, Valid r := fun r hr => by
  have h := List.all_eq_true.mp tab_ok r hr
  rw [Bool.and_eq_true, Bool.and_eq_true] at h
  exact vld_valid h.1.1
theorem tab_lose : ∀ r ∈ tabU, lose r = tabT.contains r := lose_table tab_v fun r hr => by
  have h := List.all_eq_true.mp tab_ok r hr
  rw [Bool.and_eq_true, Bool.and_eq_true] at h
  refine ⟨fun x hx => ?_, by simpa using h.2⟩
  have := List.all_eq_true.mp h.1.2 x hx
  simpa using this
/-- the rows of n figures from 1 to m, downwards -/
def decs : Nat → Nat → List (List Int)
  | 0, _ => [[]]
  | n + 1, m => (List.range m).flatMap fun a => (decs n (a + 1)).map fun l => ((a + 1 : Nat) : Int) :: l
theorem decs_mem : ∀ (L : List Int) (m : Nat), (∀ x ∈ L, 1 ≤ x ∧ x ≤ (m : Int)) → L.Pairwise (fun a b => b ≤ a) → L ∈ decs L.length m
  | [], m, _, _ => by simp [decs]
  | x :: L, m, h, hp => by
    obtain ⟨p1, p2⟩ := List.pairwise_cons.mp hp
    have hx := h x List.mem_cons_self
    have ih := decs_mem L x.toNat (fun y hy => ⟨(h y (List.mem_cons_of_mem _ hy)).1, by have := p1 y hy; omega⟩) p2
    rw [List.length_cons, decs, List.mem_flatMap]
    refine ⟨x.toNat - 1, List.mem_range.mpr (by omega), List.mem_map.mpr ⟨L, ?_, ?_⟩⟩
    · rw [show x.toNat - 1 + 1 = x.toNat from by omega]; exact ih
    · rw [show x.toNat - 1 + 1 = x.toNat from by omega, Int.toNat_of_nonneg (by omega)]
theorem tab_r : (decs 1 5 ++ decs 2 5 ++ decs 3 5 ++ decs 4 5).all (fun r => tabU.contains r && tabU.contains (trn r) && (tabT.contains (trn r) == tabT.contains r) && (trn (trn r) == r) &&
    (!tabT.contains r || r == [1] || !(r.length == 1 || trn r == List.replicate (r.getD 0 0).toNat 1))) = true := by decide +kernel
structure RowOk (r : List Int) : Prop where
  u : r ∈ tabU
  ut : trn r ∈ tabU
  lt : lose (trn r) = lose r
  tt : trn (trn r) = r
  no : lose r = true → r ≠ [1] → ¬ (r.length = 1 ∨ trn r = List.replicate (r.getD 0 0).toNat 1)
theorem row_ok {r : List Int} (h1 : 1 ≤ r.length) (h4 : r.length ≤ 4) (hx : ∀ x ∈ r, 1 ≤ x ∧ x ≤ 5) (hp : r.Pairwise fun a b => b ≤ a) : RowOk r := by
  have hm := decs_mem r 5 hx hp
  have hm' : r ∈ decs 1 5 ++ decs 2 5 ++ decs 3 5 ++ decs 4 5 := by
    have : r.length = 1 ∨ r.length = 2 ∨ r.length = 3 ∨ r.length = 4 := by omega
    simp only [List.mem_append]
    rcases this with e | e | e | e <;> rw [e] at hm <;> simp [hm]
  have h := List.all_eq_true.mp tab_r r hm'
  simp only [Bool.and_eq_true, beq_iff_eq, List.contains_iff_mem] at h
  obtain ⟨⟨⟨⟨a1, a2⟩, a3⟩, a4⟩, a5⟩ := h
  refine ⟨a1, a2, by rw [tab_lose _ a1, tab_lose _ a2]; exact a3, a4, fun hl hne hc => ?_⟩
  rw [tab_lose _ a1] at hl
  simp only [hl, Bool.not_true, Bool.false_or, Bool.or_eq_true, beq_iff_eq, Bool.not_eq_true', Bool.or_eq_false_iff, beq_eq_false_iff_ne] at a5
  rcases a5 with e | ⟨e1, e2⟩
  · exact hne e
  · rcases hc with c | c
    · exact e1 c
    · exact e2 c
theorem tab_sq : [2, 3, 4, 5].all (fun n : Nat => tabU.contains ((n : Int) :: List.replicate (n - 1) 1) && tabT.contains ((n : Int) :: List.replicate (n - 1) 1)) = true := by decide +kernel
theorem tab_two : [1, 2, 3, 4, 5, 6].all (fun a : Int => [0, 1, 2, 3, 4, 5, 6].all fun b : Int => !decide (b ≤ a) || (let r := if b > 0 then [a, b] else [a]; tabU.contains r && (tabT.contains r == (if b == 0 then a == 1 else a == b + 1)))) = true := by decide +kernel
theorem sq_ok (n : Nat) (h1 : 2 ≤ n) (h2 : n ≤ 5) : ((n : Int) :: List.replicate (n - 1) 1) ∈ tabU ∧ lose ((n : Int) :: List.replicate (n - 1) 1) = true := by
  have hm : n ∈ [2, 3, 4, 5] := by
    have : n = 2 ∨ n = 3 ∨ n = 4 ∨ n = 5 := by omega
    simpa using this
  have h := List.all_eq_true.mp tab_sq n hm
  simp only [Bool.and_eq_true, List.contains_iff_mem] at h
  refine ⟨h.1, ?_⟩
  rw [tab_lose _ h.1]
  simpa using h.2
theorem two_ok (a b : Int) (h1 : 1 ≤ a) (h2 : a ≤ 6) (h3 : 0 ≤ b) (h4 : b ≤ a) : (if b > 0 then [a, b] else [a]) ∈ tabU ∧ lose (if b > 0 then [a, b] else [a]) = (if b == 0 then a == 1 else a == b + 1) := by
  have ha : a ∈ ([1, 2, 3, 4, 5, 6] : List Int) := by
    have : a = 1 ∨ a = 2 ∨ a = 3 ∨ a = 4 ∨ a = 5 ∨ a = 6 := by omega
    simpa using this
  have hb : b ∈ ([0, 1, 2, 3, 4, 5, 6] : List Int) := by
    have : b = 0 ∨ b = 1 ∨ b = 2 ∨ b = 3 ∨ b = 4 ∨ b = 5 ∨ b = 6 := by omega
    simpa using this
  have h := List.all_eq_true.mp (List.all_eq_true.mp tab_two a ha) b hb
  rw [decide_eq_true h4, Bool.not_true, Bool.false_or] at h
  simp only [Bool.and_eq_true, beq_iff_eq, List.contains_iff_mem] at h
  refine ⟨h.1, ?_⟩
  rw [tab_lose _ h.1, h.2]
  by_cases hb0 : b = 0 <;> simp [hb0]
end Lw
set_option Elab.async false
set_option linter.all false
set_option maxRecDepth 100000
set_option maxHeartbeats 2000000
namespace Lw
open PySem PySem.Spec L2 J
theorem clU : Clo tabU := ⟨tab_v, fun x hx y hy => by
  have h := List.all_eq_true.mp tab_ok x hx
  rw [Bool.and_eq_true, Bool.and_eq_true] at h
  have := List.all_eq_true.mp h.1.2 y (srt_mem.mp hy)
  simpa using this, by decide +kernel⟩
def loD (d : D) : Bool := match rowOf d with | some x => lose x | none => false
theorem lo_filter (l : List (List Int)) : ((l.map rowD).filter loD).map id = (l.filter lose).map rowD := by
  rw [List.map_id, List.filter_map]
  congr 1
  refine List.filter_congr fun x _ => ?_
  simp only [Function.comp, loD, rowOf_row]
theorem good_sem {U : List (List Int)} (hU : Clo U) {r : List Int} {S : Store} {Q : QE} {E : String → Store → Prop} (hr : r ∈ U) (h : Q (.lst (((opt r).filter lose).map rowD)) S) : Wgood_bites [rowD r] S Q E := by
  have hv := hU.v r hr
  unfold Wgood_bites bgood_bites
  simp only [wLc, eLcA, wSeq, wFn, startD, wSq, wSet, wVar, getS, wC, w2, w1, eTup, eLst, eLstM, wCons, wNil, wIf, wTst, wRet, wRetN, wDrop, wB, wNext, kB_b, orF_some, orF_none, kI0_ii, kIC_ii, kAdd_ii, kAdd_tt, kAdd_ll, kMul_ii, kMulT_ti, kInt_i, kMin2_ii, kMax2_ii, kLen_l, kLen_t, kLen_s, kIx_l, kIx_t, kIx_s, kTuple_l, kTuple_t, kList_l, kList_t, kSl_t, kSl_l, kEq_ii, kNe_ii, kLt, kLe, kGt, kGe, kSub, kMod, kFdiv, kPow, kIx_p, kLen_p, kAppend_p, kSetI_p, at4_0, at4_1, at4_2, at4_3, ix4_0, ix4_1, ix4_2, ix4_3, wAndT, wOrT, wNotT, wAndV, wOrV, wNotV, wIfE, wCall, wSub, wPar, wChn, wRaise, wSl, wPart, wNoP, wBrk, wCnt, wMt, wMt0, List.map_cons, List.map_nil, List.length_cons, List.length_nil, List.cons_append, List.nil_append, List.getElem?_cons_zero, List.getElem?_cons_succ, List.set_cons_zero, List.set_cons_succ, Option.join_some, Option.join_none, List.replicate_succ, List.replicate_zero, Nat.reduceAdd, Nat.reduceSub, Nat.sub_zero, wipeD]
  refine ⟨trivial, bites_sem hv ?_⟩
  have hol := opt_len hv
  refine ⟨fitsL (by simp; omega), lcl_pure loD id trivial _ _ (fun d hd => ?_) ?_⟩
  · obtain ⟨x, hx, rfl⟩ := List.mem_map.mp hd
    refine ⟨_, rfl, fun k hk => ?_, fun _ k hk => ?_⟩
    · simp only [wFn, startD, wSq, wSet, wVar, getS, wC, w2, w1, eTup, eLst, eLstM, wCons, wNil, wIf, wTst, wRet, wRetN, wDrop, wB, wNext, kB_b, orF_some, orF_none, kI0_ii, kIC_ii, kAdd_ii, kAdd_tt, kAdd_ll, kMul_ii, kMulT_ti, kInt_i, kMin2_ii, kMax2_ii, kLen_l, kLen_t, kLen_s, kIx_l, kIx_t, kIx_s, kTuple_l, kTuple_t, kList_l, kList_t, kSl_t, kSl_l, kEq_ii, kNe_ii, kLt, kLe, kGt, kGe, kSub, kMod, kFdiv, kPow, kIx_p, kLen_p, kAppend_p, kSetI_p, at4_0, at4_1, at4_2, at4_3, ix4_0, ix4_1, ix4_2, ix4_3, wAndT, wOrT, wNotT, wAndV, wOrV, wNotV, wIfE, wCall, wSub, wPar, wChn, wRaise, wSl, wPart, wNoP, wBrk, wCnt, wMt, wMt0, List.map_cons, List.map_nil, List.length_cons, List.length_nil, List.cons_append, List.nil_append, List.getElem?_cons_zero, List.getElem?_cons_succ, List.set_cons_zero, List.set_cons_succ, Option.join_some, Option.join_none, List.replicate_succ, List.replicate_zero, Nat.reduceAdd, Nat.reduceSub, Nat.sub_zero]
      refine ⟨trivial, loses_sem hU (hU.c r hr x hx) ?_⟩
      simp only [loD, rowOf_row] at hk
      exact hk
    · simp only [wFn, startD, wSq, wSet, wVar, getS, wC, w2, w1, eTup, eLst, eLstM, wCons, wNil, wIf, wTst, wRet, wRetN, wDrop, wB, wNext, kB_b, orF_some, orF_none, kI0_ii, kIC_ii, kAdd_ii, kAdd_tt, kAdd_ll, kMul_ii, kMulT_ti, kInt_i, kMin2_ii, kMax2_ii, kLen_l, kLen_t, kLen_s, kIx_l, kIx_t, kIx_s, kTuple_l, kTuple_t, kList_l, kList_t, kSl_t, kSl_l, kEq_ii, kNe_ii, kLt, kLe, kGt, kGe, kSub, kMod, kFdiv, kPow, kIx_p, kLen_p, kAppend_p, kSetI_p, at4_0, at4_1, at4_2, at4_3, ix4_0, ix4_1, ix4_2, ix4_3, wAndT, wOrT, wNotT, wAndV, wOrV, wNotV, wIfE, wCall, wSub, wPar, wChn, wRaise, wSl, wPart, wNoP, wBrk, wCnt, wMt, wMt0, List.map_cons, List.map_nil, List.length_cons, List.length_nil, List.cons_append, List.nil_append, List.getElem?_cons_zero, List.getElem?_cons_succ, List.set_cons_zero, List.set_cons_succ, Option.join_some, Option.join_none, List.replicate_succ, List.replicate_zero, Nat.reduceAdd, Nat.reduceSub, Nat.sub_zero]; exact hk
  · rw [List.nil_append, lo_filter]; exact Rt.same h
theorem head_at {r : List Int} (hr : r ≠ []) : atI (r.map D.int) 0 = some (.int (r.getD 0 0)) := by
  cases r with
  | nil => exact absurd rfl hr
  | cons x r => exact atI_nat (k := 0) rfl
def gtD (c : Int) : D → Bool | .int x => decide (c < x) | _ => false
theorem gt_filter (c : Int) (r : List Int) : ((r.map D.int).filter (gtD c)).length = (r.filter fun x => decide (c < x)).length := by
  rw [List.filter_map, List.length_map]; rfl
theorem trn_eq (r : List Int) : ([] ++ ((((List.range (r.getD 0 0).toNat).map fun k : Nat => D.int (k : Int)).filter fun _ => true).map fun d => match d with | .int c => D.int ((r.filter fun x => decide (c < x)).length : Int) | d => d)) = (trn r).map D.int := by
  rw [filt_tt, List.nil_append, List.map_map]
  unfold trn
  rw [List.map_map]; rfl
theorem trn_sem {r : List Int} {S : Store} {Q : QE} {E : String → Store → Prop} (hv : Valid r) (h : Q (rowD (trn r)) S) : W_law_turned [rowD r] S Q E := by
  have h6 := hv.len
  have h0 : r.getD 0 0 ≤ 40 ∧ 0 ≤ r.getD 0 0 := by
    cases hr : r with
    | nil => exact absurd hr hv.ne
    | cons x l =>
      have := mem_sum hv.pos (x := x) (by rw [hr]; simp)
      have := hv.pos x (by rw [hr]; simp)
      have := hv.sum
      simp only [List.getD_cons_zero]; omega
  unfold W_law_turned b_law_turned
  simp only [wLc, eLcA, wSeq, wRng1, wFn, startD, wSq, wSet, wVar, getS, wC, w2, w1, eTup, eLst, eLstM, wCons, wNil, wIf, wTst, wRet, wRetN, wDrop, wB, wNext, kB_b, orF_some, orF_none, kI0_ii, kIC_ii, kAdd_ii, kAdd_tt, kAdd_ll, kMul_ii, kMulT_ti, kInt_i, kMin2_ii, kMax2_ii, kLen_l, kLen_t, kLen_s, kIx_l, kIx_t, kIx_s, kTuple_l, kTuple_t, kList_l, kList_t, kSl_t, kSl_l, kEq_ii, kNe_ii, kLt, kLe, kGt, kGe, kSub, kMod, kFdiv, kPow, kIx_p, kLen_p, kAppend_p, kSetI_p, at4_0, at4_1, at4_2, at4_3, ix4_0, ix4_1, ix4_2, ix4_3, wAndT, wOrT, wNotT, wAndV, wOrV, wNotV, wIfE, wCall, wSub, wPar, wChn, wRaise, wSl, wPart, wNoP, wBrk, wCnt, wMt, wMt0, List.map_cons, List.map_nil, List.length_cons, List.length_nil, List.cons_append, List.nil_append, List.getElem?_cons_zero, List.getElem?_cons_succ, List.set_cons_zero, List.set_cons_succ, Option.join_some, Option.join_none, List.replicate_succ, List.replicate_zero, Nat.reduceAdd, Nat.reduceSub, Nat.sub_zero, wipeD, head_at hv.ne]
  refine ⟨⟨by omega, by omega⟩, fitsL (by rw [List.length_map, List.length_range]; omega), lcl_pure (fun _ => true) (fun d => match d with | .int c => D.int ((r.filter fun x => decide (c < x)).length : Int) | d => d) trivial _ _ (fun d hd => ?_) ?_⟩
  · obtain ⟨c, hc, rfl⟩ := List.mem_map.mp hd
    refine ⟨_, rfl, fun k hk => hk, fun _ k hk => ?_⟩
    simp only [wLc, eLcA, wSeq, wFn, startD, wSq, wSet, wVar, getS, wC, w2, w1, eTup, eLst, eLstM, wCons, wNil, wIf, wTst, wRet, wRetN, wDrop, wB, wNext, kB_b, orF_some, orF_none, kI0_ii, kIC_ii, kAdd_ii, kAdd_tt, kAdd_ll, kMul_ii, kMulT_ti, kInt_i, kMin2_ii, kMax2_ii, kLen_l, kLen_t, kLen_s, kIx_l, kIx_t, kIx_s, kTuple_l, kTuple_t, kList_l, kList_t, kSl_t, kSl_l, kEq_ii, kNe_ii, kLt, kLe, kGt, kGe, kSub, kMod, kFdiv, kPow, kIx_p, kLen_p, kAppend_p, kSetI_p, at4_0, at4_1, at4_2, at4_3, ix4_0, ix4_1, ix4_2, ix4_3, wAndT, wOrT, wNotT, wAndV, wOrV, wNotV, wIfE, wCall, wSub, wPar, wChn, wRaise, wSl, wPart, wNoP, wBrk, wCnt, wMt, wMt0, List.map_cons, List.map_nil, List.length_cons, List.length_nil, List.cons_append, List.nil_append, List.getElem?_cons_zero, List.getElem?_cons_succ, List.set_cons_zero, List.set_cons_succ, Option.join_some, Option.join_none, List.replicate_succ, List.replicate_zero, Nat.reduceAdd, Nat.reduceSub, Nat.sub_zero, wipeD]
    refine ⟨fitsL (by simp; omega), lcl_pure (gtD c) id trivial _ _ (fun d hd => ?_) ?_⟩
    · obtain ⟨x, hx, rfl⟩ := List.mem_map.mp hd
      refine ⟨_, rfl, fun k hk => ?_, fun _ k hk => ?_⟩
      · simp only [wFn, startD, wSq, wSet, wVar, getS, wC, w2, w1, eTup, eLst, eLstM, wCons, wNil, wIf, wTst, wRet, wRetN, wDrop, wB, wNext, kB_b, orF_some, orF_none, kI0_ii, kIC_ii, kAdd_ii, kAdd_tt, kAdd_ll, kMul_ii, kMulT_ti, kInt_i, kMin2_ii, kMax2_ii, kLen_l, kLen_t, kLen_s, kIx_l, kIx_t, kIx_s, kTuple_l, kTuple_t, kList_l, kList_t, kSl_t, kSl_l, kEq_ii, kNe_ii, kLt, kLe, kGt, kGe, kSub, kMod, kFdiv, kPow, kIx_p, kLen_p, kAppend_p, kSetI_p, at4_0, at4_1, at4_2, at4_3, ix4_0, ix4_1, ix4_2, ix4_3, wAndT, wOrT, wNotT, wAndV, wOrV, wNotV, wIfE, wCall, wSub, wPar, wChn, wRaise, wSl, wPart, wNoP, wBrk, wCnt, wMt, wMt0, List.map_cons, List.map_nil, List.length_cons, List.length_nil, List.cons_append, List.nil_append, List.getElem?_cons_zero, List.getElem?_cons_succ, List.set_cons_zero, List.set_cons_succ, Option.join_some, Option.join_none, List.replicate_succ, List.replicate_zero, Nat.reduceAdd, Nat.reduceSub, Nat.sub_zero]; exact hk
      · simp only [wFn, startD, wSq, wSet, wVar, getS, wC, w2, w1, eTup, eLst, eLstM, wCons, wNil, wIf, wTst, wRet, wRetN, wDrop, wB, wNext, kB_b, orF_some, orF_none, kI0_ii, kIC_ii, kAdd_ii, kAdd_tt, kAdd_ll, kMul_ii, kMulT_ti, kInt_i, kMin2_ii, kMax2_ii, kLen_l, kLen_t, kLen_s, kIx_l, kIx_t, kIx_s, kTuple_l, kTuple_t, kList_l, kList_t, kSl_t, kSl_l, kEq_ii, kNe_ii, kLt, kLe, kGt, kGe, kSub, kMod, kFdiv, kPow, kIx_p, kLen_p, kAppend_p, kSetI_p, at4_0, at4_1, at4_2, at4_3, ix4_0, ix4_1, ix4_2, ix4_3, wAndT, wOrT, wNotT, wAndV, wOrV, wNotV, wIfE, wCall, wSub, wPar, wChn, wRaise, wSl, wPart, wNoP, wBrk, wCnt, wMt, wMt0, List.map_cons, List.map_nil, List.length_cons, List.length_nil, List.cons_append, List.nil_append, List.getElem?_cons_zero, List.getElem?_cons_succ, List.set_cons_zero, List.set_cons_succ, Option.join_some, Option.join_none, List.replicate_succ, List.replicate_zero, Nat.reduceAdd, Nat.reduceSub, Nat.sub_zero]; exact hk
    · rw [List.nil_append, List.map_id]
      simp only [wFn, startD, wSq, wSet, wVar, getS, wC, w2, w1, eTup, eLst, eLstM, wCons, wNil, wIf, wTst, wRet, wRetN, wDrop, wB, wNext, kB_b, orF_some, orF_none, kI0_ii, kIC_ii, kAdd_ii, kAdd_tt, kAdd_ll, kMul_ii, kMulT_ti, kInt_i, kMin2_ii, kMax2_ii, kLen_l, kLen_t, kLen_s, kIx_l, kIx_t, kIx_s, kTuple_l, kTuple_t, kList_l, kList_t, kSl_t, kSl_l, kEq_ii, kNe_ii, kLt, kLe, kGt, kGe, kSub, kMod, kFdiv, kPow, kIx_p, kLen_p, kAppend_p, kSetI_p, at4_0, at4_1, at4_2, at4_3, ix4_0, ix4_1, ix4_2, ix4_3, wAndT, wOrT, wNotT, wAndV, wOrV, wNotV, wIfE, wCall, wSub, wPar, wChn, wRaise, wSl, wPart, wNoP, wBrk, wCnt, wMt, wMt0, List.map_cons, List.map_nil, List.length_cons, List.length_nil, List.cons_append, List.nil_append, List.getElem?_cons_zero, List.getElem?_cons_succ, List.set_cons_zero, List.set_cons_succ, Option.join_some, Option.join_none, List.replicate_succ, List.replicate_zero, Nat.reduceAdd, Nat.reduceSub, Nat.sub_zero, gt_filter]
      exact hk
  · rw [trn_eq]
    exact Rt.same h
theorem mir_sem {r : List Int} {S : Store} {Q : QE} {E : String → Store → Prop} (hv : Valid r) (h : Q (rowD (trn r)) S) : Wmirrored [rowD r] S Q E := by
  have h6 := hv.len
  have h0 : r.getD 0 0 ≤ 40 ∧ 0 ≤ r.getD 0 0 := by
    cases hr : r with
    | nil => exact absurd hr hv.ne
    | cons x l =>
      have := mem_sum hv.pos (x := x) (by rw [hr]; simp)
      have := hv.pos x (by rw [hr]; simp)
      have := hv.sum
      simp only [List.getD_cons_zero]; omega
  unfold Wmirrored bmirrored
  simp only [wFn, startD, wSq, wSet, wVar, getS, wC, w2, w1, eTup, eLst, eLstM, wCons, wNil, wIf, wTst, wRet, wRetN, wDrop, wB, wNext, kB_b, orF_some, orF_none, kI0_ii, kIC_ii, kAdd_ii, kAdd_tt, kAdd_ll, kMul_ii, kMulT_ti, kInt_i, kMin2_ii, kMax2_ii, kLen_l, kLen_t, kLen_s, kIx_l, kIx_t, kIx_s, kTuple_l, kTuple_t, kList_l, kList_t, kSl_t, kSl_l, kEq_ii, kNe_ii, kLt, kLe, kGt, kGe, kSub, kMod, kFdiv, kPow, kIx_p, kLen_p, kAppend_p, kSetI_p, at4_0, at4_1, at4_2, at4_3, ix4_0, ix4_1, ix4_2, ix4_3, wAndT, wOrT, wNotT, wAndV, wOrV, wNotV, wIfE, wCall, wSub, wPar, wChn, wRaise, wSl, wPart, wNoP, wBrk, wCnt, wMt, wMt0, List.map_cons, List.map_nil, List.length_cons, List.length_nil, List.cons_append, List.nil_append, List.getElem?_cons_zero, List.getElem?_cons_succ, List.set_cons_zero, List.set_cons_succ, Option.join_some, Option.join_none, List.replicate_succ, List.replicate_zero, Nat.reduceAdd, Nat.reduceSub, Nat.sub_zero]
  refine ⟨trivial, need_ok hv ?_⟩
  simp only [wLc, eLcA, wSeq, wRng1, wFn, startD, wSq, wSet, wVar, getS, wC, w2, w1, eTup, eLst, eLstM, wCons, wNil, wIf, wTst, wRet, wRetN, wDrop, wB, wNext, kB_b, orF_some, orF_none, kI0_ii, kIC_ii, kAdd_ii, kAdd_tt, kAdd_ll, kMul_ii, kMulT_ti, kInt_i, kMin2_ii, kMax2_ii, kLen_l, kLen_t, kLen_s, kIx_l, kIx_t, kIx_s, kTuple_l, kTuple_t, kList_l, kList_t, kSl_t, kSl_l, kEq_ii, kNe_ii, kLt, kLe, kGt, kGe, kSub, kMod, kFdiv, kPow, kIx_p, kLen_p, kAppend_p, kSetI_p, at4_0, at4_1, at4_2, at4_3, ix4_0, ix4_1, ix4_2, ix4_3, wAndT, wOrT, wNotT, wAndV, wOrV, wNotV, wIfE, wCall, wSub, wPar, wChn, wRaise, wSl, wPart, wNoP, wBrk, wCnt, wMt, wMt0, List.map_cons, List.map_nil, List.length_cons, List.length_nil, List.cons_append, List.nil_append, List.getElem?_cons_zero, List.getElem?_cons_succ, List.set_cons_zero, List.set_cons_succ, Option.join_some, Option.join_none, List.replicate_succ, List.replicate_zero, Nat.reduceAdd, Nat.reduceSub, Nat.sub_zero, wipeD, head_at hv.ne]
  refine ⟨⟨by omega, by omega⟩, fitsL (by rw [List.length_map, List.length_range]; omega), lcl_pure (fun _ => true) (fun d => match d with | .int c => D.int ((r.filter fun x => decide (c < x)).length : Int) | d => d) trivial _ _ (fun d hd => ?_) ?_⟩
  · obtain ⟨c, hc, rfl⟩ := List.mem_map.mp hd
    refine ⟨_, rfl, fun k hk => hk, fun _ k hk => ?_⟩
    simp only [wLc, eLcA, wSeq, wFn, startD, wSq, wSet, wVar, getS, wC, w2, w1, eTup, eLst, eLstM, wCons, wNil, wIf, wTst, wRet, wRetN, wDrop, wB, wNext, kB_b, orF_some, orF_none, kI0_ii, kIC_ii, kAdd_ii, kAdd_tt, kAdd_ll, kMul_ii, kMulT_ti, kInt_i, kMin2_ii, kMax2_ii, kLen_l, kLen_t, kLen_s, kIx_l, kIx_t, kIx_s, kTuple_l, kTuple_t, kList_l, kList_t, kSl_t, kSl_l, kEq_ii, kNe_ii, kLt, kLe, kGt, kGe, kSub, kMod, kFdiv, kPow, kIx_p, kLen_p, kAppend_p, kSetI_p, at4_0, at4_1, at4_2, at4_3, ix4_0, ix4_1, ix4_2, ix4_3, wAndT, wOrT, wNotT, wAndV, wOrV, wNotV, wIfE, wCall, wSub, wPar, wChn, wRaise, wSl, wPart, wNoP, wBrk, wCnt, wMt, wMt0, List.map_cons, List.map_nil, List.length_cons, List.length_nil, List.cons_append, List.nil_append, List.getElem?_cons_zero, List.getElem?_cons_succ, List.set_cons_zero, List.set_cons_succ, Option.join_some, Option.join_none, List.replicate_succ, List.replicate_zero, Nat.reduceAdd, Nat.reduceSub, Nat.sub_zero, wipeD]
    refine ⟨fitsL (by simp; omega), lcl_pure (gtD c) (fun _ => .int 1) trivial _ _ (fun d hd => ?_) ?_⟩
    · obtain ⟨x, hx, rfl⟩ := List.mem_map.mp hd
      refine ⟨_, rfl, fun k hk => ?_, fun _ k hk => ?_⟩
      · simp only [wFn, startD, wSq, wSet, wVar, getS, wC, w2, w1, eTup, eLst, eLstM, wCons, wNil, wIf, wTst, wRet, wRetN, wDrop, wB, wNext, kB_b, orF_some, orF_none, kI0_ii, kIC_ii, kAdd_ii, kAdd_tt, kAdd_ll, kMul_ii, kMulT_ti, kInt_i, kMin2_ii, kMax2_ii, kLen_l, kLen_t, kLen_s, kIx_l, kIx_t, kIx_s, kTuple_l, kTuple_t, kList_l, kList_t, kSl_t, kSl_l, kEq_ii, kNe_ii, kLt, kLe, kGt, kGe, kSub, kMod, kFdiv, kPow, kIx_p, kLen_p, kAppend_p, kSetI_p, at4_0, at4_1, at4_2, at4_3, ix4_0, ix4_1, ix4_2, ix4_3, wAndT, wOrT, wNotT, wAndV, wOrV, wNotV, wIfE, wCall, wSub, wPar, wChn, wRaise, wSl, wPart, wNoP, wBrk, wCnt, wMt, wMt0, List.map_cons, List.map_nil, List.length_cons, List.length_nil, List.cons_append, List.nil_append, List.getElem?_cons_zero, List.getElem?_cons_succ, List.set_cons_zero, List.set_cons_succ, Option.join_some, Option.join_none, List.replicate_succ, List.replicate_zero, Nat.reduceAdd, Nat.reduceSub, Nat.sub_zero]; exact hk
      · simp only [wFn, startD, wSq, wSet, wVar, getS, wC, w2, w1, eTup, eLst, eLstM, wCons, wNil, wIf, wTst, wRet, wRetN, wDrop, wB, wNext, kB_b, orF_some, orF_none, kI0_ii, kIC_ii, kAdd_ii, kAdd_tt, kAdd_ll, kMul_ii, kMulT_ti, kInt_i, kMin2_ii, kMax2_ii, kLen_l, kLen_t, kLen_s, kIx_l, kIx_t, kIx_s, kTuple_l, kTuple_t, kList_l, kList_t, kSl_t, kSl_l, kEq_ii, kNe_ii, kLt, kLe, kGt, kGe, kSub, kMod, kFdiv, kPow, kIx_p, kLen_p, kAppend_p, kSetI_p, at4_0, at4_1, at4_2, at4_3, ix4_0, ix4_1, ix4_2, ix4_3, wAndT, wOrT, wNotT, wAndV, wOrV, wNotV, wIfE, wCall, wSub, wPar, wChn, wRaise, wSl, wPart, wNoP, wBrk, wCnt, wMt, wMt0, List.map_cons, List.map_nil, List.length_cons, List.length_nil, List.cons_append, List.nil_append, List.getElem?_cons_zero, List.getElem?_cons_succ, List.set_cons_zero, List.set_cons_succ, Option.join_some, Option.join_none, List.replicate_succ, List.replicate_zero, Nat.reduceAdd, Nat.reduceSub, Nat.sub_zero]; exact hk
    · rw [List.nil_append]
      simp only [wFn, startD, wSq, wSet, wVar, getS, wC, w2, w1, eTup, eLst, eLstM, wCons, wNil, wIf, wTst, wRet, wRetN, wDrop, wB, wNext, kB_b, orF_some, orF_none, kI0_ii, kIC_ii, kAdd_ii, kAdd_tt, kAdd_ll, kMul_ii, kMulT_ti, kInt_i, kMin2_ii, kMax2_ii, kLen_l, kLen_t, kLen_s, kIx_l, kIx_t, kIx_s, kTuple_l, kTuple_t, kList_l, kList_t, kSl_t, kSl_l, kEq_ii, kNe_ii, kLt, kLe, kGt, kGe, kSub, kMod, kFdiv, kPow, kIx_p, kLen_p, kAppend_p, kSetI_p, at4_0, at4_1, at4_2, at4_3, ix4_0, ix4_1, ix4_2, ix4_3, wAndT, wOrT, wNotT, wAndV, wOrV, wNotV, wIfE, wCall, wSub, wPar, wChn, wRaise, wSl, wPart, wNoP, wBrk, wCnt, wMt, wMt0, List.map_cons, List.map_nil, List.length_cons, List.length_nil, List.cons_append, List.nil_append, List.getElem?_cons_zero, List.getElem?_cons_succ, List.set_cons_zero, List.set_cons_succ, Option.join_some, Option.join_none, List.replicate_succ, List.replicate_zero, Nat.reduceAdd, Nat.reduceSub, Nat.sub_zero, gt_filter, List.length_map]
      exact hk
  · rw [trn_eq]
    exact Rt.same h
theorem two_sem (a b : Int) {S : Store} {Q : QE} {E : String → Store → Prop} (h : Q (.bl (if b == 0 then a == 1 else a == b + 1)) S) : Wtwo_rows_lose [.int a, .int b] S Q E := by
  unfold Wtwo_rows_lose btwo_rows_lose
  simp only [wFn, startD, wSq, wSet, wVar, getS, wC, w2, w1, eTup, eLst, eLstM, wCons, wNil, wIf, wTst, wRet, wRetN, wDrop, wB, wNext, kB_b, orF_some, orF_none, kI0_ii, kIC_ii, kAdd_ii, kAdd_tt, kAdd_ll, kMul_ii, kMulT_ti, kInt_i, kMin2_ii, kMax2_ii, kLen_l, kLen_t, kLen_s, kIx_l, kIx_t, kIx_s, kTuple_l, kTuple_t, kList_l, kList_t, kSl_t, kSl_l, kEq_ii, kNe_ii, kLt, kLe, kGt, kGe, kSub, kMod, kFdiv, kPow, kIx_p, kLen_p, kAppend_p, kSetI_p, at4_0, at4_1, at4_2, at4_3, ix4_0, ix4_1, ix4_2, ix4_3, wAndT, wOrT, wNotT, wAndV, wOrV, wNotV, wIfE, wCall, wSub, wPar, wChn, wRaise, wSl, wPart, wNoP, wBrk, wCnt, wMt, wMt0, List.map_cons, List.map_nil, List.length_cons, List.length_nil, List.cons_append, List.nil_append, List.getElem?_cons_zero, List.getElem?_cons_succ, List.set_cons_zero, List.set_cons_succ, Option.join_some, Option.join_none, List.replicate_succ, List.replicate_zero, Nat.reduceAdd, Nat.reduceSub, Nat.sub_zero]
  by_cases hb : (b == 0) = true
  · rw [if_pos hb] at h ⊢; exact Rt.same h
  · rw [if_neg hb] at h ⊢; exact Rt.same h
theorem sq_sem {r : List Int} {S : Store} {Q : QE} {E : String → Store → Prop} (hv : Valid r)
    (h : Q (if r.length < 2 ∨ (r.any fun x => !(x == (r.length : Int))) = true then .non else rowD ((r.length : Int) :: List.replicate (r.length - 1) 1)) S) : Wsquare_answer [rowD r] S Q E := by
  have h6 := hv.len
  have h1 := List.length_pos_iff.mpr hv.ne
  have r1 := Rt.same h
  unfold Wsquare_answer bsquare_answer
  simp only [wFn, startD, wSq, wSet, wVar, getS, wC, w2, w1, eTup, eLst, eLstM, wCons, wNil, wIf, wTst, wRet, wRetN, wDrop, wB, wNext, kB_b, orF_some, orF_none, kI0_ii, kIC_ii, kAdd_ii, kAdd_tt, kAdd_ll, kMul_ii, kMulT_ti, kInt_i, kMin2_ii, kMax2_ii, kLen_l, kLen_t, kLen_s, kIx_l, kIx_t, kIx_s, kTuple_l, kTuple_t, kList_l, kList_t, kSl_t, kSl_l, kEq_ii, kNe_ii, kLt, kLe, kGt, kGe, kSub, kMod, kFdiv, kPow, kIx_p, kLen_p, kAppend_p, kSetI_p, at4_0, at4_1, at4_2, at4_3, ix4_0, ix4_1, ix4_2, ix4_3, wAndT, wOrT, wNotT, wAndV, wOrV, wNotV, wIfE, wCall, wSub, wPar, wChn, wRaise, wSl, wPart, wNoP, wBrk, wCnt, wMt, wMt0, List.map_cons, List.map_nil, List.length_cons, List.length_nil, List.cons_append, List.nil_append, List.getElem?_cons_zero, List.getElem?_cons_succ, List.set_cons_zero, List.set_cons_succ, Option.join_some, Option.join_none, List.replicate_succ, List.replicate_zero, Nat.reduceAdd, Nat.reduceSub, Nat.sub_zero]
  refine ⟨trivial, need_ok hv ?_⟩
  simp only [wFn, startD, wSq, wSet, wVar, getS, wC, w2, w1, eTup, eLst, eLstM, wCons, wNil, wIf, wTst, wRet, wRetN, wDrop, wB, wNext, kB_b, orF_some, orF_none, kI0_ii, kIC_ii, kAdd_ii, kAdd_tt, kAdd_ll, kMul_ii, kMulT_ti, kInt_i, kMin2_ii, kMax2_ii, kLen_l, kLen_t, kLen_s, kIx_l, kIx_t, kIx_s, kTuple_l, kTuple_t, kList_l, kList_t, kSl_t, kSl_l, kEq_ii, kNe_ii, kLt, kLe, kGt, kGe, kSub, kMod, kFdiv, kPow, kIx_p, kLen_p, kAppend_p, kSetI_p, at4_0, at4_1, at4_2, at4_3, ix4_0, ix4_1, ix4_2, ix4_3, wAndT, wOrT, wNotT, wAndV, wOrV, wNotV, wIfE, wCall, wSub, wPar, wChn, wRaise, wSl, wPart, wNoP, wBrk, wCnt, wMt, wMt0, List.map_cons, List.map_nil, List.length_cons, List.length_nil, List.cons_append, List.nil_append, List.getElem?_cons_zero, List.getElem?_cons_succ, List.set_cons_zero, List.set_cons_succ, Option.join_some, Option.join_none, List.replicate_succ, List.replicate_zero, Nat.reduceAdd, Nat.reduceSub, Nat.sub_zero, List.length_map]
  have lcs : ∀ K : QE, K (.lst (((r.map fun x => !(x == (r.length : Int))).map D.bl))) S → wLc (wSeq (wVar 0)) (Tgt.one 1) wYes (w2 kNe (wVar 1) (wB kLen (wCons (wVar 0) wNil))) [1] [some (D.tup (r.map D.int)), none] S K := by
    intro K hK
    simp only [wLc, eLcA, wSeq, wFn, startD, wSq, wSet, wVar, getS, wC, w2, w1, eTup, eLst, eLstM, wCons, wNil, wIf, wTst, wRet, wRetN, wDrop, wB, wNext, kB_b, orF_some, orF_none, kI0_ii, kIC_ii, kAdd_ii, kAdd_tt, kAdd_ll, kMul_ii, kMulT_ti, kInt_i, kMin2_ii, kMax2_ii, kLen_l, kLen_t, kLen_s, kIx_l, kIx_t, kIx_s, kTuple_l, kTuple_t, kList_l, kList_t, kSl_t, kSl_l, kEq_ii, kNe_ii, kLt, kLe, kGt, kGe, kSub, kMod, kFdiv, kPow, kIx_p, kLen_p, kAppend_p, kSetI_p, at4_0, at4_1, at4_2, at4_3, ix4_0, ix4_1, ix4_2, ix4_3, wAndT, wOrT, wNotT, wAndV, wOrV, wNotV, wIfE, wCall, wSub, wPar, wChn, wRaise, wSl, wPart, wNoP, wBrk, wCnt, wMt, wMt0, List.map_cons, List.map_nil, List.length_cons, List.length_nil, List.cons_append, List.nil_append, List.getElem?_cons_zero, List.getElem?_cons_succ, List.set_cons_zero, List.set_cons_succ, Option.join_some, Option.join_none, List.replicate_succ, List.replicate_zero, Nat.reduceAdd, Nat.reduceSub, Nat.sub_zero, wipeD]
    refine ⟨fitsL (by simp; omega), lcl_pure (fun _ => true) (fun d => match d with | .int x => .bl (!(x == (r.length : Int))) | d => d) trivial _ _ (fun d hd => ?_) ?_⟩
    · obtain ⟨x, hx, rfl⟩ := List.mem_map.mp hd
      refine ⟨_, rfl, fun k hk => hk, fun _ k hk => ?_⟩
      simp only [wFn, startD, wSq, wSet, wVar, getS, wC, w2, w1, eTup, eLst, eLstM, wCons, wNil, wIf, wTst, wRet, wRetN, wDrop, wB, wNext, kB_b, orF_some, orF_none, kI0_ii, kIC_ii, kAdd_ii, kAdd_tt, kAdd_ll, kMul_ii, kMulT_ti, kInt_i, kMin2_ii, kMax2_ii, kLen_l, kLen_t, kLen_s, kIx_l, kIx_t, kIx_s, kTuple_l, kTuple_t, kList_l, kList_t, kSl_t, kSl_l, kEq_ii, kNe_ii, kLt, kLe, kGt, kGe, kSub, kMod, kFdiv, kPow, kIx_p, kLen_p, kAppend_p, kSetI_p, at4_0, at4_1, at4_2, at4_3, ix4_0, ix4_1, ix4_2, ix4_3, wAndT, wOrT, wNotT, wAndV, wOrV, wNotV, wIfE, wCall, wSub, wPar, wChn, wRaise, wSl, wPart, wNoP, wBrk, wCnt, wMt, wMt0, List.map_cons, List.map_nil, List.length_cons, List.length_nil, List.cons_append, List.nil_append, List.getElem?_cons_zero, List.getElem?_cons_succ, List.set_cons_zero, List.set_cons_succ, Option.join_some, Option.join_none, List.replicate_succ, List.replicate_zero, Nat.reduceAdd, Nat.reduceSub, Nat.sub_zero, List.length_map]; exact hk
    · rw [filt_tt, List.nil_append, List.map_map]
      rw [List.map_map] at hK
      exact hK
  have rep : (List.replicate ((r.length : Int) - 1).toNat [D.int 1]).flatten = (List.replicate (r.length - 1) (1 : Int)).map D.int := by
    have e : ((r.length : Int) - 1).toNat = r.length - 1 := by omega
    rw [e]
    generalize r.length - 1 = m
    induction m with
    | zero => rfl
    | succ m ih => rw [List.replicate_succ, List.flatten_cons, ih, List.replicate_succ]; rfl
  by_cases hl : r.length < 2
  · rw [if_pos (decide_eq_true (by omega)), if_pos trivial]
    rw [if_pos (.inl hl)] at r1; exact r1
  · rw [if_neg (by rw [decide_eq_false (by omega)]; decide)]
    refine lcs _ ?_
    rw [kAny_l, kB_b]
    have e : ((r.map fun x => !(x == (r.length : Int))).any id) = r.any fun x => !(x == (r.length : Int)) := by rw [List.any_map]; rfl
    rw [e]
    by_cases ha : (r.any fun x => !(x == (r.length : Int))) = true
    · rw [if_pos ha]
      rw [if_pos (.inr ha)] at r1; exact r1
    · rw [if_neg ha]
      rw [if_neg (by rintro (x | x); exact hl x; exact ha x)] at r1
      refine ⟨fits (by decide), fits (by decide), ⟨by omega, by omega, by decide⟩, ?_, ?_⟩
      · rw [rep]; exact fits (by simp; omega)
      · rw [rep]; exact r1
end Lw
set_option Elab.async false
set_option linter.all false
set_option maxRecDepth 100000
set_option maxHeartbeats 4000000
namespace Lw
open PySem PySem.Spec L2 J
/-! ## the law, row by row -/
theorem sq_intro {w u : WS} {De : En} {g : Sg} {S : Store} (h : ∀ N, N = u De → w { De with nx := N } g S) : wSq w u De g S := h _ rfl
theorem for_intro {wr : WA} {t : Tgt} {wb : WS} {De : En} {g : Sg} {S : Store} (h : ∀ B De', B = wb → De' = De → wr g S fun ds S1 => match ds with
    | [.int j] => smR j ∧ fl noReq t B De' ((List.range j.toNat).map fun k : Nat => D.int (k : Int)) g S1
    | _ => False) : wFor (wRng1 wr) t wb De g S := h _ _ rfl rfl
theorem ix_store {S : Store} {p : Addr} {d : D} {Q : QE} (h : Q d S) : True := trivial
/-- good = [one for one in bites_told if _law_lost(one, known)] -/
theorem good_step {pk : Addr} {n : Nat} {g0 : Sg} {cont : List D → Store → Prop} (h0 : g0[4]? = some (some (.ref pk))) (hl : g0.length = 17) : ∀ (l acc : List (List Int)) (K : List (List Int)) (S : Store),
    (∀ x ∈ l, x ∈ tabU ∧ x.sum.toNat < n) → Good tabU K → S pk = some (.dcT (kn K)) → (∀ K', Good tabU K' → cont ((acc ++ l.filter lose).map rowD) (put S pk (.dcT (kn K')))) →
      lcl noReq (Tgt.one 16) (wTst (wCall 2 (W_law_lost n) xd0 (wCons (wVar 16) (wCons (wVar 4) wNil)))) (wVar 16) g0 cont (l.map rowD) (acc.map rowD) S := by
  intro l
  induction l with
  | nil =>
    intro acc K S _ hK hS h
    have := h K hK
    rw [put_self hS] at this
    exact ⟨trivial, by simpa using this⟩
  | cons x l ih =>
    intro acc K S hx hK hS h
    refine ⟨trivial, ?_⟩
    have e16 : getS (g0.set 16 (some (rowD x))) 16 = some (rowD x) := by simp [getS, hl]
    have e4 : getS (g0.set 16 (some (rowD x))) 4 = some (.ref pk) := by simp [getS, h0]
    simp only [asg, orF_some, wTst, wCall, wCons, wNil, wVar, e16, e4, List.length_cons, List.length_nil]
    have hx0 := hx x List.mem_cons_self
    refine ⟨trivial, lost_sem clU n x K _ _ _ hx0.1 hx0.2 hK hS fun K' hK' => ?_⟩
    rw [kB_b]
    by_cases hlx : lose x = true
    · rw [if_pos hlx]
      have e : acc.map rowD ++ [rowD x] = (acc ++ [x]).map rowD := by simp
      rw [e]
      refine ih (acc ++ [x]) K' _ (fun y hy => hx y (List.mem_cons_of_mem _ hy)) hK' put_same fun K2 h2 => ?_
      have := h K2 h2
      rw [List.filter_cons, if_pos hlx] at this
      rw [put_put]
      simpa using this
    · rw [if_neg hlx]
      refine ih acc K' _ (fun y hy => hx y (List.mem_cons_of_mem _ hy)) hK' put_same fun K2 h2 => ?_
      have := h K2 h2
      rw [List.filter_cons, if_neg hlx] at this
      rw [put_put]
      exact this
theorem good_nil {r : List Int} (hv : Valid r) : eqv (.lst (((opt r).filter lose).map rowD)) (.lst []) = lose r := by
  rw [lose_eq hv]
  have : ∀ l : List (List Int), eqvs ((l.filter lose).map rowD) [] = !l.any lose := by
    intro l
    induction l with
    | nil => simp [eqvs]
    | cons x l ih =>
      by_cases hx : lose x = true
      · simp [hx, eqvs]
      · rw [List.filter_cons, if_neg hx, ih]
        simp [hx]
  rw [eqv]; exact this _
theorem dats_ints (n : Nat) (r : List Int) : dats n (r.map D.int) = true := by
  induction r with
  | nil => simp [dats]
  | cons x r ih => simp [dats, dat, ih]
theorem dat_row (n : Nat) {r : List Int} (h : r.length ≤ 100000) : dat (n + 1) (rowD r) = true := by
  simp only [rowD, dat, List.length_map, Bool.and_eq_true, decide_eq_true_eq]
  exact ⟨h, dats_ints n r⟩
theorem dat_rows (n : Nat) {l : List (List Int)} (h : l.length ≤ 100000) (hr : ∀ r ∈ l, r.length ≤ 100000) : dat (n + 2) (.lst (l.map rowD)) = true := by
  simp only [dat, List.length_map, Bool.and_eq_true, decide_eq_true_eq]
  refine ⟨h, ?_⟩
  clear h
  induction l with
  | nil => simp [dats]
  | cons x l ih => simp only [List.map_cons, dats, Bool.and_eq_true]; exact ⟨dat_row n (hr x List.mem_cons_self), ih fun r hr' => hr r (List.mem_cons_of_mem _ hr')⟩
theorem kEq_nil (l : List (List Int)) (S : Store) (Q : QE) : kEq (.lst (l.map rowD)) (.lst []) S Q = Q (.bl (eqv (.lst (l.map rowD)) (.lst []))) S := by
  simp only [kEq, shp, shps, (shps_rows l).2, true_and]
theorem dat_l3 {n : Nat} {a b c : D} (ha : dat n a = true) (hb : dat n b = true) (hc : dat n c = true) : dat (n + 1) (.lst [a, b, c]) = true := by simp [dat, dats, ha, hb, hc]
theorem shp_row (r : List Int) : shp 60 (rowD r) = true := by
  have := (shps_rows [r]).1
  simpa [shps] using this
theorem kNe_row (a b : List Int) (S : Store) (Q : QE) : kNe (rowD a) (rowD b) S Q = Q (.bl (!decide (a = b))) S := by
  simp only [kNe, shp_row, true_and, eqv_row]
theorem kEq_row (a b : List Int) (S : Store) (Q : QE) : kEq (rowD a) (rowD b) S Q = Q (.bl (decide (a = b))) S := by
  simp only [kEq, shp_row, true_and, eqv_row]
theorem rep_row (x : Int) (m : Nat) : (List.replicate m [D.int x]).flatten = (List.replicate m x).map D.int := by
  induction m with
  | zero => rfl
  | succ m ih => rw [List.replicate_succ, List.flatten_cons, ih, List.replicate_succ]; rfl
theorem sqv (m : Nat) (h2 : 2 ≤ m) (h5 : m ≤ 5) : Valid (List.replicate m (m : Int)) ∧ (if (List.replicate m (m : Int)).length < 2 ∨ ((List.replicate m (m : Int)).any fun x => !(x == ((List.replicate m (m : Int)).length : Int))) = true then D.non else rowD (((List.replicate m (m : Int)).length : Int) :: List.replicate ((List.replicate m (m : Int)).length - 1) 1)) = rowD ((m : Int) :: List.replicate (m - 1) 1) := by
  have : m = 2 ∨ m = 3 ∨ m = 4 ∨ m = 5 := by omega
  rcases this with rfl | rfl | rfl | rfl <;> exact ⟨vld_valid (by decide +kernel), rfl⟩
theorem two_of {l : List Int} {L : List Int} {n : Int} (hd : l.Nodup) (hm : ∀ k, k ∈ l ↔ k ∈ L ++ [n]) (h : 1 < l.length) : (L.any fun x => !(x == n)) = true := by
  match l, hd, hm, h with
  | a :: b :: l, hd, hm, _ =>
    have hab : a ≠ b := fun e => (List.nodup_cons.mp hd).1 (e ▸ List.mem_cons_self)
    have ha := (hm a).mp List.mem_cons_self
    have hb := (hm b).mp (List.mem_cons_of_mem _ List.mem_cons_self)
    simp only [List.mem_append, List.mem_singleton] at ha hb
    rw [List.any_eq_true]
    by_cases e : a = n
    · rcases hb with hb | hb
      · exact ⟨b, hb, by simp; intro e2; exact hab (e.trans e2.symm)⟩
      · exact absurd (e.trans hb.symm) hab
    · rcases ha with ha | ha
      · exact ⟨a, ha, by simpa using e⟩
      · exact absurd ha e
theorem sq_sum (m : Nat) (h2 : 2 ≤ m) (h5 : m ≤ 5) : (((m : Int) :: List.replicate (m - 1) 1).sum).toNat < 40 := by
  have : m = 2 ∨ m = 3 ∨ m = 4 ∨ m = 5 := by omega
  rcases this with rfl | rfl | rfl | rfl <;> decide
theorem two_sum {a b : Int} (h1 : 1 ≤ a) (h2 : a ≤ 6) (h3 : 0 ≤ b) (h4 : b ≤ a) : ((if b > 0 then [a, b] else [a]).sum).toNat < 40 := by
  split <;> simp <;> omega
theorem kLenSet_row (r : List Int) (S : Store) (Q : QE) : kLenSet (rowD r) S Q = (r.length ≤ 1000 ∧ ∀ l : List Int, l.Nodup → (∀ k, k ∈ l ↔ k ∈ r) → Q (.int l.length) S) := by
  simp only [kLenSet, rowOf_row, orF_some]
theorem bad_of {r : List Int} {S : Store} {Q : QE} {E : String → Store → Prop} (h : ∀ (Q : QE) (E : String → Store → Prop), E "BadPosition" S → Wneed_bar [rowD r] S Q E) (he : E "BadPosition" S) : Wloses [rowD r] S Q E := by
  unfold Wloses bloses
  simp only [wFn, startD, wSq, wSet, wVar, getS, wC, w2, w1, eTup, eLst, eLstM, wCons, wNil, wIf, wTst, wRet, wRetN, wDrop, wB, wNext, kB_b, orF_some, orF_none, kI0_ii, kIC_ii, kAdd_ii, kAdd_tt, kAdd_ll, kMul_ii, kMulT_ti, kInt_i, kMin2_ii, kMax2_ii, kLen_l, kLen_t, kLen_s, kIx_l, kIx_t, kIx_s, kTuple_l, kTuple_t, kList_l, kList_t, kSl_t, kSl_l, kEq_ii, kNe_ii, kLt, kLe, kGt, kGe, kSub, kMod, kFdiv, kPow, kIx_p, kLen_p, kAppend_p, kSetI_p, at4_0, at4_1, at4_2, at4_3, ix4_0, ix4_1, ix4_2, ix4_3, wAndT, wOrT, wNotT, wAndV, wOrV, wNotV, wIfE, wCall, wSub, wPar, wChn, wRaise, wSl, wPart, wNoP, wBrk, wCnt, wMt, wMt0, List.map_cons, List.map_nil, List.length_cons, List.length_nil, List.cons_append, List.nil_append, List.getElem?_cons_zero, List.getElem?_cons_succ, List.set_cons_zero, List.set_cons_succ, Option.join_some, Option.join_none, List.replicate_succ, List.replicate_zero, Nat.reduceAdd, Nat.reduceSub, Nat.sub_zero]
  exact ⟨trivial, h _ _ (Et.same he)⟩
theorem bad0 {S : Store} (Q : QE) (E : String → Store → Prop) (he : E "BadPosition" S) : Wneed_bar [rowD []] S Q E := by
  unfold Wneed_bar bneed_bar
  simp only [wFn, startD, wSq, wSet, wVar, getS, wC, w2, w1, eTup, eLst, eLstM, wCons, wNil, wIf, wTst, wRet, wRetN, wDrop, wB, wNext, kB_b, orF_some, orF_none, kI0_ii, kIC_ii, kAdd_ii, kAdd_tt, kAdd_ll, kMul_ii, kMulT_ti, kInt_i, kMin2_ii, kMax2_ii, kLen_l, kLen_t, kLen_s, kIx_l, kIx_t, kIx_s, kTuple_l, kTuple_t, kList_l, kList_t, kSl_t, kSl_l, kEq_ii, kNe_ii, kLt, kLe, kGt, kGe, kSub, kMod, kFdiv, kPow, kIx_p, kLen_p, kAppend_p, kSetI_p, at4_0, at4_1, at4_2, at4_3, ix4_0, ix4_1, ix4_2, ix4_3, wAndT, wOrT, wNotT, wAndV, wOrV, wNotV, wIfE, wCall, wSub, wPar, wChn, wRaise, wSl, wPart, wNoP, wBrk, wCnt, wMt, wMt0, List.map_cons, List.map_nil, List.length_cons, List.length_nil, List.cons_append, List.nil_append, List.getElem?_cons_zero, List.getElem?_cons_succ, List.set_cons_zero, List.set_cons_succ, Option.join_some, Option.join_none, List.replicate_succ, List.replicate_zero, Nat.reduceAdd, Nat.reduceSub, Nat.sub_zero]
  rw [if_neg (by decide), if_pos (by decide), if_pos trivial]
  exact Et.same he
theorem bad7 {S : Store} (Q : QE) (E : String → Store → Prop) (he : E "BadPosition" S) : Wneed_bar [rowD [7, 7, 7, 7, 7, 7, 7]] S Q E := by
  unfold Wneed_bar bneed_bar
  simp only [wFn, startD, wSq, wSet, wVar, getS, wC, w2, w1, eTup, eLst, eLstM, wCons, wNil, wIf, wTst, wRet, wRetN, wDrop, wB, wNext, kB_b, orF_some, orF_none, kI0_ii, kIC_ii, kAdd_ii, kAdd_tt, kAdd_ll, kMul_ii, kMulT_ti, kInt_i, kMin2_ii, kMax2_ii, kLen_l, kLen_t, kLen_s, kIx_l, kIx_t, kIx_s, kTuple_l, kTuple_t, kList_l, kList_t, kSl_t, kSl_l, kEq_ii, kNe_ii, kLt, kLe, kGt, kGe, kSub, kMod, kFdiv, kPow, kIx_p, kLen_p, kAppend_p, kSetI_p, at4_0, at4_1, at4_2, at4_3, ix4_0, ix4_1, ix4_2, ix4_3, wAndT, wOrT, wNotT, wAndV, wOrV, wNotV, wIfE, wCall, wSub, wPar, wChn, wRaise, wSl, wPart, wNoP, wBrk, wCnt, wMt, wMt0, List.map_cons, List.map_nil, List.length_cons, List.length_nil, List.cons_append, List.nil_append, List.getElem?_cons_zero, List.getElem?_cons_succ, List.set_cons_zero, List.set_cons_succ, Option.join_some, Option.join_none, List.replicate_succ, List.replicate_zero, Nat.reduceAdd, Nat.reduceSub, Nat.sub_zero]
  rw [if_pos (by decide), if_pos (by decide), if_pos trivial]
  exact Et.same he
theorem badz {S : Store} (Q : QE) (E : String → Store → Prop) (he : E "BadPosition" S) : Wneed_bar [rowD [0]] S Q E := by
  unfold Wneed_bar bneed_bar
  simp only [wFn, startD, wSq, wSet, wVar, getS, wC, w2, w1, eTup, eLst, eLstM, wCons, wNil, wIf, wTst, wRet, wRetN, wDrop, wB, wNext, kB_b, orF_some, orF_none, kI0_ii, kIC_ii, kAdd_ii, kAdd_tt, kAdd_ll, kMul_ii, kMulT_ti, kInt_i, kMin2_ii, kMax2_ii, kLen_l, kLen_t, kLen_s, kIx_l, kIx_t, kIx_s, kTuple_l, kTuple_t, kList_l, kList_t, kSl_t, kSl_l, kEq_ii, kNe_ii, kLt, kLe, kGt, kGe, kSub, kMod, kFdiv, kPow, kIx_p, kLen_p, kAppend_p, kSetI_p, at4_0, at4_1, at4_2, at4_3, ix4_0, ix4_1, ix4_2, ix4_3, wAndT, wOrT, wNotT, wAndV, wOrV, wNotV, wIfE, wCall, wSub, wPar, wChn, wRaise, wSl, wPart, wNoP, wBrk, wCnt, wMt, wMt0, List.map_cons, List.map_nil, List.length_cons, List.length_nil, List.cons_append, List.nil_append, List.getElem?_cons_zero, List.getElem?_cons_succ, List.set_cons_zero, List.set_cons_succ, Option.join_some, Option.join_none, List.replicate_succ, List.replicate_zero, Nat.reduceAdd, Nat.reduceSub, Nat.sub_zero, kSum]
  rw [if_pos (by decide), if_neg (by decide)]
  rw [show intsOf [D.int 0] = some [0] from rfl, orF_some]
  simp only [wFn, startD, wSq, wSet, wVar, getS, wC, w2, w1, eTup, eLst, eLstM, wCons, wNil, wIf, wTst, wRet, wRetN, wDrop, wB, wNext, kB_b, orF_some, orF_none, kI0_ii, kIC_ii, kAdd_ii, kAdd_tt, kAdd_ll, kMul_ii, kMulT_ti, kInt_i, kMin2_ii, kMax2_ii, kLen_l, kLen_t, kLen_s, kIx_l, kIx_t, kIx_s, kTuple_l, kTuple_t, kList_l, kList_t, kSl_t, kSl_l, kEq_ii, kNe_ii, kLt, kLe, kGt, kGe, kSub, kMod, kFdiv, kPow, kIx_p, kLen_p, kAppend_p, kSetI_p, at4_0, at4_1, at4_2, at4_3, ix4_0, ix4_1, ix4_2, ix4_3, wAndT, wOrT, wNotT, wAndV, wOrV, wNotV, wIfE, wCall, wSub, wPar, wChn, wRaise, wSl, wPart, wNoP, wBrk, wCnt, wMt, wMt0, List.map_cons, List.map_nil, List.length_cons, List.length_nil, List.cons_append, List.nil_append, List.getElem?_cons_zero, List.getElem?_cons_succ, List.set_cons_zero, List.set_cons_succ, Option.join_some, Option.join_none, List.replicate_succ, List.replicate_zero, Nat.reduceAdd, Nat.reduceSub, Nat.sub_zero, kNeg]
  rw [if_neg (by decide), show atI [D.int 0] (-1) = some (.int 0) from rfl, orF_some, kI0_ii, kB_b, if_pos (by decide)]
  exact Et.same he
theorem bad23 {S : Store} (Q : QE) (E : String → Store → Prop) (he : E "BadPosition" S) : Wneed_bar [rowD [2, 3]] S Q E := by
  unfold Wneed_bar bneed_bar
  simp only [wFn, startD, wSq, wSet, wVar, getS, wC, w2, w1, eTup, eLst, eLstM, wCons, wNil, wIf, wTst, wRet, wRetN, wDrop, wB, wNext, kB_b, orF_some, orF_none, kI0_ii, kIC_ii, kAdd_ii, kAdd_tt, kAdd_ll, kMul_ii, kMulT_ti, kInt_i, kMin2_ii, kMax2_ii, kLen_l, kLen_t, kLen_s, kIx_l, kIx_t, kIx_s, kTuple_l, kTuple_t, kList_l, kList_t, kSl_t, kSl_l, kEq_ii, kNe_ii, kLt, kLe, kGt, kGe, kSub, kMod, kFdiv, kPow, kIx_p, kLen_p, kAppend_p, kSetI_p, at4_0, at4_1, at4_2, at4_3, ix4_0, ix4_1, ix4_2, ix4_3, wAndT, wOrT, wNotT, wAndV, wOrV, wNotV, wIfE, wCall, wSub, wPar, wChn, wRaise, wSl, wPart, wNoP, wBrk, wCnt, wMt, wMt0, List.map_cons, List.map_nil, List.length_cons, List.length_nil, List.cons_append, List.nil_append, List.getElem?_cons_zero, List.getElem?_cons_succ, List.set_cons_zero, List.set_cons_succ, Option.join_some, Option.join_none, List.replicate_succ, List.replicate_zero, Nat.reduceAdd, Nat.reduceSub, Nat.sub_zero, kSum]
  rw [if_pos (by decide), if_neg (by decide)]
  rw [show intsOf [D.int 2, D.int 3] = some [2, 3] from rfl, orF_some]
  simp only [wFn, startD, wSq, wSet, wVar, getS, wC, w2, w1, eTup, eLst, eLstM, wCons, wNil, wIf, wTst, wRet, wRetN, wDrop, wB, wNext, kB_b, orF_some, orF_none, kI0_ii, kIC_ii, kAdd_ii, kAdd_tt, kAdd_ll, kMul_ii, kMulT_ti, kInt_i, kMin2_ii, kMax2_ii, kLen_l, kLen_t, kLen_s, kIx_l, kIx_t, kIx_s, kTuple_l, kTuple_t, kList_l, kList_t, kSl_t, kSl_l, kEq_ii, kNe_ii, kLt, kLe, kGt, kGe, kSub, kMod, kFdiv, kPow, kIx_p, kLen_p, kAppend_p, kSetI_p, at4_0, at4_1, at4_2, at4_3, ix4_0, ix4_1, ix4_2, ix4_3, wAndT, wOrT, wNotT, wAndV, wOrV, wNotV, wIfE, wCall, wSub, wPar, wChn, wRaise, wSl, wPart, wNoP, wBrk, wCnt, wMt, wMt0, List.map_cons, List.map_nil, List.length_cons, List.length_nil, List.cons_append, List.nil_append, List.getElem?_cons_zero, List.getElem?_cons_succ, List.set_cons_zero, List.set_cons_succ, Option.join_some, Option.join_none, List.replicate_succ, List.replicate_zero, Nat.reduceAdd, Nat.reduceSub, Nat.sub_zero, kNeg]
  rw [if_neg (by decide), show atI [D.int 2, D.int 3] (-1) = some (.int 3) from rfl, orF_some, kI0_ii, kB_b, if_neg (by decide)]
  simp only [wLc, eLcA, wRng1, wFn, startD, wSq, wSet, wVar, getS, wC, w2, w1, eTup, eLst, eLstM, wCons, wNil, wIf, wTst, wRet, wRetN, wDrop, wB, wNext, kB_b, orF_some, orF_none, kI0_ii, kIC_ii, kAdd_ii, kAdd_tt, kAdd_ll, kMul_ii, kMulT_ti, kInt_i, kMin2_ii, kMax2_ii, kLen_l, kLen_t, kLen_s, kIx_l, kIx_t, kIx_s, kTuple_l, kTuple_t, kList_l, kList_t, kSl_t, kSl_l, kEq_ii, kNe_ii, kLt, kLe, kGt, kGe, kSub, kMod, kFdiv, kPow, kIx_p, kLen_p, kAppend_p, kSetI_p, at4_0, at4_1, at4_2, at4_3, ix4_0, ix4_1, ix4_2, ix4_3, wAndT, wOrT, wNotT, wAndV, wOrV, wNotV, wIfE, wCall, wSub, wPar, wChn, wRaise, wSl, wPart, wNoP, wBrk, wCnt, wMt, wMt0, List.map_cons, List.map_nil, List.length_cons, List.length_nil, List.cons_append, List.nil_append, List.getElem?_cons_zero, List.getElem?_cons_succ, List.set_cons_zero, List.set_cons_succ, Option.join_some, Option.join_none, List.replicate_succ, List.replicate_zero, Nat.reduceAdd, Nat.reduceSub, Nat.sub_zero, wipeD]
  refine ⟨⟨by decide, by decide⟩, fitsL (by decide), lcl_pure (fun _ => true) (fun _ => .bl false) trivial _ _ (fun d hd => ?_) ?_⟩
  · obtain ⟨k, hk, rfl⟩ := List.mem_map.mp hd
    have hk' := List.mem_range.mp hk
    have hk0 : k = 0 := by simp at hk'; omega
    subst hk0
    refine ⟨_, rfl, fun k h => h, fun _ K hK => ?_⟩
    simp only [wFn, startD, wSq, wSet, wVar, getS, wC, w2, w1, eTup, eLst, eLstM, wCons, wNil, wIf, wTst, wRet, wRetN, wDrop, wB, wNext, kB_b, orF_some, orF_none, kI0_ii, kIC_ii, kAdd_ii, kAdd_tt, kAdd_ll, kMul_ii, kMulT_ti, kInt_i, kMin2_ii, kMax2_ii, kLen_l, kLen_t, kLen_s, kIx_l, kIx_t, kIx_s, kTuple_l, kTuple_t, kList_l, kList_t, kSl_t, kSl_l, kEq_ii, kNe_ii, kLt, kLe, kGt, kGe, kSub, kMod, kFdiv, kPow, kIx_p, kLen_p, kAppend_p, kSetI_p, at4_0, at4_1, at4_2, at4_3, ix4_0, ix4_1, ix4_2, ix4_3, wAndT, wOrT, wNotT, wAndV, wOrV, wNotV, wIfE, wCall, wSub, wPar, wChn, wRaise, wSl, wPart, wNoP, wBrk, wCnt, wMt, wMt0, List.map_cons, List.map_nil, List.length_cons, List.length_nil, List.cons_append, List.nil_append, List.getElem?_cons_zero, List.getElem?_cons_succ, List.set_cons_zero, List.set_cons_succ, Option.join_some, Option.join_none, List.replicate_succ, List.replicate_zero, Nat.reduceAdd, Nat.reduceSub, Nat.sub_zero]
    rw [show atI [D.int 2, D.int 3] ((0 : Nat) : Int) = some (.int 2) from rfl, orF_some, show atI [D.int 2, D.int 3] (((0 : Nat) : Int) + 1) = some (.int 3) from rfl, orF_some, kI0_ii]
    exact hK
  · show kAll [D.lst ([false].map D.bl)] S _
    rw [kAll_l, kB_b, if_pos (by decide)]
    exact Et.same he
theorem try_turn {r : List Int} {n : Int} {xd : XD} {De : En} {g : Sg} {S : Store} (h : ∀ (Q : QE) (E : String → Store → Prop), E "BadPosition" S → Wneed_bar [rowD r] S Q E) (h14 : getS g 14 = some (rowD r)) (h13 : getS g 13 = some (.int n))
    (hn : De.nx (g.set 13 (some (.int (n + 1)))) S) : wTry ct_BadPosition (fun xd => wDrop (wCall 1 Wloses xd (wCons (wVar 14) wNil))) (wSet 13 (w2 kAdd (wVar 13) (wC (.int 1)))) xd De g S := by
  simp only [wTry, wDrop, wCall, wCons, wNil, wVar, h14, orF_some]
  refine ⟨rfl, bad_of h ?_⟩
  have e : ct_BadPosition "BadPosition" = some true := by decide
  rw [e, orF_some, if_pos rfl]
  simp only [wSet, w2, wC, wVar, h13, orF_some, kAdd_ii]
  exact hn
/-- the rows that are drawn, up to here -/
structure Drawn (L : List Int) (most : Int) (k : Nat) : Prop where
  len : L.length = k
  b : ∀ x ∈ L, 1 ≤ x ∧ x ≤ 5
  m1 : 1 ≤ most
  m5 : most ≤ 5
  le : ∀ x ∈ L, most ≤ x
  p : L.Pairwise fun a b => b ≤ a
end Lw
set_option Elab.async false
set_option linter.all false
set_option maxRecDepth 100000
set_option maxHeartbeats 4000000
namespace Lw
open PySem PySem.Spec L2 J
theorem law_sem : LawSem Wlaw := by
  intro ns hl hb
  have hns : ScrOk ns := ⟨hl, hb⟩
  unfold Wlaw blaw wFn
  -- pool
  refine sq_intro fun N hN => ?_
  simp only [wFn, startD, wSq, wSet, wVar, getS, wC, w2, w1, eTup, eLst, eLstM, wCons, wNil, wIf, wTst, wRet, wRetN, wDrop, wB, wNext, kB_b, orF_some, orF_none, kI0_ii, kIC_ii, kAdd_ii, kAdd_tt, kAdd_ll, kMul_ii, kMulT_ti, kInt_i, kMin2_ii, kMax2_ii, kLen_l, kLen_t, kLen_s, kIx_l, kIx_t, kIx_s, kTuple_l, kTuple_t, kList_l, kList_t, kSl_t, kSl_l, kEq_ii, kNe_ii, kLt, kLe, kGt, kGe, kSub, kMod, kFdiv, kPow, kIx_p, kLen_p, kAppend_p, kSetI_p, at4_0, at4_1, at4_2, at4_3, ix4_0, ix4_1, ix4_2, ix4_3, wAndT, wOrT, wNotT, wAndV, wOrV, wNotV, wIfE, wCall, wSub, wPar, wChn, wRaise, wSl, wPart, wNoP, wBrk, wCnt, wMt, wMt0, List.map_cons, List.map_nil, List.length_cons, List.length_nil, List.cons_append, List.nil_append, List.getElem?_cons_zero, List.getElem?_cons_succ, List.set_cons_zero, List.set_cons_succ, Option.join_some, Option.join_none, List.replicate_succ, List.replicate_zero, Nat.reduceAdd, Nat.reduceSub, Nat.sub_zero]
  refine ⟨trivial, pool_sem ns _ _ _ hns fun p c hp => ?_⟩
  subst hN
  -- rows, most
  refine sq_intro fun N hN => ?_
  simp only [wFn, startD, wSq, wSet, wVar, getS, wC, w2, w1, eTup, eLst, eLstM, wCons, wNil, wIf, wTst, wRet, wRetN, wDrop, wB, wNext, kB_b, orF_some, orF_none, kI0_ii, kIC_ii, kAdd_ii, kAdd_tt, kAdd_ll, kMul_ii, kMulT_ti, kInt_i, kMin2_ii, kMax2_ii, kLen_l, kLen_t, kLen_s, kIx_l, kIx_t, kIx_s, kTuple_l, kTuple_t, kList_l, kList_t, kSl_t, kSl_l, kEq_ii, kNe_ii, kLt, kLe, kGt, kGe, kSub, kMod, kFdiv, kPow, kIx_p, kLen_p, kAppend_p, kSetI_p, at4_0, at4_1, at4_2, at4_3, ix4_0, ix4_1, ix4_2, ix4_3, wAndT, wOrT, wNotT, wAndV, wOrV, wNotV, wIfE, wCall, wSub, wPar, wChn, wRaise, wSl, wPart, wNoP, wBrk, wCnt, wMt, wMt0, List.map_cons, List.map_nil, List.length_cons, List.length_nil, List.cons_append, List.nil_append, List.getElem?_cons_zero, List.getElem?_cons_succ, List.set_cons_zero, List.set_cons_succ, Option.join_some, Option.join_none, List.replicate_succ, List.replicate_zero, Nat.reduceAdd, Nat.reduceSub, Nat.sub_zero]
  refine ⟨fits (by decide), fun q hq => ?_⟩
  have hqp : q ≠ p := by rintro rfl; rw [put_same] at hq; cases hq
  subst hN
  -- the rows are drawn
  refine sq_intro fun N hN => ?_
  refine for_intro fun B De' hB hD => ?_
  simp only [wFn, startD, wSq, wSet, wVar, getS, wC, w2, w1, eTup, eLst, eLstM, wCons, wNil, wIf, wTst, wRet, wRetN, wDrop, wB, wNext, kB_b, orF_some, orF_none, kI0_ii, kIC_ii, kAdd_ii, kAdd_tt, kAdd_ll, kMul_ii, kMulT_ti, kInt_i, kMin2_ii, kMax2_ii, kLen_l, kLen_t, kLen_s, kIx_l, kIx_t, kIx_s, kTuple_l, kTuple_t, kList_l, kList_t, kSl_t, kSl_l, kEq_ii, kNe_ii, kLt, kLe, kGt, kGe, kSub, kMod, kFdiv, kPow, kIx_p, kLen_p, kAppend_p, kSetI_p, at4_0, at4_1, at4_2, at4_3, ix4_0, ix4_1, ix4_2, ix4_3, wAndT, wOrT, wNotT, wAndV, wOrV, wNotV, wIfE, wCall, wSub, wPar, wChn, wRaise, wSl, wPart, wNoP, wBrk, wCnt, wMt, wMt0, List.map_cons, List.map_nil, List.cons_append, List.nil_append, List.getElem?_cons_zero, List.getElem?_cons_succ, List.set_cons_zero, List.set_cons_succ, Option.join_some, Option.join_none, List.replicate_succ, List.replicate_zero]
  have hP0 : PoolAt (put (put (fun _ => none) p (.lst [.scr ns, .int 0, .int c, .int 0])) q (.lst [])) p ns 0 := ⟨0, c, 0, by rw [put_ne hqp.symm, put_same], by omega, by omega, by omega, by omega⟩
  refine ⟨rfl, draw_sem p ns 0 4 _ _ _ hns hP0 (by omega) (by omega) (by omega) fun v i1 c1 t1 v0 v1 i0 i1' t0 t1' => ?_⟩
  simp only [wFn, startD, wSq, wSet, wVar, getS, wC, w2, w1, eTup, eLst, eLstM, wCons, wNil, wIf, wTst, wRet, wRetN, wDrop, wB, wNext, kB_b, orF_some, orF_none, kI0_ii, kIC_ii, kAdd_ii, kAdd_tt, kAdd_ll, kMul_ii, kMulT_ti, kInt_i, kMin2_ii, kMax2_ii, kLen_l, kLen_t, kLen_s, kIx_l, kIx_t, kIx_s, kTuple_l, kTuple_t, kList_l, kList_t, kSl_t, kSl_l, kEq_ii, kNe_ii, kLt, kLe, kGt, kGe, kSub, kMod, kFdiv, kPow, kIx_p, kLen_p, kAppend_p, kSetI_p, at4_0, at4_1, at4_2, at4_3, ix4_0, ix4_1, ix4_2, ix4_3, wAndT, wOrT, wNotT, wAndV, wOrV, wNotV, wIfE, wCall, wSub, wPar, wChn, wRaise, wSl, wPart, wNoP, wBrk, wCnt, wMt, wMt0, List.map_cons, List.map_nil, List.cons_append, List.nil_append, List.getElem?_cons_zero, List.getElem?_cons_succ, List.set_cons_zero, List.set_cons_succ, Option.join_some, Option.join_none, List.replicate_succ, List.replicate_zero]
  subst hB hD
  refine ⟨⟨by omega, by omega⟩, fl_inv (fun k g S' => ∃ L most kk, Drawn L most k ∧ k ≤ 4 ∧ PoolAt S' p ns ((k : Int) + 1) ∧ S' q = some (.lst (L.map D.int)) ∧ g = [some (.scr ns), some (.ref p), kk, some (.ref q), none, none, none, none, none, none, none, none, none, none, none, some (.int most), none]) _ 0 _ _ ?_ (fun k d g S' N' hk hI hN' => ?_) fun g S' hI => ?_⟩
  · refine ⟨[], 5, _, ⟨rfl, fun _ h => (nomatch h), by omega, by omega, fun _ h => (nomatch h), .nil⟩, by omega, ⟨i1, c1, t1, put_same, by omega, by omega, by omega, by omega⟩, ?_, rfl⟩
    rw [put_ne hqp, put_same]; rfl
  · obtain ⟨L, most, kk, hD, hk4, hP, hSq, rfl⟩ := hI
    simp only [Nat.zero_add] at hN' hP hD
    obtain ⟨hkl, rfl⟩ := idx_range hk
    refine ⟨trivial, _, rfl, ?_⟩
    refine sq_intro fun N2 hN2 => ?_
    simp only [wFn, startD, wSq, wSet, wVar, getS, wC, w2, w1, eTup, eLst, eLstM, wCons, wNil, wIf, wTst, wRet, wRetN, wDrop, wB, wNext, kB_b, orF_some, orF_none, kI0_ii, kIC_ii, kAdd_ii, kAdd_tt, kAdd_ll, kMul_ii, kMulT_ti, kInt_i, kMin2_ii, kMax2_ii, kLen_l, kLen_t, kLen_s, kIx_l, kIx_t, kIx_s, kTuple_l, kTuple_t, kList_l, kList_t, kSl_t, kSl_l, kEq_ii, kNe_ii, kLt, kLe, kGt, kGe, kSub, kMod, kFdiv, kPow, kIx_p, kLen_p, kAppend_p, kSetI_p, at4_0, at4_1, at4_2, at4_3, ix4_0, ix4_1, ix4_2, ix4_3, wAndT, wOrT, wNotT, wAndV, wOrV, wNotV, wIfE, wCall, wSub, wPar, wChn, wRaise, wSl, wPart, wNoP, wBrk, wCnt, wMt, wMt0, List.map_cons, List.map_nil, List.cons_append, List.nil_append, List.getElem?_cons_zero, List.getElem?_cons_succ, List.set_cons_zero, List.set_cons_succ, Option.join_some, Option.join_none, List.replicate_succ, List.replicate_zero]
    have hm1 := hD.m1
    have hm5 := hD.m5
    refine ⟨rfl, draw_sem p ns ((k : Int) + 1) most _ _ _ hns hP (by omega) (by omega) (by omega) fun w i2 c2 t2 w0 w1 i20 i21 t20 t21 => ?_⟩
    simp only [wFn, startD, wSq, wSet, wVar, getS, wC, w2, w1, eTup, eLst, eLstM, wCons, wNil, wIf, wTst, wRet, wRetN, wDrop, wB, wNext, kB_b, orF_some, orF_none, kI0_ii, kIC_ii, kAdd_ii, kAdd_tt, kAdd_ll, kMul_ii, kMulT_ti, kInt_i, kMin2_ii, kMax2_ii, kLen_l, kLen_t, kLen_s, kIx_l, kIx_t, kIx_s, kTuple_l, kTuple_t, kList_l, kList_t, kSl_t, kSl_l, kEq_ii, kNe_ii, kLt, kLe, kGt, kGe, kSub, kMod, kFdiv, kPow, kIx_p, kLen_p, kAppend_p, kSetI_p, at4_0, at4_1, at4_2, at4_3, ix4_0, ix4_1, ix4_2, ix4_3, wAndT, wOrT, wNotT, wAndV, wOrV, wNotV, wIfE, wCall, wSub, wPar, wChn, wRaise, wSl, wPart, wNoP, wBrk, wCnt, wMt, wMt0, List.map_cons, List.map_nil, List.cons_append, List.nil_append, List.getElem?_cons_zero, List.getElem?_cons_succ, List.set_cons_zero, List.set_cons_succ, Option.join_some, Option.join_none, List.replicate_succ, List.replicate_zero]
    subst hN2
    have hSq2 : (put S' p (.lst [.scr ns, .int i2, .int c2, .int t2])) q = some (.lst (L.map D.int)) := by rw [put_ne hqp]; exact hSq
    simp only [wFn, startD, wSq, wSet, wVar, getS, wC, w2, w1, eTup, eLst, eLstM, wCons, wNil, wIf, wTst, wRet, wRetN, wDrop, wB, wNext, kB_b, orF_some, orF_none, kI0_ii, kIC_ii, kAdd_ii, kAdd_tt, kAdd_ll, kMul_ii, kMulT_ti, kInt_i, kMin2_ii, kMax2_ii, kLen_l, kLen_t, kLen_s, kIx_l, kIx_t, kIx_s, kTuple_l, kTuple_t, kList_l, kList_t, kSl_t, kSl_l, kEq_ii, kNe_ii, kLt, kLe, kGt, kGe, kSub, kMod, kFdiv, kPow, kIx_p, kLen_p, kAppend_p, kSetI_p, at4_0, at4_1, at4_2, at4_3, ix4_0, ix4_1, ix4_2, ix4_3, wAndT, wOrT, wNotT, wAndV, wOrV, wNotV, wIfE, wCall, wSub, wPar, wChn, wRaise, wSl, wPart, wNoP, wBrk, wCnt, wMt, wMt0, List.map_cons, List.map_nil, List.cons_append, List.nil_append, List.getElem?_cons_zero, List.getElem?_cons_succ, List.set_cons_zero, List.set_cons_succ, Option.join_some, Option.join_none, List.replicate_succ, List.replicate_zero, kAppend_r hSq2]
    refine ⟨isLst_r hSq2, fitsL (by have := hD.len; simp; omega), hN' _ _ ⟨L ++ [1 + w], 1 + w, _, ⟨?_, ?_, by omega, by omega, ?_, ?_⟩, by omega, ⟨i2, c2, t2, ?_, i20, by omega, t20, by omega⟩, ?_, rfl⟩⟩
    · rw [List.length_append, hD.len]; rfl
    · intro x hx
      rcases List.mem_append.mp hx with hx | hx
      · exact hD.b x hx
      · rw [List.mem_singleton.mp hx]; omega
    · intro x hx
      rcases List.mem_append.mp hx with hx | hx
      · have := hD.le x hx; omega
      · rw [List.mem_singleton.mp hx]; omega
    · refine List.pairwise_append.mpr ⟨hD.p, List.pairwise_singleton _ _, fun a ha b hb => ?_⟩
      have := hD.le a ha
      rw [List.mem_singleton.mp hb]; omega
    · rw [put_ne hqp.symm, put_same]
    · rw [put_same, List.map_append]; rfl
  · obtain ⟨L, most, kk, hD, hk4, hP, hSq, rfl⟩ := hI
    simp only [Nat.zero_add, List.length_map, List.length_range] at hP hD hk4
    refine ⟨trivial, ?_⟩
    subst hN
    dsimp only
    have hlen := hD.len
    have hR : RowOk L := row_ok (by omega) (by omega) hD.b hD.p
    have hv := tab_v L hR.u
    obtain ⟨i2, c2, t2, hSp, i20, i21, t20, t21⟩ := hP
    have hP : PoolAt S' p ns 10 := ⟨i2, c2, t2, hSp, i20, by omega, t20, by omega⟩
    -- rows, known, bites_told
    refine sq_intro fun N hN => ?_
    simp only [wFn, startD, wSq, wSet, wVar, getS, wC, w2, w1, eTup, eLst, eLstM, wCons, wNil, wIf, wTst, wRet, wRetN, wDrop, wB, wNext, kB_b, orF_some, orF_none, kI0_ii, kIC_ii, kAdd_ii, kAdd_tt, kAdd_ll, kMul_ii, kMulT_ti, kInt_i, kMin2_ii, kMax2_ii, kLen_l, kLen_t, kLen_s, kIx_l, kIx_t, kIx_s, kTuple_l, kTuple_t, kList_l, kList_t, kSl_t, kSl_l, kEq_ii, kNe_ii, kLt, kLe, kGt, kGe, kSub, kMod, kFdiv, kPow, kIx_p, kLen_p, kAppend_p, kSetI_p, at4_0, at4_1, at4_2, at4_3, ix4_0, ix4_1, ix4_2, ix4_3, wAndT, wOrT, wNotT, wAndV, wOrV, wNotV, wIfE, wCall, wSub, wPar, wChn, wRaise, wSl, wPart, wNoP, wBrk, wCnt, wMt, wMt0, List.map_cons, List.map_nil, List.cons_append, List.nil_append, List.getElem?_cons_zero, List.getElem?_cons_succ, List.set_cons_zero, List.set_cons_succ, Option.join_some, Option.join_none, List.replicate_succ, List.replicate_zero]
    rw [kTuple_r hSq]
    subst hN
    refine sq_intro fun N hN => ?_
    simp only [wDcT, wFn, startD, wSq, wSet, wVar, getS, wC, w2, w1, eTup, eLst, eLstM, wCons, wNil, wIf, wTst, wRet, wRetN, wDrop, wB, wNext, kB_b, orF_some, orF_none, kI0_ii, kIC_ii, kAdd_ii, kAdd_tt, kAdd_ll, kMul_ii, kMulT_ti, kInt_i, kMin2_ii, kMax2_ii, kLen_l, kLen_t, kLen_s, kIx_l, kIx_t, kIx_s, kTuple_l, kTuple_t, kList_l, kList_t, kSl_t, kSl_l, kEq_ii, kNe_ii, kLt, kLe, kGt, kGe, kSub, kMod, kFdiv, kPow, kIx_p, kLen_p, kAppend_p, kSetI_p, at4_0, at4_1, at4_2, at4_3, ix4_0, ix4_1, ix4_2, ix4_3, wAndT, wOrT, wNotT, wAndV, wOrV, wNotV, wIfE, wCall, wSub, wPar, wChn, wRaise, wSl, wPart, wNoP, wBrk, wCnt, wMt, wMt0, List.map_cons, List.map_nil, List.cons_append, List.nil_append, List.getElem?_cons_zero, List.getElem?_cons_succ, List.set_cons_zero, List.set_cons_succ, Option.join_some, Option.join_none, List.replicate_succ, List.replicate_zero]
    intro pk hpk
    have hpkp : p ≠ pk := by rintro rfl; rw [hSp] at hpk; cases hpk
    subst hN
    refine sq_intro fun N hN => ?_
    simp only [wFn, startD, wSq, wSet, wVar, getS, wC, w2, w1, eTup, eLst, eLstM, wCons, wNil, wIf, wTst, wRet, wRetN, wDrop, wB, wNext, kB_b, orF_some, orF_none, kI0_ii, kIC_ii, kAdd_ii, kAdd_tt, kAdd_ll, kMul_ii, kMulT_ti, kInt_i, kMin2_ii, kMax2_ii, kLen_l, kLen_t, kLen_s, kIx_l, kIx_t, kIx_s, kTuple_l, kTuple_t, kList_l, kList_t, kSl_t, kSl_l, kEq_ii, kNe_ii, kLt, kLe, kGt, kGe, kSub, kMod, kFdiv, kPow, kIx_p, kLen_p, kAppend_p, kSetI_p, at4_0, at4_1, at4_2, at4_3, ix4_0, ix4_1, ix4_2, ix4_3, wAndT, wOrT, wNotT, wAndV, wOrV, wNotV, wIfE, wCall, wSub, wPar, wChn, wRaise, wSl, wPart, wNoP, wBrk, wCnt, wMt, wMt0, List.map_cons, List.map_nil, List.cons_append, List.nil_append, List.getElem?_cons_zero, List.getElem?_cons_succ, List.set_cons_zero, List.set_cons_succ, Option.join_some, Option.join_none, List.replicate_succ, List.replicate_zero]
    refine ⟨rfl, lbites_sem hv ?_⟩
    subst hN
    -- good
    refine sq_intro fun N hN => ?_
    simp only [wLc, eLcA, wSeq, wFn, startD, wSq, wSet, wVar, getS, wC, w2, w1, eTup, eLst, eLstM, wCons, wNil, wIf, wTst, wRet, wRetN, wDrop, wB, wNext, kB_b, orF_some, orF_none, kI0_ii, kIC_ii, kAdd_ii, kAdd_tt, kAdd_ll, kMul_ii, kMulT_ti, kInt_i, kMin2_ii, kMax2_ii, kLen_l, kLen_t, kLen_s, kIx_l, kIx_t, kIx_s, kTuple_l, kTuple_t, kList_l, kList_t, kSl_t, kSl_l, kEq_ii, kNe_ii, kLt, kLe, kGt, kGe, kSub, kMod, kFdiv, kPow, kIx_p, kLen_p, kAppend_p, kSetI_p, at4_0, at4_1, at4_2, at4_3, ix4_0, ix4_1, ix4_2, ix4_3, wAndT, wOrT, wNotT, wAndV, wOrV, wNotV, wIfE, wCall, wSub, wPar, wChn, wRaise, wSl, wPart, wNoP, wBrk, wCnt, wMt, wMt0, List.map_cons, List.map_nil, List.cons_append, List.nil_append, List.getElem?_cons_zero, List.getElem?_cons_succ, List.set_cons_zero, List.set_cons_succ, Option.join_some, Option.join_none, List.replicate_succ, List.replicate_zero, wipeD]
    have hol := opt_len hv
    refine ⟨fitsL (by simp; omega), ?_⟩
    refine good_step (n := 40) rfl rfl (opt L) [] [] _ (fun x hx => ⟨clU.c L hR.u x hx, by have h1 := (opt_valid hv hx).2; have h2 := hv.sum; have h3 := valid_nn (opt_valid hv hx).1; omega⟩) (Good.nil clU) put_same fun K' hK' => ?_
    rw [put_put, List.nil_append]
    subst hN
    have hG : (((opt L).filter lose)).length ≤ 1000 := Nat.le_trans (List.length_filter_le _ _) hol
    have hrl : ∀ r ∈ opt L, r.length ≤ 100000 := fun r hr => by have := (opt_valid hv hr).1.len; omega
    have hrl2 : ∀ r ∈ (opt L).filter lose, r.length ≤ 100000 := fun r hr => hrl r (List.mem_filter.mp hr).1
    -- the answers are what is due
    refine sq_intro fun N hN => ?_
    simp only [wFn, startD, wSq, wSet, wVar, getS, wC, w2, w1, eTup, eLst, eLstM, wCons, wNil, wIf, wTst, wRet, wRetN, wDrop, wB, wNext, kB_b, orF_some, orF_none, kI0_ii, kIC_ii, kAdd_ii, kAdd_tt, kAdd_ll, kMul_ii, kMulT_ti, kInt_i, kMin2_ii, kMax2_ii, kLen_l, kLen_t, kLen_s, kIx_l, kIx_t, kIx_s, kTuple_l, kTuple_t, kList_l, kList_t, kSl_t, kSl_l, kEq_ii, kNe_ii, kLt, kLe, kGt, kGe, kSub, kMod, kFdiv, kPow, kIx_p, kLen_p, kAppend_p, kSetI_p, at4_0, at4_1, at4_2, at4_3, ix4_0, ix4_1, ix4_2, ix4_3, wAndT, wOrT, wNotT, wAndV, wOrV, wNotV, wIfE, wCall, wSub, wPar, wChn, wRaise, wSl, wPart, wNoP, wBrk, wCnt, wMt, wMt0, List.map_cons, List.map_nil, List.cons_append, List.nil_append, List.getElem?_cons_zero, List.getElem?_cons_succ, List.set_cons_zero, List.set_cons_succ, Option.join_some, Option.join_none, List.replicate_succ, List.replicate_zero]
    refine ⟨rfl, bites_sem hv ?_⟩
    refine ⟨rfl, loses_sem clU hR.u ?_⟩
    refine ⟨rfl, good_sem clU hR.u ?_⟩
    refine ⟨fits (by simp), fits (by simp), ?_⟩
    rw [kEq_nil, good_nil hv]
    refine ⟨fits (by simp), rfl, same_refl 7 _ _ _ _ ?_ (by omega) ?_⟩
    · exact dat_l3 (dat_rows 4 (by omega) hrl) (by simp [dat]) (dat_rows 4 (by omega) hrl2)
    simp only [kB_b]
    rw [if_neg (by decide)]
    subst hN
    -- turned
    have hvt := tab_v _ hR.ut
    refine sq_intro fun N hN => ?_
    simp only [wFn, startD, wSq, wSet, wVar, getS, wC, w2, w1, eTup, eLst, eLstM, wCons, wNil, wIf, wTst, wRet, wRetN, wDrop, wB, wNext, kB_b, orF_some, orF_none, kI0_ii, kIC_ii, kAdd_ii, kAdd_tt, kAdd_ll, kMul_ii, kMulT_ti, kInt_i, kMin2_ii, kMax2_ii, kLen_l, kLen_t, kLen_s, kIx_l, kIx_t, kIx_s, kTuple_l, kTuple_t, kList_l, kList_t, kSl_t, kSl_l, kEq_ii, kNe_ii, kLt, kLe, kGt, kGe, kSub, kMod, kFdiv, kPow, kIx_p, kLen_p, kAppend_p, kSetI_p, at4_0, at4_1, at4_2, at4_3, ix4_0, ix4_1, ix4_2, ix4_3, wAndT, wOrT, wNotT, wAndV, wOrV, wNotV, wIfE, wCall, wSub, wPar, wChn, wRaise, wSl, wPart, wNoP, wBrk, wCnt, wMt, wMt0, List.map_cons, List.map_nil, List.cons_append, List.nil_append, List.getElem?_cons_zero, List.getElem?_cons_succ, List.set_cons_zero, List.set_cons_succ, Option.join_some, Option.join_none, List.replicate_succ, List.replicate_zero]
    refine ⟨rfl, trn_sem hv ?_⟩
    subst hN
    refine sq_intro fun N hN => ?_
    simp only [wFn, startD, wSq, wSet, wVar, getS, wC, w2, w1, eTup, eLst, eLstM, wCons, wNil, wIf, wTst, wRet, wRetN, wDrop, wB, wNext, kB_b, orF_some, orF_none, kI0_ii, kIC_ii, kAdd_ii, kAdd_tt, kAdd_ll, kMul_ii, kMulT_ti, kInt_i, kMin2_ii, kMax2_ii, kLen_l, kLen_t, kLen_s, kIx_l, kIx_t, kIx_s, kTuple_l, kTuple_t, kList_l, kList_t, kSl_t, kSl_l, kEq_ii, kNe_ii, kLt, kLe, kGt, kGe, kSub, kMod, kFdiv, kPow, kIx_p, kLen_p, kAppend_p, kSetI_p, at4_0, at4_1, at4_2, at4_3, ix4_0, ix4_1, ix4_2, ix4_3, wAndT, wOrT, wNotT, wAndV, wOrV, wNotV, wIfE, wCall, wSub, wPar, wChn, wRaise, wSl, wPart, wNoP, wBrk, wCnt, wMt, wMt0, List.map_cons, List.map_nil, List.cons_append, List.nil_append, List.getElem?_cons_zero, List.getElem?_cons_succ, List.set_cons_zero, List.set_cons_succ, Option.join_some, Option.join_none, List.replicate_succ, List.replicate_zero]
    refine ⟨rfl, mir_sem hv ?_⟩
    refine ⟨rfl, mir_sem hvt ?_⟩
    rw [hR.tt]
    refine ⟨rfl, loses_sem clU hR.ut ?_⟩
    rw [hR.lt]
    refine ⟨fits (by simp), fits (by simp), ?_⟩
    rw [kEq_nil, good_nil hv]
    have hLl : L.length ≤ 100000 := by omega
    have hTl : (trn L).length ≤ 100000 := by have := hvt.len; omega
    refine ⟨fits (by simp), rfl, same_refl 7 _ _ _ _ (dat_l3 (dat_row 5 hTl) (dat_row 5 hLl) (by simp [dat])) (by omega) ?_⟩
    simp only [kB_b]
    rw [if_neg (by decide)]
    subst hN
    -- who begins a rectangle wins
    refine sq_intro fun N hN => ?_
    simp only [wFn, startD, wSq, wSet, wVar, getS, wC, w2, w1, eTup, eLst, eLstM, wCons, wNil, wIf, wTst, wRet, wRetN, wDrop, wB, wNext, kB_b, orF_some, orF_none, kI0_ii, kIC_ii, kAdd_ii, kAdd_tt, kAdd_ll, kMul_ii, kMulT_ti, kInt_i, kMin2_ii, kMax2_ii, kLen_l, kLen_t, kLen_s, kIx_l, kIx_t, kIx_s, kTuple_l, kTuple_t, kList_l, kList_t, kSl_t, kSl_l, kEq_ii, kNe_ii, kLt, kLe, kGt, kGe, kSub, kMod, kFdiv, kPow, kIx_p, kLen_p, kAppend_p, kSetI_p, at4_0, at4_1, at4_2, at4_3, ix4_0, ix4_1, ix4_2, ix4_3, wAndT, wOrT, wNotT, wAndV, wOrV, wNotV, wIfE, wCall, wSub, wPar, wChn, wRaise, wSl, wPart, wNoP, wBrk, wCnt, wMt, wMt0, List.map_cons, List.map_nil, List.cons_append, List.nil_append, List.getElem?_cons_zero, List.getElem?_cons_succ, List.set_cons_zero, List.set_cons_succ, Option.join_some, Option.join_none, List.replicate_succ, List.replicate_zero]
    refine ⟨fits (by simp), ?_⟩
    rw [kEq_nil, good_nil hv, kB_b]
    have h3 : N [some (.scr ns), some (.ref p), kk, some (rowD L), some (.ref pk), some (.lst ((opt L).map rowD)), some (.lst (((opt L).filter lose).map rowD)), some (rowD (trn L)), none, none, none, none, none, none, none, some (.int most), none] (put S' pk (.dcT (kn K'))) := by
      subst hN
      have hSp' : (put S' pk (.dcT (kn K'))) p = some (.lst [.scr ns, .int i2, .int c2, .int t2]) := by rw [put_ne hpkp]; exact hSp
      refine sq_intro fun N hN => ?_
      simp only [wFn, startD, wSq, wSet, wVar, getS, wC, w2, w1, eTup, eLst, eLstM, wCons, wNil, wIf, wTst, wRet, wRetN, wDrop, wB, wNext, kB_b, orF_some, orF_none, kI0_ii, kIC_ii, kAdd_ii, kAdd_tt, kAdd_ll, kMul_ii, kMulT_ti, kInt_i, kMin2_ii, kMax2_ii, kLen_l, kLen_t, kLen_s, kIx_l, kIx_t, kIx_s, kTuple_l, kTuple_t, kList_l, kList_t, kSl_t, kSl_l, kEq_ii, kNe_ii, kLt, kLe, kGt, kGe, kSub, kMod, kFdiv, kPow, kIx_p, kLen_p, kAppend_p, kSetI_p, at4_0, at4_1, at4_2, at4_3, ix4_0, ix4_1, ix4_2, ix4_3, wAndT, wOrT, wNotT, wAndV, wOrV, wNotV, wIfE, wCall, wSub, wPar, wChn, wRaise, wSl, wPart, wNoP, wBrk, wCnt, wMt, wMt0, List.map_cons, List.map_nil, List.cons_append, List.nil_append, List.getElem?_cons_zero, List.getElem?_cons_succ, List.set_cons_zero, List.set_cons_succ, Option.join_some, Option.join_none, List.replicate_succ, List.replicate_zero]
      refine ⟨rfl, draw_sem p ns 10 4 _ _ _ hns ⟨i2, c2, t2, hSp', i20, by omega, t20, by omega⟩ (by omega) (by omega) (by omega) fun w i3 c3 t3 wa wb i30 i31 t30 t31 => ?_⟩
      simp only [wFn, startD, wSq, wSet, wVar, getS, wC, w2, w1, eTup, eLst, eLstM, wCons, wNil, wIf, wTst, wRet, wRetN, wDrop, wB, wNext, kB_b, orF_some, orF_none, kI0_ii, kIC_ii, kAdd_ii, kAdd_tt, kAdd_ll, kMul_ii, kMulT_ti, kInt_i, kMin2_ii, kMax2_ii, kLen_l, kLen_t, kLen_s, kIx_l, kIx_t, kIx_s, kTuple_l, kTuple_t, kList_l, kList_t, kSl_t, kSl_l, kEq_ii, kNe_ii, kLt, kLe, kGt, kGe, kSub, kMod, kFdiv, kPow, kIx_p, kLen_p, kAppend_p, kSetI_p, at4_0, at4_1, at4_2, at4_3, ix4_0, ix4_1, ix4_2, ix4_3, wAndT, wOrT, wNotT, wAndV, wOrV, wNotV, wIfE, wCall, wSub, wPar, wChn, wRaise, wSl, wPart, wNoP, wBrk, wCnt, wMt, wMt0, List.map_cons, List.map_nil, List.cons_append, List.nil_append, List.getElem?_cons_zero, List.getElem?_cons_succ, List.set_cons_zero, List.set_cons_succ, Option.join_some, Option.join_none, List.replicate_succ, List.replicate_zero]
      subst hN
      obtain ⟨m, hm⟩ : ∃ m : Nat, 2 + w = (m : Int) := ⟨(2 + w).toNat, by omega⟩
      rw [hm]
      have hm2 : 2 ≤ m := by omega
      have hm5 : m ≤ 5 := by omega
      obtain ⟨sv, se⟩ := sqv m hm2 hm5
      obtain ⟨su, sl⟩ := sq_ok m hm2 hm5
      have hTk : (put (put S' pk (.dcT (kn K'))) p (.lst [.scr ns, .int i3, .int c3, .int t3])) pk = some (.dcT (kn K')) := by rw [put_ne hpkp.symm, put_same]
      have hTp : PoolAt (put (put S' pk (.dcT (kn K'))) p (.lst [.scr ns, .int i3, .int c3, .int t3])) p ns 20 := ⟨i3, c3, t3, put_same, i30, by omega, t30, by omega⟩
      generalize (put (put S' pk (.dcT (kn K'))) p (.lst [.scr ns, .int i3, .int c3, .int t3])) = T at hTk hTp ⊢
      refine sq_intro fun N hN => ?_
      simp only [wFn, startD, wSq, wSet, wVar, getS, wC, w2, w1, eTup, eLst, eLstM, wCons, wNil, wIf, wTst, wRet, wRetN, wDrop, wB, wNext, kB_b, orF_some, orF_none, kI0_ii, kIC_ii, kAdd_ii, kAdd_tt, kAdd_ll, kMul_ii, kMulT_ti, kInt_i, kMin2_ii, kMax2_ii, kLen_l, kLen_t, kLen_s, kIx_l, kIx_t, kIx_s, kTuple_l, kTuple_t, kList_l, kList_t, kSl_t, kSl_l, kEq_ii, kNe_ii, kLt, kLe, kGt, kGe, kSub, kMod, kFdiv, kPow, kIx_p, kLen_p, kAppend_p, kSetI_p, at4_0, at4_1, at4_2, at4_3, ix4_0, ix4_1, ix4_2, ix4_3, wAndT, wOrT, wNotT, wAndV, wOrV, wNotV, wIfE, wCall, wSub, wPar, wChn, wRaise, wSl, wPart, wNoP, wBrk, wCnt, wMt, wMt0, List.map_cons, List.map_nil, List.cons_append, List.nil_append, List.getElem?_cons_zero, List.getElem?_cons_succ, List.set_cons_zero, List.set_cons_succ, Option.join_some, Option.join_none, List.replicate_succ, List.replicate_zero]
      rw [Int.toNat_natCast, rep_row]
      refine ⟨fits (by simp), ⟨by omega, by omega, by simp⟩, rfl, sq_sem sv ?_⟩
      rw [se]
      have e1 : ((m : Int) - 1).toNat = m - 1 := by omega
      rw [e1, rep_row]
      refine ⟨fits (by simp), fits (by simp), ⟨by omega, by omega, by simp⟩, fits (by simp; omega), rfl, ?_⟩
      rw [show D.tup (D.int (m : Int) :: (List.replicate (m - 1) (1 : Int)).map D.int) = rowD ((m : Int) :: List.replicate (m - 1) 1) from rfl]
      refine same_refl 7 _ _ _ _ (dat_row 6 (by simp; omega)) (by omega) ?_
      simp only [kB_b]
      rw [if_neg (by decide)]
      have h4 : N [some (.scr ns), some (.ref p), kk, some (rowD L), some (.ref pk), some (.lst ((opt L).map rowD)), some (.lst (((opt L).filter lose).map rowD)), some (rowD (trn L)), some (.int (m : Int)), none, none, none, none, none, none, some (.int most), none] T := by
        subst hN
        refine sq_intro fun N hN => ?_
        simp only [wFn, startD, wSq, wSet, wVar, getS, wC, w2, w1, eTup, eLst, eLstM, wCons, wNil, wIf, wTst, wRet, wRetN, wDrop, wB, wNext, kB_b, orF_some, orF_none, kI0_ii, kIC_ii, kAdd_ii, kAdd_tt, kAdd_ll, kMul_ii, kMulT_ti, kInt_i, kMin2_ii, kMax2_ii, kLen_l, kLen_t, kLen_s, kIx_l, kIx_t, kIx_s, kTuple_l, kTuple_t, kList_l, kList_t, kSl_t, kSl_l, kEq_ii, kNe_ii, kLt, kLe, kGt, kGe, kSub, kMod, kFdiv, kPow, kIx_p, kLen_p, kAppend_p, kSetI_p, at4_0, at4_1, at4_2, at4_3, ix4_0, ix4_1, ix4_2, ix4_3, wAndT, wOrT, wNotT, wAndV, wOrV, wNotV, wIfE, wCall, wSub, wPar, wChn, wRaise, wSl, wPart, wNoP, wBrk, wCnt, wMt, wMt0, List.map_cons, List.map_nil, List.cons_append, List.nil_append, List.getElem?_cons_zero, List.getElem?_cons_succ, List.set_cons_zero, List.set_cons_succ, Option.join_some, Option.join_none, List.replicate_succ, List.replicate_zero]
        rw [e1, rep_row]
        refine ⟨fits (by simp), fits (by simp), ⟨by omega, by omega, by simp⟩, fits (by simp; omega), rfl, ?_⟩
        rw [show D.tup (D.int (m : Int) :: (List.replicate (m - 1) (1 : Int)).map D.int) = rowD ((m : Int) :: List.replicate (m - 1) 1) from rfl]
        refine lost_sem clU 40 _ K' T _ _ su (sq_sum m hm2 hm5) hK' hTk fun K2 hK2 => ?_
        rw [sl]
        simp only [kB_b]
        rw [if_neg (by decide)]
        subst hN
        have hU2 : PoolAt (put T pk (.dcT (kn K2))) p ns 20 := by
          obtain ⟨i, c, t, h0, h1⟩ := hTp
          exact ⟨i, c, t, by rw [put_ne hpkp]; exact h0, h1⟩
        have hU3 : (put T pk (.dcT (kn K2))) pk = some (.dcT (kn K2)) := put_same
        generalize (put T pk (.dcT (kn K2))) = T2 at hU2 hU3 ⊢
        -- the pool goes on
        refine sq_intro fun N hN => ?_
        simp only [wFn, startD, wSq, wSet, wVar, getS, wC, w2, w1, eTup, eLst, eLstM, wCons, wNil, wIf, wTst, wRet, wRetN, wDrop, wB, wNext, kB_b, orF_some, orF_none, kI0_ii, kIC_ii, kAdd_ii, kAdd_tt, kAdd_ll, kMul_ii, kMulT_ti, kInt_i, kMin2_ii, kMax2_ii, kLen_l, kLen_t, kLen_s, kIx_l, kIx_t, kIx_s, kTuple_l, kTuple_t, kList_l, kList_t, kSl_t, kSl_l, kEq_ii, kNe_ii, kLt, kLe, kGt, kGe, kSub, kMod, kFdiv, kPow, kIx_p, kLen_p, kAppend_p, kSetI_p, at4_0, at4_1, at4_2, at4_3, ix4_0, ix4_1, ix4_2, ix4_3, wAndT, wOrT, wNotT, wAndV, wOrV, wNotV, wIfE, wCall, wSub, wPar, wChn, wRaise, wSl, wPart, wNoP, wBrk, wCnt, wMt, wMt0, List.map_cons, List.map_nil, List.cons_append, List.nil_append, List.getElem?_cons_zero, List.getElem?_cons_succ, List.set_cons_zero, List.set_cons_succ, Option.join_some, Option.join_none, List.replicate_succ, List.replicate_zero]
        refine ⟨rfl, next_sem p ns 20 T2 _ _ hns hU2 (by omega) fun i4 c4 t4 i40 i41 t40 t41 => ?_⟩
        subst hN
        have hV : PoolAt (put T2 p (.lst [.scr ns, .int i4, .int c4, .int t4])) p ns 30 := ⟨i4, c4, t4, put_same, i40, by omega, t40, by omega⟩
        have hVk : (put T2 p (.lst [.scr ns, .int i4, .int c4, .int t4])) pk = some (.dcT (kn K2)) := by rw [put_ne hpkp.symm]; exact hU3
        generalize (put T2 p (.lst [.scr ns, .int i4, .int c4, .int t4])) = T3 at hV hVk ⊢
        refine sq_intro fun N hN => ?_
        simp only [wFn, startD, wSq, wSet, wVar, getS, wC, w2, w1, eTup, eLst, eLstM, wCons, wNil, wIf, wTst, wRet, wRetN, wDrop, wB, wNext, kB_b, orF_some, orF_none, kI0_ii, kIC_ii, kAdd_ii, kAdd_tt, kAdd_ll, kMul_ii, kMulT_ti, kInt_i, kMin2_ii, kMax2_ii, kLen_l, kLen_t, kLen_s, kIx_l, kIx_t, kIx_s, kTuple_l, kTuple_t, kList_l, kList_t, kSl_t, kSl_l, kEq_ii, kNe_ii, kLt, kLe, kGt, kGe, kSub, kMod, kFdiv, kPow, kIx_p, kLen_p, kAppend_p, kSetI_p, at4_0, at4_1, at4_2, at4_3, ix4_0, ix4_1, ix4_2, ix4_3, wAndT, wOrT, wNotT, wAndV, wOrV, wNotV, wIfE, wCall, wSub, wPar, wChn, wRaise, wSl, wPart, wNoP, wBrk, wCnt, wMt, wMt0, List.map_cons, List.map_nil, List.cons_append, List.nil_append, List.getElem?_cons_zero, List.getElem?_cons_succ, List.set_cons_zero, List.set_cons_succ, Option.join_some, Option.join_none, List.replicate_succ, List.replicate_zero]
        refine ⟨rfl, draw_sem p ns 30 6 _ _ _ hns hV (by omega) (by omega) (by omega) fun a i5 c5 t5 a0 a1 i50 i51 t50 t51 => ?_⟩
        simp only [wFn, startD, wSq, wSet, wVar, getS, wC, w2, w1, eTup, eLst, eLstM, wCons, wNil, wIf, wTst, wRet, wRetN, wDrop, wB, wNext, kB_b, orF_some, orF_none, kI0_ii, kIC_ii, kAdd_ii, kAdd_tt, kAdd_ll, kMul_ii, kMulT_ti, kInt_i, kMin2_ii, kMax2_ii, kLen_l, kLen_t, kLen_s, kIx_l, kIx_t, kIx_s, kTuple_l, kTuple_t, kList_l, kList_t, kSl_t, kSl_l, kEq_ii, kNe_ii, kLt, kLe, kGt, kGe, kSub, kMod, kFdiv, kPow, kIx_p, kLen_p, kAppend_p, kSetI_p, at4_0, at4_1, at4_2, at4_3, ix4_0, ix4_1, ix4_2, ix4_3, wAndT, wOrT, wNotT, wAndV, wOrV, wNotV, wIfE, wCall, wSub, wPar, wChn, wRaise, wSl, wPart, wNoP, wBrk, wCnt, wMt, wMt0, List.map_cons, List.map_nil, List.cons_append, List.nil_append, List.getElem?_cons_zero, List.getElem?_cons_succ, List.set_cons_zero, List.set_cons_succ, Option.join_some, Option.join_none, List.replicate_succ, List.replicate_zero]
        subst hN
        have hW : PoolAt (put T3 p (.lst [.scr ns, .int i5, .int c5, .int t5])) p ns 40 := ⟨i5, c5, t5, put_same, i50, by omega, t50, by omega⟩
        have hWk : (put T3 p (.lst [.scr ns, .int i5, .int c5, .int t5])) pk = some (.dcT (kn K2)) := by rw [put_ne hpkp.symm]; exact hVk
        generalize (put T3 p (.lst [.scr ns, .int i5, .int c5, .int t5])) = T4 at hW hWk ⊢
        refine sq_intro fun N hN => ?_
        simp only [wFn, startD, wSq, wSet, wVar, getS, wC, w2, w1, eTup, eLst, eLstM, wCons, wNil, wIf, wTst, wRet, wRetN, wDrop, wB, wNext, kB_b, orF_some, orF_none, kI0_ii, kIC_ii, kAdd_ii, kAdd_tt, kAdd_ll, kMul_ii, kMulT_ti, kInt_i, kMin2_ii, kMax2_ii, kLen_l, kLen_t, kLen_s, kIx_l, kIx_t, kIx_s, kTuple_l, kTuple_t, kList_l, kList_t, kSl_t, kSl_l, kEq_ii, kNe_ii, kLt, kLe, kGt, kGe, kSub, kMod, kFdiv, kPow, kIx_p, kLen_p, kAppend_p, kSetI_p, at4_0, at4_1, at4_2, at4_3, ix4_0, ix4_1, ix4_2, ix4_3, wAndT, wOrT, wNotT, wAndV, wOrV, wNotV, wIfE, wCall, wSub, wPar, wChn, wRaise, wSl, wPart, wNoP, wBrk, wCnt, wMt, wMt0, List.map_cons, List.map_nil, List.cons_append, List.nil_append, List.getElem?_cons_zero, List.getElem?_cons_succ, List.set_cons_zero, List.set_cons_succ, Option.join_some, Option.join_none, List.replicate_succ, List.replicate_zero]
        refine ⟨rfl, draw_sem p ns 40 (1 + a + 1) _ _ _ hns hW (by omega) (by omega) (by omega) fun b i6 c6 t6 b0 b1 i60 i61 t60 t61 => ?_⟩
        subst hN
        have hX : PoolAt (put T4 p (.lst [.scr ns, .int i6, .int c6, .int t6])) p ns 50 := ⟨i6, c6, t6, put_same, i60, by omega, t60, by omega⟩
        have hXk : (put T4 p (.lst [.scr ns, .int i6, .int c6, .int t6])) pk = some (.dcT (kn K2)) := by rw [put_ne hpkp.symm]; exact hWk
        generalize (put T4 p (.lst [.scr ns, .int i6, .int c6, .int t6])) = T5 at hX hXk ⊢
        obtain ⟨tu, tl⟩ := two_ok (1 + a) b (by omega) (by omega) b0 (by omega)
        have ts := two_sum (a := 1 + a) (b := b) (by omega) (by omega) b0 (by omega)
        refine sq_intro fun N hN => ?_
        have h5 : N [some (.scr ns), some (.ref p), kk, some (rowD L), some (.ref pk), some (.lst ((opt L).map rowD)), some (.lst (((opt L).filter lose).map rowD)), some (rowD (trn L)), some (.int (m : Int)), some (.int (1 + a)), some (.int b), some (rowD (if b > 0 then [1 + a, b] else [1 + a])), none, none, none, some (.int most), none] T5 := by
          subst hN
          generalize (if b > 0 then [1 + a, b] else [1 + a]) = bar at tu tl ts ⊢
          refine sq_intro fun N hN => ?_
          simp only [wFn, startD, wSq, wSet, wVar, getS, wC, w2, w1, eTup, eLst, eLstM, wCons, wNil, wIf, wTst, wRet, wRetN, wDrop, wB, wNext, kB_b, orF_some, orF_none, kI0_ii, kIC_ii, kAdd_ii, kAdd_tt, kAdd_ll, kMul_ii, kMulT_ti, kInt_i, kMin2_ii, kMax2_ii, kLen_l, kLen_t, kLen_s, kIx_l, kIx_t, kIx_s, kTuple_l, kTuple_t, kList_l, kList_t, kSl_t, kSl_l, kEq_ii, kNe_ii, kLt, kLe, kGt, kGe, kSub, kMod, kFdiv, kPow, kIx_p, kLen_p, kAppend_p, kSetI_p, at4_0, at4_1, at4_2, at4_3, ix4_0, ix4_1, ix4_2, ix4_3, wAndT, wOrT, wNotT, wAndV, wOrV, wNotV, wIfE, wCall, wSub, wPar, wChn, wRaise, wSl, wPart, wNoP, wBrk, wCnt, wMt, wMt0, List.map_cons, List.map_nil, List.cons_append, List.nil_append, List.getElem?_cons_zero, List.getElem?_cons_succ, List.set_cons_zero, List.set_cons_succ, Option.join_some, Option.join_none, List.replicate_succ, List.replicate_zero]
          refine ⟨rfl, two_sem (1 + a) b ?_⟩
          refine ⟨rfl, lost_sem clU 40 bar K2 T5 _ _ tu ts hK2 hXk fun K3 hK3 => ?_⟩
          rw [tl]
          refine ⟨rfl, same_refl 7 _ _ _ _ (by simp [dat]) (by omega) ?_⟩
          simp only [kB_b]
          rw [if_neg (by decide)]
          subst hN
          have hY : PoolAt (put T5 pk (.dcT (kn K3))) p ns 50 := by
            obtain ⟨i, c, t, h0, h1⟩ := hX
            exact ⟨i, c, t, by rw [put_ne hpkp]; exact h0, h1⟩
          generalize (put T5 pk (.dcT (kn K3))) = T6 at hY ⊢
          refine sq_intro fun N hN => ?_
          simp only [wFn, startD, wSq, wSet, wVar, getS, wC, w2, w1, eTup, eLst, eLstM, wCons, wNil, wIf, wTst, wRet, wRetN, wDrop, wB, wNext, kB_b, orF_some, orF_none, kI0_ii, kIC_ii, kAdd_ii, kAdd_tt, kAdd_ll, kMul_ii, kMulT_ti, kInt_i, kMin2_ii, kMax2_ii, kLen_l, kLen_t, kLen_s, kIx_l, kIx_t, kIx_s, kTuple_l, kTuple_t, kList_l, kList_t, kSl_t, kSl_l, kEq_ii, kNe_ii, kLt, kLe, kGt, kGe, kSub, kMod, kFdiv, kPow, kIx_p, kLen_p, kAppend_p, kSetI_p, at4_0, at4_1, at4_2, at4_3, ix4_0, ix4_1, ix4_2, ix4_3, wAndT, wOrT, wNotT, wAndV, wOrV, wNotV, wIfE, wCall, wSub, wPar, wChn, wRaise, wSl, wPart, wNoP, wBrk, wCnt, wMt, wMt0, List.map_cons, List.map_nil, List.cons_append, List.nil_append, List.getElem?_cons_zero, List.getElem?_cons_succ, List.set_cons_zero, List.set_cons_succ, Option.join_some, Option.join_none, List.replicate_succ, List.replicate_zero]
          refine ⟨⟨by decide, by decide, by decide⟩, rfl, draw_sem p ns 50 _ _ _ _ hns hY (by omega) (by decide) (by decide) fun f i7 c7 t7 f0 f1 i70 i71 t70 t71 => ?_⟩
          simp only [wFn, startD, wSq, wSet, wVar, getS, wC, w2, w1, eTup, eLst, eLstM, wCons, wNil, wIf, wTst, wRet, wRetN, wDrop, wB, wNext, kB_b, orF_some, orF_none, kI0_ii, kIC_ii, kAdd_ii, kAdd_tt, kAdd_ll, kMul_ii, kMulT_ti, kInt_i, kMin2_ii, kMax2_ii, kLen_l, kLen_t, kLen_s, kIx_l, kIx_t, kIx_s, kTuple_l, kTuple_t, kList_l, kList_t, kSl_t, kSl_l, kEq_ii, kNe_ii, kLt, kLe, kGt, kGe, kSub, kMod, kFdiv, kPow, kIx_p, kLen_p, kAppend_p, kSetI_p, at4_0, at4_1, at4_2, at4_3, ix4_0, ix4_1, ix4_2, ix4_3, wAndT, wOrT, wNotT, wAndV, wOrV, wNotV, wIfE, wCall, wSub, wPar, wChn, wRaise, wSl, wPart, wNoP, wBrk, wCnt, wMt, wMt0, List.map_cons, List.map_nil, List.cons_append, List.nil_append, List.getElem?_cons_zero, List.getElem?_cons_succ, List.set_cons_zero, List.set_cons_succ, Option.join_some, Option.join_none, List.replicate_succ, List.replicate_zero]
          subst hN
          generalize (put T6 p (.lst [.scr ns, .int i7, .int c7, .int t7])) = T7
          refine sq_intro fun N hN => ?_
          simp only [wFn, startD, wSq, wSet, wVar, getS, wC, w2, w1, eTup, eLst, eLstM, wCons, wNil, wIf, wTst, wRet, wRetN, wDrop, wB, wNext, kB_b, orF_some, orF_none, kI0_ii, kIC_ii, kAdd_ii, kAdd_tt, kAdd_ll, kMul_ii, kMulT_ti, kInt_i, kMin2_ii, kMax2_ii, kLen_l, kLen_t, kLen_s, kIx_l, kIx_t, kIx_s, kTuple_l, kTuple_t, kList_l, kList_t, kSl_t, kSl_l, kEq_ii, kNe_ii, kLt, kLe, kGt, kGe, kSub, kMod, kFdiv, kPow, kIx_p, kLen_p, kAppend_p, kSetI_p, at4_0, at4_1, at4_2, at4_3, ix4_0, ix4_1, ix4_2, ix4_3, wAndT, wOrT, wNotT, wAndV, wOrV, wNotV, wIfE, wCall, wSub, wPar, wChn, wRaise, wSl, wPart, wNoP, wBrk, wCnt, wMt, wMt0, List.map_cons, List.map_nil, List.cons_append, List.nil_append, List.getElem?_cons_zero, List.getElem?_cons_succ, List.set_cons_zero, List.set_cons_succ, Option.join_some, Option.join_none, List.replicate_succ, List.replicate_zero]
          refine ⟨rfl, two_sem _ _ ?_⟩
          refine ⟨rfl, two_sem _ _ ?_⟩
          refine ⟨rfl, two_sem _ _ ?_⟩
          have z1 : (1 + f == 0) = false := beq_eq_false_iff_ne.mpr (by omega)
          have z2 : (1 + f + 1 == 0) = false := beq_eq_false_iff_ne.mpr (by omega)
          rw [z1, z2, if_neg (by decide), if_neg (by decide), if_neg (by decide)]
          have z3 : (1 + f + 1 == 1 + f + 1) = true := by simp
          have z4 : (1 + f + 1 == 1 + f + 1 + 1) = false := beq_eq_false_iff_ne.mpr (by omega)
          have z5 : (1 + f + 2 == 1 + f + 1) = false := beq_eq_false_iff_ne.mpr (by omega)
          rw [z3, z4, z5]
          refine ⟨fits (by simp), fits (by simp), rfl, same_refl 7 _ _ _ _ (dat_l3 (by simp [dat]) (by simp [dat]) (by simp [dat])) (by omega) ?_⟩
          simp only [kB_b]
          rw [if_neg (by decide)]
          subst hN
          refine sq_intro fun N hN => ?_
          simp only [wFn, startD, wSq, wSet, wVar, getS, wC, w2, w1, eTup, eLst, eLstM, wCons, wNil, wIf, wTst, wRet, wRetN, wDrop, wB, wNext, kB_b, orF_some, orF_none, kI0_ii, kIC_ii, kAdd_ii, kAdd_tt, kAdd_ll, kMul_ii, kMulT_ti, kInt_i, kMin2_ii, kMax2_ii, kLen_l, kLen_t, kLen_s, kIx_l, kIx_t, kIx_s, kTuple_l, kTuple_t, kList_l, kList_t, kSl_t, kSl_l, kEq_ii, kNe_ii, kLt, kLe, kGt, kGe, kSub, kMod, kFdiv, kPow, kIx_p, kLen_p, kAppend_p, kSetI_p, at4_0, at4_1, at4_2, at4_3, ix4_0, ix4_1, ix4_2, ix4_3, wAndT, wOrT, wNotT, wAndV, wOrV, wNotV, wIfE, wCall, wSub, wPar, wChn, wRaise, wSl, wPart, wNoP, wBrk, wCnt, wMt, wMt0, List.map_cons, List.map_nil, List.cons_append, List.nil_append, List.getElem?_cons_zero, List.getElem?_cons_succ, List.set_cons_zero, List.set_cons_succ, Option.join_some, Option.join_none, List.replicate_succ, List.replicate_zero]
          subst hN
          refine sq_intro fun N hN => ?_
          simp only [wFor, wSeq, eLst, eTup, wCons, wNil, wC, w2, kMulT_ti]
          refine ⟨fits (by simp), fits (by simp), fits (by simp), fits (by simp), ⟨by omega, by omega, by simp⟩, fits (by simp), ?_⟩
          refine ⟨trivial, try_turn (r := []) bad0 rfl rfl ?_⟩
          refine ⟨trivial, try_turn (r := [2, 3]) bad23 rfl rfl ?_⟩
          refine ⟨trivial, try_turn (r := [0]) badz rfl rfl ?_⟩
          refine ⟨trivial, try_turn (r := [7, 7, 7, 7, 7, 7, 7]) bad7 rfl rfl ?_⟩
          refine ⟨trivial, ?_⟩
          subst hN
          show kEq (.int (0 + 1 + 1 + 1 + 1)) (.int 4) T7 (Rt fun d x => d = D.bl true)
          rw [kEq_ii]
          exact Rt.same rfl
        simp only [wFn, startD, wSq, wSet, wVar, getS, wC, w2, w1, eTup, eLst, eLstM, wCons, wNil, wIf, wTst, wRet, wRetN, wDrop, wB, wNext, kB_b, orF_some, orF_none, kI0_ii, kIC_ii, kAdd_ii, kAdd_tt, kAdd_ll, kMul_ii, kMulT_ti, kInt_i, kMin2_ii, kMax2_ii, kLen_l, kLen_t, kLen_s, kIx_l, kIx_t, kIx_s, kTuple_l, kTuple_t, kList_l, kList_t, kSl_t, kSl_l, kEq_ii, kNe_ii, kLt, kLe, kGt, kGe, kSub, kMod, kFdiv, kPow, kIx_p, kLen_p, kAppend_p, kSetI_p, at4_0, at4_1, at4_2, at4_3, ix4_0, ix4_1, ix4_2, ix4_3, wAndT, wOrT, wNotT, wAndV, wOrV, wNotV, wIfE, wCall, wSub, wPar, wChn, wRaise, wSl, wPart, wNoP, wBrk, wCnt, wMt, wMt0, List.map_cons, List.map_nil, List.cons_append, List.nil_append, List.getElem?_cons_zero, List.getElem?_cons_succ, List.set_cons_zero, List.set_cons_succ, Option.join_some, Option.join_none, List.replicate_succ, List.replicate_zero]
        by_cases hb0 : b > 0
        · rw [if_pos (decide_eq_true hb0)]
          rw [if_pos hb0] at h5
          exact ⟨fits (by simp), h5⟩
        · rw [if_neg (by simpa using hb0)]
          rw [if_neg hb0] at h5
          exact ⟨fits (by simp), h5⟩
      refine ⟨fits (by simp), fits (by simp; omega), ?_⟩
      simp only [List.length_map]
      rw [show D.tup (L.map D.int ++ [D.int (L.length : Int)]) = rowD (L ++ [(L.length : Int)]) from by simp [rowD], kLenSet_row]
      refine ⟨by simp; omega, fun l hd hm' => ?_⟩
      rw [kI0_ii, kB_b]
      by_cases hl1 : (1 : Int) < (l.length : Int)
      · rw [if_pos (decide_eq_true hl1)]
        refine ⟨rfl, sq_sem hv ?_⟩
        rw [if_pos (.inr (two_of hd hm' (by omega)))]
        simp only [kIsB, J.isNon, kB_b]
        rw [if_neg (by decide)]
        exact h4
      · rw [if_neg (by simpa using hl1)]
        exact h4
    by_cases hlo : lose L = true
    · rw [if_pos hlo]
      refine ⟨fits (by simp), ?_⟩
      rw [show (D.tup [D.int 1]) = rowD [1] from rfl, show D.tup (L.map D.int) = rowD L from rfl, kNe_row, kB_b]
      by_cases h1 : L = [1]
      · rw [if_neg (by simp [h1])]; exact h3
      · rw [if_pos (by simp [h1])]
        have hno := hR.no hlo h1
        simp only [List.length_map]
        rw [if_neg (by simp; intro e; exact hno (.inl (by omega)))]
        refine ⟨fits (by simp), ?_⟩
        have hh : 1 ≤ L.getD 0 0 ∧ L.getD 0 0 ≤ 5 := by
          cases hL : L with
          | nil => exact absurd hL hv.ne
          | cons x l => exact hD.b x (by rw [hL]; simp)
        rw [head_at hv.ne, orF_some, show rowD [1] = D.tup [D.int 1] from rfl, kMulT_ti]
        refine ⟨⟨by omega, by omega, by simp⟩, ?_⟩
        rw [rep_row, show D.tup ((List.replicate (L.getD 0 0).toNat (1 : Int)).map D.int) = rowD (List.replicate (L.getD 0 0).toNat 1) from rfl, kEq_row, kB_b, if_neg (by simpa using fun e => hno (.inr e))]
        exact h3
    · rw [if_neg hlo]; exact h3
end Lw
set_option Elab.async false
set_option linter.all false
set_option maxRecDepth 100000
set_option maxHeartbeats 4000000
namespace Lw
open PySem PySem.Spec L2 J
section
variable {P : Program} {w : World} {K : PySem.W.Frag} {mg : Str → Option Value} {base : Heap} {of : String → Addr}
/-! ## each def does it -/
theorem ok_law_mixed (T : Tx K mg of) : FnOk P w K mg base (L2.CX P w) 1 T.a_law_mixed T.fd_law_mixed ["number", "place"] (spJ (Ct0 P w K of) 2 W_law_mixed) :=
  fn_ok (k := 0) (body := b_law_mixed) T.d_law_mixed.F sc__law_mixed fun cdv A outer s H E cl xd ho hr tk => by
    refine jss_cons ?_ ?_
    · refine js_set sc__law_mixed.nd rfl (by first | exact Or.inl rfl | exact Or.inr rfl) ?_
      refine je_op jo_mod ?_ ?_
      · refine jcT jc_int (by rfl) T.m_int PyProof.Rows.boot_int ?_
        refine jlc ?_ ?_
        · refine je_op jo_add ?_ ?_
          · refine je_op jo_add ?_ ?_
            · refine je_op jo_mul ?_ ?_
              · exact je_var 0
              · exact je_int
            · refine je_op jo_mul ?_ ?_
              · exact je_var 1
              · exact je_int
          · exact je_int
        · exact jl_nil
      · exact je_int
    · refine jss_cons ?_ ?_
      · refine js_set sc__law_mixed.nd rfl (by first | exact Or.inl rfl | exact Or.inr rfl) ?_
        refine je_op jo_mod ?_ ?_
        · refine jcT jc_int (by rfl) T.m_int PyProof.Rows.boot_int ?_
          refine jlc ?_ ?_
          · refine je_op jo_add ?_ ?_
            · refine je_op jo_add ?_ ?_
              · refine je_op jo_mul ?_ ?_
                · exact je_var 2
                · exact je_var 2
              · refine je_op jo_mul ?_ ?_
                · exact je_int
                · exact je_var 2
            · exact je_var 1
          · exact jl_nil
        · exact je_int
      · refine jss_cons ?_ ?_
        · refine js_set sc__law_mixed.nd rfl (by first | exact Or.inl rfl | exact Or.inr rfl) ?_
          refine je_op jo_mod ?_ ?_
          · refine jcT jc_int (by rfl) T.m_int PyProof.Rows.boot_int ?_
            refine jlc ?_ ?_
            · refine je_op jo_add ?_ ?_
              · refine je_op jo_mul ?_ ?_
                · exact je_var 3
                · exact je_var 3
              · exact je_var 2
            · exact jl_nil
          · exact je_int
        · refine jss_one ?_
          refine js_ret ?_
          refine je_op jo_add ?_ ?_
          · refine je_op jo_mul ?_ ?_
            · exact je_var 3
            · exact je_int
          · exact je_var 4
theorem ok_law_rest (T : Tx K mg of) : FnOk P w K mg base (L2.CX P w) 2 T.a_law_rest T.fd_law_rest ["script", "place", "turns"] (spJ (Ct0 P w K of) 3 W_law_rest) :=
  fn_ok (k := 1) (body := b_law_rest) T.d_law_rest.F sc__law_rest fun cdv A outer s H E cl xd ho hr tk => by
    refine jss_cons ?_ ?_
    · refine js_set sc__law_rest.nd rfl (by first | exact Or.inl rfl | exact Or.inr rfl) ?_
      exact je_int
    · refine jss_cons ?_ ?_
      · refine js_if ?_ ?_ ?_
        · refine jt_cmp jo_gt ?_ ?_
          · refine jcB jc_len (by rfl) T.m_len PySem.boot_len ?_
            refine jlc ?_ ?_
            · exact je_var 0
            · exact jl_nil
          · exact je_int
        · refine jss_one ?_
          refine js_set sc__law_rest.nd rfl (by first | exact Or.inl rfl | exact Or.inr rfl) ?_
          refine jcT jc_int (by rfl) T.m_int PyProof.Rows.boot_int ?_
          refine jlc ?_ ?_
          · refine je_ix (by exact hr.units) ?_ ?_
            · exact je_var 0
            · refine je_op jo_mod ?_ ?_
              · refine jcT jc_int (by rfl) T.m_int PyProof.Rows.boot_int ?_
                refine jlc ?_ ?_
                · exact je_var 1
                · exact jl_nil
              · refine jcB jc_len (by rfl) T.m_len PySem.boot_len ?_
                refine jlc ?_ ?_
                · exact je_var 0
                · exact jl_nil
          · exact jl_nil
        · exact jss_nil
      · refine jss_cons ?_ ?_
        · refine js_if ?_ ?_ ?_
          · refine jt_cmp jo_lt ?_ ?_
            · exact je_var 3
            · exact je_int
          · refine jss_one ?_
            refine js_set sc__law_rest.nd rfl (by first | exact Or.inl rfl | exact Or.inr rfl) ?_
            refine je_op jo_sub ?_ ?_
            · exact je_int
            · refine je_op jo_mul ?_ ?_
              · exact je_int
              · exact je_var 3
          · exact jss_nil
        · refine jss_cons ?_ ?_
          · refine js_if ?_ ?_ ?_
            · refine jw_pt ?_
              refine jw_and ?_ ?_
              · refine jt_cmp (jo_eq (by exact hr.units)) ?_ ?_
                · exact je_var 2
                · exact je_int
              · refine jw_and ?_ ?_
                · refine jt_cmp jo_lt ?_ ?_
                  · exact je_var 1
                  · refine jcB jc_len (by rfl) T.m_len PySem.boot_len ?_
                    refine jlc ?_ ?_
                    · exact je_var 0
                    · exact jl_nil
                · refine jw_and1 ?_
                  refine jt_cmp jo_ge ?_ ?_
                  · exact je_var 3
                  · refine je_op jo_pow ?_ ?_
                    · exact je_int
                    · exact je_int
            · refine jss_one ?_
              refine js_ret ?_
              refine je_op jo_sub ?_ ?_
              · exact je_var 3
              · refine je_op jo_pow ?_ ?_
                · exact je_int
                · exact je_int
            · exact jss_nil
          · refine jss_one ?_
            refine js_ret ?_
            refine jfn ho T.d_law_mixed (ok_law_mixed T) (by exact hr) (by decide) (by rfl) (by exact tk) ?_
            refine jlc ?_ ?_
            · refine je_op jo_add ?_ ?_
              · exact je_var 3
              · refine je_op jo_mul ?_ ?_
                · exact je_var 2
                · exact je_int
            · refine jlc ?_ ?_
              · exact je_var 1
              · exact jl_nil
theorem ok_law_pool (T : Tx K mg of) : FnOk P w K mg base (L2.CX P w) 3 T.a_law_pool T.fd_law_pool ["script"] (spJ (Ct0 P w K of) 1 W_law_pool) :=
  fn_ok (k := 2) (body := b_law_pool) T.d_law_pool.F sc__law_pool fun cdv A outer s H E cl xd ho hr tk => by
    refine jss_one ?_
    refine js_ret ?_
    refine je_lstM ?_
    refine jlc ?_ ?_
    · exact je_var 0
    · refine jlc ?_ ?_
      · exact je_int
      · refine jlc ?_ ?_
        · refine jfn ho T.d_law_rest (ok_law_rest T) (by exact hr) (by decide) (by rfl) (by exact tk) ?_
          refine jlc ?_ ?_
          · exact je_var 0
          · refine jlc ?_ ?_
            · exact je_int
            · refine jlc ?_ ?_
              · exact je_int
              · exact jl_nil
        · refine jlc ?_ ?_
          · exact je_int
          · exact jl_nil
theorem ok_law_bites (T : Tx K mg of) : FnOk P w K mg base (L2.CX P w) 1 T.a_law_bites T.fd_law_bites ["rows"] (spJ (Ct0 P w K of) 1 W_law_bites) :=
  fn_ok (k := 0) (body := b_law_bites) T.d_law_bites.F sc__law_bites fun cdv A outer s H E cl xd ho hr tk => by
    refine jss_cons ?_ ?_
    · refine js_set sc__law_bites.nd rfl (by first | exact Or.inl rfl | exact Or.inr rfl) ?_
      refine je_lstM ?_
      exact jl_nil
    · refine jss_cons ?_ ?_
      · refine js_for (passes_of rfl) rfl ?_ ?_ ?_
        · refine jrng1 (by rfl) T.m_range ?_
          refine jlc ?_ ?_
          · refine jcB jc_len (by rfl) T.m_len PySem.boot_len ?_
            refine jlc ?_ ?_
            · exact je_var 0
            · exact jl_nil
          · exact jl_nil
        · exact tg_name sc__law_bites.nd rfl (by first | exact Or.inl rfl | exact Or.inr rfl)
        · refine jss_one ?_
          refine js_for (passes_of rfl) rfl ?_ ?_ ?_
          · refine jrng1 (by rfl) T.m_range ?_
            refine jlc ?_ ?_
            · refine je_ix (by exact hr.units) ?_ ?_
              · exact je_var 0
              · exact je_var 2
            · exact jl_nil
          · exact tg_name sc__law_bites.nd rfl (by first | exact Or.inl rfl | exact Or.inr rfl)
          · refine jss_one ?_
            refine js_if ?_ ?_ ?_
            · refine jt_cmp (jo_ne (by exact hr.units)) ?_ ?_
              · refine je_tup ?_
                refine jlc ?_ ?_
                · exact je_var 2
                · refine jlc ?_ ?_
                  · exact je_var 3
                  · exact jl_nil
              · refine je_tup ?_
                refine jlc ?_ ?_
                · exact je_int
                · refine jlc ?_ ?_
                  · exact je_int
                  · exact jl_nil
            · refine jss_cons ?_ ?_
              · refine js_set sc__law_bites.nd rfl (by first | exact Or.inl rfl | exact Or.inr rfl) ?_
                refine je_op jo_add ?_ ?_
                · refine jcT jc_list (by rfl) T.m_list PyProof.Rows.boot_list ?_
                  refine jlc ?_ ?_
                  · refine je_sl ?_ ?_ ?_
                    · exact je_var 0
                    · exact jo_none
                    · refine jo_some ?_
                      exact je_var 2
                  · exact jl_nil
                · refine je_lc rfl sc__law_bites.nd ?_
                  refine LcOk.mk ?_ (by first | exact blkOk_by (N := [ "rows" , "found" , "r" , "c" , "row" , "size" ]) (sc := defScope s_law_bites) (by decide +kernel) | exact blkOk_by (by rfl)) (by decide) (fun _ _ _ _ _ => ?_) (fun _ _ _ _ _ => ?_) (fun _ _ _ _ _ => ?_)
                  · refine ji_seq ?_
                    refine je_sl ?_ ?_ ?_
                    · exact je_var 0
                    · refine jo_some ?_
                      exact je_var 2
                    · exact jo_none
                  · exact tg_name sc__law_bites.nd rfl (by first | exact Or.inl rfl | exact Or.inr rfl)
                  · exact jts_nil
                  · refine jcB (jc_min2 rfl) (by rfl) T.m_min PyProof.Rows.boot_min ?_
                    refine jlc ?_ ?_
                    · exact je_var 5
                    · refine jlc ?_ ?_
                      · exact je_var 3
                      · exact jl_nil
              · refine jss_one ?_
                refine js_expr ?_
                refine jlm PySem.F.slot_list_append PySem.F.type_list_append jm_append ?_ ?_
                · exact je_var 1
                · refine jlc ?_ ?_
                  · refine jcT jc_tuple (by rfl) T.m_tuple PyProof.Rows.boot_tuple ?_
                    refine jlc ?_ ?_
                    · refine je_lc rfl sc__law_bites.nd ?_
                      refine LcOk.mk ?_ (by first | exact blkOk_by (N := [ "rows" , "found" , "r" , "c" , "row" , "size" ]) (sc := defScope s_law_bites) (by decide +kernel) | exact blkOk_by (by rfl)) (by decide) (fun _ _ _ _ _ => ?_) (fun _ _ _ _ _ => ?_) (fun _ _ _ _ _ => ?_)
                      · refine ji_seq ?_
                        exact je_var 4
                      · exact tg_name sc__law_bites.nd rfl (by first | exact Or.inl rfl | exact Or.inr rfl)
                      · refine jts_one ?_
                        refine jt_cmp jo_gt ?_ ?_
                        · exact je_var 5
                        · exact je_int
                      · exact je_var 5
                    · exact jl_nil
                  · exact jl_nil
            · exact jss_nil
      · refine jss_one ?_
        refine js_ret ?_
        refine jsSet rfl (by exact hr.units) (by rfl) T.m_sorted (by rfl) T.m_set ?_
        exact je_var 1
theorem ok_law_turned (T : Tx K mg of) : FnOk P w K mg base (L2.CX P w) 1 T.a_law_turned T.fd_law_turned ["rows"] (spJ (Ct0 P w K of) 1 W_law_turned) :=
  fn_ok (k := 0) (body := b_law_turned) T.d_law_turned.F sc__law_turned fun cdv A outer s H E cl xd ho hr tk => by
    refine jss_one ?_
    refine js_ret ?_
    refine jcT jc_tuple (by rfl) T.m_tuple PyProof.Rows.boot_tuple ?_
    refine jlc ?_ ?_
    · refine je_lc rfl sc__law_turned.nd ?_
      refine LcOk.mk ?_ (by first | exact blkOk_by (N := [ "rows" , "c" , "size" ]) (sc := defScope s_law_turned) (by decide +kernel) | exact blkOk_by (by rfl)) (by decide) (fun _ _ _ _ _ => ?_) (fun _ _ _ _ _ => ?_) (fun _ _ _ _ _ => ?_)
      · refine jrng1 (by rfl) T.m_range ?_
        refine jlc ?_ ?_
        · refine je_ix (by exact hr.units) ?_ ?_
          · exact je_var 0
          · exact je_int
        · exact jl_nil
      · exact tg_name sc__law_turned.nd rfl (by first | exact Or.inl rfl | exact Or.inr rfl)
      · exact jts_nil
      · refine jcB jc_len (by rfl) T.m_len PySem.boot_len ?_
        refine jlc ?_ ?_
        · refine je_lc rfl sc__law_turned.nd ?_
          refine LcOk.mk ?_ (by first | exact blkOk_by (N := [ "rows" , "c" , "size" ]) (sc := defScope s_law_turned) (by decide +kernel) | exact blkOk_by (by rfl)) (by decide) (fun _ _ _ _ _ => ?_) (fun _ _ _ _ _ => ?_) (fun _ _ _ _ _ => ?_)
          · refine ji_seq ?_
            exact je_var 0
          · exact tg_name sc__law_turned.nd rfl (by first | exact Or.inl rfl | exact Or.inr rfl)
          · refine jts_one ?_
            refine jt_cmp jo_gt ?_ ?_
            · exact je_var 2
            · exact je_var 1
          · exact je_var 2
        · exact jl_nil
    · exact jl_nil
theorem ok_law_next (T : Tx K mg of) : FnOk P w K mg base (L2.CX P w) 3 T.a_law_next T.fd_law_next ["pool"] (spJ (Ct0 P w K of) 1 W_law_next) :=
  fn_ok (k := 2) (body := b_law_next) T.d_law_next.F sc__law_next fun cdv A outer s H E cl xd ho hr tk => by
    refine jss_cons ?_ ?_
    · refine js_sub (by exact hr.units) ?_ ?_ ?_
      · refine je_op jo_add ?_ ?_
        · refine je_ix (by exact hr.units) ?_ ?_
          · exact je_var 0
          · exact je_int
        · exact je_int
      · exact je_var 0
      · exact je_int
    · refine jss_cons ?_ ?_
      · refine js_sub (by exact hr.units) ?_ ?_ ?_
        · refine jfn ho T.d_law_rest (ok_law_rest T) (by exact hr) (by decide) (by rfl) (by exact tk) ?_
          refine jlc ?_ ?_
          · refine je_ix (by exact hr.units) ?_ ?_
            · exact je_var 0
            · exact je_int
          · refine jlc ?_ ?_
            · refine je_ix (by exact hr.units) ?_ ?_
              · exact je_var 0
              · exact je_int
            · refine jlc ?_ ?_
              · exact je_int
              · exact jl_nil
        · exact je_var 0
        · exact je_int
      · refine jss_one ?_
        refine js_sub (by exact hr.units) ?_ ?_ ?_
        · exact je_int
        · exact je_var 0
        · exact je_int
theorem ok_law_draw (T : Tx K mg of) : FnOk P w K mg base (L2.CX P w) 3 T.a_law_draw T.fd_law_draw ["pool", "limit"] (spJ (Ct0 P w K of) 2 W_law_draw) :=
  fn_ok (k := 2) (body := b_law_draw) T.d_law_draw.F sc__law_draw fun cdv A outer s H E cl xd ho hr tk => by
    refine jss_cons ?_ ?_
    · refine js_if ?_ ?_ ?_
      · refine jt_cmp jo_le ?_ ?_
        · refine je_ix (by exact hr.units) ?_ ?_
          · exact je_var 0
          · exact je_int
        · exact je_int
      · refine jss_cons ?_ ?_
        · refine js_sub (by exact hr.units) ?_ ?_ ?_
          · refine je_op jo_add ?_ ?_
            · refine je_ix (by exact hr.units) ?_ ?_
              · exact je_var 0
              · exact je_int
            · exact je_int
          · exact je_var 0
          · exact je_int
        · refine jss_one ?_
          refine js_sub (by exact hr.units) ?_ ?_ ?_
          · refine jfn ho T.d_law_rest (ok_law_rest T) (by exact hr) (by decide) (by rfl) (by exact tk) ?_
            refine jlc ?_ ?_
            · refine je_ix (by exact hr.units) ?_ ?_
              · exact je_var 0
              · exact je_int
            · refine jlc ?_ ?_
              · refine je_ix (by exact hr.units) ?_ ?_
                · exact je_var 0
                · exact je_int
              · refine jlc ?_ ?_
                · refine je_ix (by exact hr.units) ?_ ?_
                  · exact je_var 0
                  · exact je_int
                · exact jl_nil
          · exact je_var 0
          · exact je_int
      · exact jss_nil
    · refine jss_cons ?_ ?_
      · refine js_set sc__law_draw.nd rfl (by first | exact Or.inl rfl | exact Or.inr rfl) ?_
        refine je_op jo_mod ?_ ?_
        · refine jcT jc_int (by rfl) T.m_int PyProof.Rows.boot_int ?_
          refine jlc ?_ ?_
          · refine je_ix (by exact hr.units) ?_ ?_
            · exact je_var 0
            · exact je_int
          · exact jl_nil
        · exact je_var 1
      · refine jss_cons ?_ ?_
        · refine js_sub (by exact hr.units) ?_ ?_ ?_
          · refine je_op jo_fdiv ?_ ?_
            · refine jcT jc_int (by rfl) T.m_int PyProof.Rows.boot_int ?_
              refine jlc ?_ ?_
              · refine je_ix (by exact hr.units) ?_ ?_
                · exact je_var 0
                · exact je_int
              · exact jl_nil
            · exact je_var 1
          · exact je_var 0
          · exact je_int
        · refine jss_one ?_
          refine js_ret ?_
          exact je_var 2
theorem ok_law_same (T : Tx K mg of) : ∀ n : Nat, FnOk P w K mg base (L2.CX P w) (0 + n) T.a_law_same T.fd_law_same ["answer", "due"] (spJ (Ct0 P w K of) 2 (W_law_same n))
  | 0 => fn_ok0 rfl
  | n + 1 => by
    have ih := ok_law_same T n
    exact fn_ok (k := 0 + n) (body := b_law_same (W_law_same n)) T.d_law_same.F sc__law_same fun cdv A outer s H E cl xd ho hr tk => by
      refine jss_cons ?_ ?_
      · refine js_if ?_ ?_ ?_
        · refine jt_val ?_
          refine jIsa isa_dict (by rfl) T.m_isinstance (by rfl) T.m_dict PyProof.Rows.boot_dict ?_
          exact je_var 1
        · refine jss_cons ?_ ?_
          · refine js_if ?_ ?_ ?_
            · refine jw_pt ?_
              refine jw_or ?_ ?_
              · refine jt_not ?_
                refine jt_val ?_
                refine jIsa isa_dict (by rfl) T.m_isinstance (by rfl) T.m_dict PyProof.Rows.boot_dict ?_
                exact je_var 0
              · refine jw_or1 ?_
                refine jt_cmp (jo_ne (by exact hr.units)) ?_ ?_
                · refine jcB jc_len (by rfl) T.m_len PySem.boot_len ?_
                  refine jlc ?_ ?_
                  · exact je_var 0
                  · exact jl_nil
                · refine jcB jc_len (by rfl) T.m_len PySem.boot_len ?_
                  refine jlc ?_ ?_
                  · exact je_var 1
                  · exact jl_nil
            · refine jss_one ?_
              refine js_ret ?_
              exact je_bl
            · exact jss_nil
          · refine jss_one ?_
            refine js_ret ?_
            refine jcB (jc_all rfl) (by rfl) T.m_all PyProof.Rows.boot_all ?_
            refine jlc ?_ ?_
            · refine je_lc rfl sc__law_same.nd ?_
              refine LcOk.mk ?_ (by first | exact blkOk_by (N := [ "answer" , "due" , "key" , "k" ]) (sc := defScope s_law_same) (by decide +kernel) | exact blkOk_by (by rfl)) (by decide) (fun _ _ _ _ _ => ?_) (fun _ _ _ _ _ => ?_) (fun _ _ _ _ _ => ?_)
              · refine ji_seq ?_
                exact je_var 1
              · exact tg_name sc__law_same.nd rfl (by first | exact Or.inl rfl | exact Or.inr rfl)
              · exact jts_nil
              · refine je_and ?_ ?_
                · refine je_cmp (jo_in (by exact hr.units)) ?_ ?_
                  · exact je_var 2
                  · exact je_var 0
                · refine je_one ?_
                  refine jfn ho T.d_law_same ih (by exact hr) (Nat.le_refl _) (by rfl) (by exact tk0) ?_
                  refine jlc ?_ ?_
                  · refine je_ix (by exact hr.units) ?_ ?_
                    · exact je_var 0
                    · exact je_var 2
                  · refine jlc ?_ ?_
                    · refine je_ix (by exact hr.units) ?_ ?_
                      · exact je_var 1
                      · exact je_var 2
                    · exact jl_nil
            · exact jl_nil
        · exact jss_nil
      · refine jss_cons ?_ ?_
        · refine js_if ?_ ?_ ?_
          · refine jw_pt ?_
            refine jw_or ?_ ?_
            · refine jt_val ?_
              refine jIsa isa_list (by rfl) T.m_isinstance (by rfl) T.m_list PyProof.Rows.boot_list ?_
              exact je_var 1
            · refine jw_or1 ?_
              refine jt_val ?_
              refine jIsa isa_tuple (by rfl) T.m_isinstance (by rfl) T.m_tuple PyProof.Rows.boot_tuple ?_
              exact je_var 1
          · refine jss_cons ?_ ?_
            · refine js_if ?_ ?_ ?_
              · refine jw_pt ?_
                refine jw_or ?_ ?_
                · refine jt_cmp (jo_ne (by exact hr.units)) ?_ ?_
                  · refine jIsa isa_list (by rfl) T.m_isinstance (by rfl) T.m_list PyProof.Rows.boot_list ?_
                    exact je_var 1
                  · refine jIsa isa_list (by rfl) T.m_isinstance (by rfl) T.m_list PyProof.Rows.boot_list ?_
                    exact je_var 0
                · refine jw_or1 ?_
                  refine jt_cmp (jo_ne (by exact hr.units)) ?_ ?_
                  · refine jIsa isa_tuple (by rfl) T.m_isinstance (by rfl) T.m_tuple PyProof.Rows.boot_tuple ?_
                    exact je_var 1
                  · refine jIsa isa_tuple (by rfl) T.m_isinstance (by rfl) T.m_tuple PyProof.Rows.boot_tuple ?_
                    exact je_var 0
              · refine jss_one ?_
                refine js_ret ?_
                exact je_bl
              · exact jss_nil
            · refine jss_one ?_
              refine js_ret ?_
              refine je_and ?_ ?_
              · refine je_cmp (jo_eq (by exact hr.units)) ?_ ?_
                · refine jcB jc_len (by rfl) T.m_len PySem.boot_len ?_
                  refine jlc ?_ ?_
                  · exact je_var 0
                  · exact jl_nil
                · refine jcB jc_len (by rfl) T.m_len PySem.boot_len ?_
                  refine jlc ?_ ?_
                  · exact je_var 1
                  · exact jl_nil
              · refine je_one ?_
                refine jcB (jc_all rfl) (by rfl) T.m_all PyProof.Rows.boot_all ?_
                refine jlc ?_ ?_
                · refine je_lc rfl sc__law_same.nd ?_
                  refine LcOk.mk ?_ (by first | exact blkOk_by (N := [ "answer" , "due" , "key" , "k" ]) (sc := defScope s_law_same) (by decide +kernel) | exact blkOk_by (by rfl)) (by decide) (fun _ _ _ _ _ => ?_) (fun _ _ _ _ _ => ?_) (fun _ _ _ _ _ => ?_)
                  · refine jrng1 (by rfl) T.m_range ?_
                    refine jlc ?_ ?_
                    · refine jcB jc_len (by rfl) T.m_len PySem.boot_len ?_
                      refine jlc ?_ ?_
                      · exact je_var 1
                      · exact jl_nil
                    · exact jl_nil
                  · exact tg_name sc__law_same.nd rfl (by first | exact Or.inl rfl | exact Or.inr rfl)
                  · exact jts_nil
                  · refine jfn ho T.d_law_same ih (by exact hr) (Nat.le_refl _) (by rfl) (by exact tk0) ?_
                    refine jlc ?_ ?_
                    · refine je_ix (by exact hr.units) ?_ ?_
                      · exact je_var 0
                      · exact je_var 3
                    · refine jlc ?_ ?_
                      · refine je_ix (by exact hr.units) ?_ ?_
                        · exact je_var 1
                        · exact je_var 3
                      · exact jl_nil
                · exact jl_nil
          · exact jss_nil
        · refine jss_cons ?_ ?_
          · refine js_if ?_ ?_ ?_
            · refine jt_val ?_
              refine jIsa isa_str (by rfl) T.m_isinstance (by rfl) T.m_str PyProof.Rows.boot_str ?_
              exact je_var 1
            · refine jss_one ?_
              refine js_ret ?_
              refine je_and ?_ ?_
              · refine jIsa isa_str (by rfl) T.m_isinstance (by rfl) T.m_str PyProof.Rows.boot_str ?_
                exact je_var 0
              · refine je_one ?_
                refine je_cmp (jo_eq (by exact hr.units)) ?_ ?_
                · exact je_var 0
                · exact je_var 1
            · exact jss_nil
          · refine jss_cons ?_ ?_
            · refine js_if ?_ ?_ ?_
              · refine jw_pt ?_
                refine jw_or ?_ ?_
                · refine jt_cmp jo_is ?_ ?_
                  · exact je_var 1
                  · exact je_non
                · refine jw_or ?_ ?_
                  · refine jt_cmp jo_is ?_ ?_
                    · exact je_var 1
                    · exact je_bl
                  · refine jw_or1 ?_
                    refine jt_cmp jo_is ?_ ?_
                    · exact je_var 1
                    · exact je_bl
              · refine jss_one ?_
                refine js_ret ?_
                refine je_or ?_ ?_
                · refine je_and ?_ ?_
                  · refine je_cmp jo_is ?_ ?_
                    · exact je_var 1
                    · exact je_non
                  · refine je_one ?_
                    refine je_cmp jo_is ?_ ?_
                    · exact je_var 0
                    · exact je_non
                · refine je_or ?_ ?_
                  · refine je_and ?_ ?_
                    · refine je_cmp jo_is ?_ ?_
                      · exact je_var 1
                      · exact je_bl
                    · refine je_one ?_
                      refine je_cmp jo_is ?_ ?_
                      · exact je_var 0
                      · exact je_bl
                  · refine je_one ?_
                    refine je_and ?_ ?_
                    · refine je_cmp jo_is ?_ ?_
                      · exact je_var 1
                      · exact je_bl
                    · refine je_one ?_
                      refine je_cmp jo_is ?_ ?_
                      · exact je_var 0
                      · exact je_bl
              · exact jss_nil
            · refine jss_one ?_
              refine js_ret ?_
              refine je_and ?_ ?_
              · refine jIsa isa_int (by rfl) T.m_isinstance (by rfl) T.m_int PyProof.Rows.boot_int ?_
                exact je_var 0
              · refine je_and ?_ ?_
                · refine je_not ?_
                  refine jIsa isa_bool (by rfl) T.m_isinstance (by rfl) T.m_bool PyProof.Rows.boot_bool ?_
                  exact je_var 0
                · refine je_one ?_
                  refine je_cmp (jo_eq (by exact hr.units)) ?_ ?_
                  · exact je_var 0
                  · exact je_var 1
theorem ok_law_lost (T : Tx K mg of) : ∀ n : Nat, FnOk P w K mg base (L2.CX P w) (1 + n) T.a_law_lost T.fd_law_lost ["rows", "known"] (spJ (Ct0 P w K of) 2 (W_law_lost n))
  | 0 => fn_ok0 rfl
  | n + 1 => by
    have ih := ok_law_lost T n
    exact fn_ok (k := 1 + n) (body := b_law_lost (W_law_lost n)) T.d_law_lost.F sc__law_lost fun cdv A outer s H E cl xd ho hr tk => by
      refine jss_cons ?_ ?_
      · refine js_if ?_ ?_ ?_
        · refine jt_cmp (jo_notIn (by exact hr.units)) ?_ ?_
          · exact je_var 0
          · exact je_var 1
        · refine jss_one ?_
          refine js_sub (by exact hr.units) ?_ ?_ ?_
          · refine je_cmp (jo_eq (by exact hr.units)) ?_ ?_
            · refine je_lc rfl sc__law_lost.nd ?_
              refine LcOk.mk ?_ (by first | exact blkOk_by (N := [ "rows" , "known" , "one" ]) (sc := defScope s_law_lost) (by decide +kernel) | exact blkOk_by (by rfl)) (by decide) (fun _ _ _ _ _ => ?_) (fun _ _ _ _ _ => ?_) (fun _ _ _ _ _ => ?_)
              · refine ji_seq ?_
                refine jfn ho T.d_law_bites (ok_law_bites T) (by exact hr) (Nat.le_trans (by decide) (Nat.le_add_right 1 n)) (by rfl) (by exact tk) ?_
                refine jlc ?_ ?_
                · exact je_var 0
                · exact jl_nil
              · exact tg_name sc__law_lost.nd rfl (by first | exact Or.inl rfl | exact Or.inr rfl)
              · refine jts_one ?_
                refine jt_val ?_
                refine jfn ho T.d_law_lost ih (by exact hr) (Nat.le_refl _) (by rfl) (by exact tk0) ?_
                refine jlc ?_ ?_
                · exact je_var 2
                · refine jlc ?_ ?_
                  · exact je_var 1
                  · exact jl_nil
              · exact je_var 2
            · refine je_lst ?_
              exact jl_nil
          · exact je_var 1
          · exact je_var 0
        · exact jss_nil
      · refine jss_one ?_
        refine js_ret ?_
        refine je_ix (by exact hr.units) ?_ ?_
        · exact je_var 1
        · exact je_var 0
theorem oktwo_rows_lose (T : Tx K mg of) : FnOk P w K mg base (L2.CX P w) 1 T.atwo_rows_lose T.fdtwo_rows_lose ["low", "high"] (spJ (Ct0 P w K of) 2 Wtwo_rows_lose) :=
  fn_ok (k := 0) (body := btwo_rows_lose) T.dtwo_rows_lose.F sc_two_rows_lose fun cdv A outer s H E cl xd ho hr tk => by
    refine jss_cons ?_ ?_
    · refine js_if ?_ ?_ ?_
      · refine jt_cmp (jo_eq (by exact hr.units)) ?_ ?_
        · exact je_var 1
        · exact je_int
      · refine jss_one ?_
        refine js_ret ?_
        refine je_cmp (jo_eq (by exact hr.units)) ?_ ?_
        · exact je_var 0
        · exact je_int
      · exact jss_nil
    · refine jss_one ?_
      refine js_ret ?_
      refine je_cmp (jo_eq (by exact hr.units)) ?_ ?_
      · exact je_var 0
      · refine je_op jo_add ?_ ?_
        · exact je_var 1
        · exact je_int
theorem okneed_bar (T : Tx K mg of) : FnOk P w K mg base (L2.CX P w) 1 T.aneed_bar T.fdneed_bar ["rows"] (spJ (Ct0 P w K of) 1 Wneed_bar) :=
  fn_ok (k := 0) (body := bneed_bar) T.dneed_bar.F sc_need_bar fun cdv A outer s H E cl xd ho hr tk => by
    refine jss_cons ?_ ?_
    · refine js_if ?_ ?_ ?_
      · refine jw_pt ?_
        refine jw_or ?_ ?_
        · refine jt_not ?_
          refine jt_chain jo_le jo_le ?_ ?_ ?_
          · exact je_int
          · refine jcB jc_len (by rfl) T.m_len PySem.boot_len ?_
            refine jlc ?_ ?_
            · exact je_var 0
            · exact jl_nil
          · exact je_glb (by rfl) T.c_ROWS_MOST
        · refine jw_or ?_ ?_
          · refine jt_cmp jo_gt ?_ ?_
            · refine jcB (jc_sum rfl) (by rfl) T.m_sum PyProof.Rows.boot_sum ?_
              refine jlc ?_ ?_
              · exact je_var 0
              · exact jl_nil
            · exact je_glb (by rfl) T.c_SQUARES_MOST
          · refine jw_or1 ?_
            refine jt_cmp jo_lt ?_ ?_
            · refine je_ix (by exact hr.units) ?_ ?_
              · exact je_var 0
              · refine je_neg ?_
                exact je_int
            · exact je_int
      · refine jss_one ?_
        exact js_err ho T.e_BadPosition rfl (by rfl) tk
      · exact jss_nil
    · refine jss_one ?_
      refine js_if ?_ ?_ ?_
      · refine jt_not ?_
        refine jt_val ?_
        refine jcB (jc_all rfl) (by rfl) T.m_all PyProof.Rows.boot_all ?_
        refine jlc ?_ ?_
        · refine je_lc rfl sc_need_bar.nd ?_
          refine LcOk.mk ?_ (by first | exact blkOk_by (N := [ "rows" , "k" ]) (sc := defScope sneed_bar) (by decide +kernel) | exact blkOk_by (by rfl)) (by decide) (fun _ _ _ _ _ => ?_) (fun _ _ _ _ _ => ?_) (fun _ _ _ _ _ => ?_)
          · refine jrng1 (by rfl) T.m_range ?_
            refine jlc ?_ ?_
            · refine je_op jo_sub ?_ ?_
              · refine jcB jc_len (by rfl) T.m_len PySem.boot_len ?_
                refine jlc ?_ ?_
                · exact je_var 0
                · exact jl_nil
              · exact je_int
            · exact jl_nil
          · exact tg_name sc_need_bar.nd rfl (by first | exact Or.inl rfl | exact Or.inr rfl)
          · exact jts_nil
          · refine je_cmp jo_ge ?_ ?_
            · refine je_ix (by exact hr.units) ?_ ?_
              · exact je_var 0
              · exact je_var 1
            · refine je_ix (by exact hr.units) ?_ ?_
              · exact je_var 0
              · refine je_op jo_add ?_ ?_
                · exact je_var 1
                · exact je_int
        · exact jl_nil
      · refine jss_one ?_
        exact js_err ho T.e_BadPosition rfl (by rfl) tk
      · exact jss_nil
theorem okbites (T : Tx K mg of) : FnOk P w K mg base (L2.CX P w) 2 T.abites T.fdbites ["rows"] (spJ (Ct0 P w K of) 1 Wbites) :=
  fn_ok (k := 1) (body := bbites) T.dbites.F sc_bites fun cdv A outer s H E cl xd ho hr tk => by
    refine jss_cons ?_ ?_
    · refine js_expr ?_
      refine jfn ho T.dneed_bar (okneed_bar T) (by exact hr) (by decide) (by rfl) (by exact tk) ?_
      refine jlc ?_ ?_
      · exact je_var 0
      · exact jl_nil
    · refine jss_cons ?_ ?_
      · refine js_set sc_bites.nd rfl (by first | exact Or.inl rfl | exact Or.inr rfl) ?_
        refine je_lstM ?_
        exact jl_nil
      · refine jss_cons ?_ ?_
        · refine js_for (passes_of rfl) rfl ?_ ?_ ?_
          · refine jrng1 (by rfl) T.m_range ?_
            refine jlc ?_ ?_
            · refine jcB jc_len (by rfl) T.m_len PySem.boot_len ?_
              refine jlc ?_ ?_
              · exact je_var 0
              · exact jl_nil
            · exact jl_nil
          · exact tg_name sc_bites.nd rfl (by first | exact Or.inl rfl | exact Or.inr rfl)
          · refine jss_one ?_
            refine js_for (passes_of rfl) rfl ?_ ?_ ?_
            · refine jrng1 (by rfl) T.m_range ?_
              refine jlc ?_ ?_
              · refine je_ix (by exact hr.units) ?_ ?_
                · exact je_var 0
                · exact je_var 2
              · exact jl_nil
            · exact tg_name sc_bites.nd rfl (by first | exact Or.inl rfl | exact Or.inr rfl)
            · refine jss_one ?_
              refine js_if ?_ ?_ ?_
              · refine jt_cmp jo_gt ?_ ?_
                · refine je_op jo_add ?_ ?_
                  · exact je_var 2
                  · exact je_var 3
                · exact je_int
              · refine jss_cons ?_ ?_
                · refine js_set sc_bites.nd rfl (by first | exact Or.inl rfl | exact Or.inr rfl) ?_
                  refine je_op jo_add ?_ ?_
                  · refine jcT jc_tuple (by rfl) T.m_tuple PyProof.Rows.boot_tuple ?_
                    refine jlc ?_ ?_
                    · refine je_sl ?_ ?_ ?_
                      · exact je_var 0
                      · exact jo_none
                      · refine jo_some ?_
                        exact je_var 2
                    · exact jl_nil
                  · refine jcT jc_tuple (by rfl) T.m_tuple PyProof.Rows.boot_tuple ?_
                    refine jlc ?_ ?_
                    · refine je_lc rfl sc_bites.nd ?_
                      refine LcOk.mk ?_ (by first | exact blkOk_by (N := [ "rows" , "found" , "row" , "column" , "left" , "length" ]) (sc := defScope sbites) (by decide +kernel) | exact blkOk_by (by rfl)) (by decide) (fun _ _ _ _ _ => ?_) (fun _ _ _ _ _ => ?_) (fun _ _ _ _ _ => ?_)
                      · refine ji_seq ?_
                        refine je_sl ?_ ?_ ?_
                        · exact je_var 0
                        · refine jo_some ?_
                          exact je_var 2
                        · exact jo_none
                      · exact tg_name sc_bites.nd rfl (by first | exact Or.inl rfl | exact Or.inr rfl)
                      · exact jts_nil
                      · refine jcB (jc_min2 rfl) (by rfl) T.m_min PyProof.Rows.boot_min ?_
                        refine jlc ?_ ?_
                        · exact je_var 5
                        · refine jlc ?_ ?_
                          · exact je_var 3
                          · exact jl_nil
                    · exact jl_nil
                · refine jss_one ?_
                  refine js_expr ?_
                  refine jlm PySem.F.slot_list_append PySem.F.type_list_append jm_append ?_ ?_
                  · exact je_var 1
                  · refine jlc ?_ ?_
                    · refine jcT jc_tuple (by rfl) T.m_tuple PyProof.Rows.boot_tuple ?_
                      refine jlc ?_ ?_
                      · refine je_lc rfl sc_bites.nd ?_
                        refine LcOk.mk ?_ (by first | exact blkOk_by (N := [ "rows" , "found" , "row" , "column" , "left" , "length" ]) (sc := defScope sbites) (by decide +kernel) | exact blkOk_by (by rfl)) (by decide) (fun _ _ _ _ _ => ?_) (fun _ _ _ _ _ => ?_) (fun _ _ _ _ _ => ?_)
                        · refine ji_seq ?_
                          exact je_var 4
                        · exact tg_name sc_bites.nd rfl (by first | exact Or.inl rfl | exact Or.inr rfl)
                        · refine jts_one ?_
                          refine jt_cmp jo_gt ?_ ?_
                          · exact je_var 5
                          · exact je_int
                        · exact je_var 5
                      · exact jl_nil
                    · exact jl_nil
              · exact jss_nil
        · refine jss_one ?_
          refine js_ret ?_
          refine jsSet rfl (by exact hr.units) (by rfl) T.m_sorted (by rfl) T.m_set ?_
          exact je_var 1
theorem okloses (T : Tx K mg of) : FnOk P w K mg base (L2.CX P w) 3 T.aloses T.fdloses ["rows"] (spJ (Ct0 P w K of) 1 Wloses) :=
  fn_ok (k := 2) (body := bloses) T.dloses.F sc_loses fun cdv A outer s H E cl xd ho hr tk => by
    refine jss_cons ?_ ?_
    · refine js_expr ?_
      refine jfn ho T.dneed_bar (okneed_bar T) (by exact hr) (by decide) (by rfl) (by exact tk) ?_
      refine jlc ?_ ?_
      · exact je_var 0
      · exact jl_nil
    · refine jss_cons ?_ ?_
      · refine js_set sc_loses.nd rfl (by first | exact Or.inl rfl | exact Or.inr rfl) ?_
        exact je_dcT
      · refine jss_cons ?_ ?_
        · refine js_set sc_loses.nd rfl (by first | exact Or.inl rfl | exact Or.inr rfl) ?_
          refine je_lstM ?_
          refine jlc ?_ ?_
          · refine jcT jc_tuple (by rfl) T.m_tuple PyProof.Rows.boot_tuple ?_
            refine jlc ?_ ?_
            · exact je_var 0
            · exact jl_nil
          · exact jl_nil
        · refine jss_cons ?_ ?_
          · refine js_while (passes_of rfl) ?_ ?_
            · refine jt_cmp jo_gt ?_ ?_
              · refine jcB jc_len (by rfl) T.m_len PySem.boot_len ?_
                refine jlc ?_ ?_
                · exact je_var 2
                · exact jl_nil
              · exact je_int
            · refine jss_cons ?_ ?_
              · refine js_set sc_loses.nd rfl (by first | exact Or.inl rfl | exact Or.inr rfl) ?_
                refine je_ix (by exact hr.units) ?_ ?_
                · exact je_var 2
                · refine je_neg ?_
                  exact je_int
              · refine jss_cons ?_ ?_
                · refine js_set sc_loses.nd rfl (by first | exact Or.inl rfl | exact Or.inr rfl) ?_
                  refine jfn ho T.dbites (okbites T) (by exact hr) (by decide) (by rfl) (by exact tk) ?_
                  refine jlc ?_ ?_
                  · exact je_var 3
                  · exact jl_nil
                · refine jss_cons ?_ ?_
                  · first | refine js_setLc rfl sc_loses.nd rfl rfl rfl ?_ | refine js_set sc_loses.nd rfl (by first | exact Or.inl rfl | exact Or.inr rfl) (je_lc rfl sc_loses.nd ?_)
                    refine LcOk.mk ?_ (by first | exact blkOk_by (N := [ "rows" , "known" , "waiting" , "one" , "options" , "missing" , "option" ]) (sc := defScope sloses) (by decide +kernel) | exact blkOk_by (by rfl)) (by decide) (fun _ _ _ _ _ => ?_) (fun _ _ _ _ _ => ?_) (fun _ _ _ _ _ => ?_)
                    · refine ji_seq ?_
                      exact je_var 4
                    · exact tg_name sc_loses.nd rfl (by first | exact Or.inl rfl | exact Or.inr rfl)
                    · refine jts_one ?_
                      refine jt_cmp (jo_notIn (by exact hr.units)) ?_ ?_
                      · exact je_var 6
                      · exact je_var 1
                    · exact je_var 6
                  · refine jss_one ?_
                    refine js_if ?_ ?_ ?_
                    · refine jt_cmp (jo_in (by exact hr.units)) ?_ ?_
                      · exact je_var 3
                      · exact je_var 1
                    · refine jss_one ?_
                      refine js_expr ?_
                      refine je_lm0 PySem.F.slot_list_pop PySem.F.type_list_pop jm_pop ?_
                      exact je_var 2
                    · refine jss_one ?_
                      refine js_if ?_ ?_ ?_
                      · refine jt_cmp jo_gt ?_ ?_
                        · refine jcB jc_len (by rfl) T.m_len PySem.boot_len ?_
                          refine jlc ?_ ?_
                          · exact je_var 5
                          · exact jl_nil
                        · exact je_int
                      · refine jss_one ?_
                        refine js_expr ?_
                        refine jlm PySem.F.slot_list_append PySem.F.type_list_append jm_append ?_ ?_
                        · exact je_var 2
                        · refine jlc ?_ ?_
                          · refine je_ix (by exact hr.units) ?_ ?_
                            · exact je_var 5
                            · exact je_int
                          · exact jl_nil
                      · refine jss_one ?_
                        refine js_sub (by exact hr.units) ?_ ?_ ?_
                        · refine je_not ?_
                          refine jcB (jc_any rfl) (by rfl) T.m_any PyProof.Rows.boot_any ?_
                          refine jlc ?_ ?_
                          · refine je_lc rfl sc_loses.nd ?_
                            refine LcOk.mk ?_ (by first | exact blkOk_by (N := [ "rows" , "known" , "waiting" , "one" , "options" , "missing" , "option" ]) (sc := defScope sloses) (by decide +kernel) | exact blkOk_by (by rfl)) (by decide) (fun _ _ _ _ _ => ?_) (fun _ _ _ _ _ => ?_) (fun _ _ _ _ _ => ?_)
                            · refine ji_seq ?_
                              exact je_var 4
                            · exact tg_name sc_loses.nd rfl (by first | exact Or.inl rfl | exact Or.inr rfl)
                            · exact jts_nil
                            · refine je_ix (by exact hr.units) ?_ ?_
                              · exact je_var 1
                              · exact je_var 6
                          · exact jl_nil
                        · exact je_var 1
                        · exact je_var 3
          · refine jss_one ?_
            refine js_ret ?_
            refine je_ix (by exact hr.units) ?_ ?_
            · exact je_var 1
            · refine jcT jc_tuple (by rfl) T.m_tuple PyProof.Rows.boot_tuple ?_
              refine jlc ?_ ?_
              · exact je_var 0
              · exact jl_nil
theorem okgood_bites (T : Tx K mg of) : FnOk P w K mg base (L2.CX P w) 4 T.agood_bites T.fdgood_bites ["rows"] (spJ (Ct0 P w K of) 1 Wgood_bites) :=
  fn_ok (k := 3) (body := bgood_bites) T.dgood_bites.F sc_good_bites fun cdv A outer s H E cl xd ho hr tk => by
    refine jss_one ?_
    refine js_ret ?_
    refine je_lc rfl sc_good_bites.nd ?_
    refine LcOk.mk ?_ (by first | exact blkOk_by (N := [ "rows" , "left" ]) (sc := defScope sgood_bites) (by decide +kernel) | exact blkOk_by (by rfl)) (by decide) (fun _ _ _ _ _ => ?_) (fun _ _ _ _ _ => ?_) (fun _ _ _ _ _ => ?_)
    · refine ji_seq ?_
      refine jfn ho T.dbites (okbites T) (by exact hr) (by decide) (by rfl) (by exact tk) ?_
      refine jlc ?_ ?_
      · exact je_var 0
      · exact jl_nil
    · exact tg_name sc_good_bites.nd rfl (by first | exact Or.inl rfl | exact Or.inr rfl)
    · refine jts_one ?_
      refine jt_val ?_
      refine jfn ho T.dloses (okloses T) (by exact hr) (by decide) (by rfl) (by exact tk0) ?_
      refine jlc ?_ ?_
      · exact je_var 1
      · exact jl_nil
    · exact je_var 1
theorem okmirrored (T : Tx K mg of) : FnOk P w K mg base (L2.CX P w) 2 T.amirrored T.fdmirrored ["rows"] (spJ (Ct0 P w K of) 1 Wmirrored) :=
  fn_ok (k := 1) (body := bmirrored) T.dmirrored.F sc_mirrored fun cdv A outer s H E cl xd ho hr tk => by
    refine jss_cons ?_ ?_
    · refine js_expr ?_
      refine jfn ho T.dneed_bar (okneed_bar T) (by exact hr) (by decide) (by rfl) (by exact tk) ?_
      refine jlc ?_ ?_
      · exact je_var 0
      · exact jl_nil
    · refine jss_one ?_
      refine js_ret ?_
      refine jcT jc_tuple (by rfl) T.m_tuple PyProof.Rows.boot_tuple ?_
      refine jlc ?_ ?_
      · refine je_lc rfl sc_mirrored.nd ?_
        refine LcOk.mk ?_ (by first | exact blkOk_by (N := [ "rows" , "column" , "length" ]) (sc := defScope smirrored) (by decide +kernel) | exact blkOk_by (by rfl)) (by decide) (fun _ _ _ _ _ => ?_) (fun _ _ _ _ _ => ?_) (fun _ _ _ _ _ => ?_)
        · refine jrng1 (by rfl) T.m_range ?_
          refine jlc ?_ ?_
          · refine je_ix (by exact hr.units) ?_ ?_
            · exact je_var 0
            · exact je_int
          · exact jl_nil
        · exact tg_name sc_mirrored.nd rfl (by first | exact Or.inl rfl | exact Or.inr rfl)
        · exact jts_nil
        · refine jcB jc_len (by rfl) T.m_len PySem.boot_len ?_
          refine jlc ?_ ?_
          · refine je_lc rfl sc_mirrored.nd ?_
            refine LcOk.mk ?_ (by first | exact blkOk_by (N := [ "rows" , "column" , "length" ]) (sc := defScope smirrored) (by decide +kernel) | exact blkOk_by (by rfl)) (by decide) (fun _ _ _ _ _ => ?_) (fun _ _ _ _ _ => ?_) (fun _ _ _ _ _ => ?_)
            · refine ji_seq ?_
              exact je_var 0
            · exact tg_name sc_mirrored.nd rfl (by first | exact Or.inl rfl | exact Or.inr rfl)
            · refine jts_one ?_
              refine jt_cmp jo_gt ?_ ?_
              · exact je_var 2
              · exact je_var 1
            · exact je_int
          · exact jl_nil
      · exact jl_nil
theorem oksquare_answer (T : Tx K mg of) : FnOk P w K mg base (L2.CX P w) 2 T.asquare_answer T.fdsquare_answer ["rows"] (spJ (Ct0 P w K of) 1 Wsquare_answer) :=
  fn_ok (k := 1) (body := bsquare_answer) T.dsquare_answer.F sc_square_answer fun cdv A outer s H E cl xd ho hr tk => by
    refine jss_cons ?_ ?_
    · refine js_expr ?_
      refine jfn ho T.dneed_bar (okneed_bar T) (by exact hr) (by decide) (by rfl) (by exact tk) ?_
      refine jlc ?_ ?_
      · exact je_var 0
      · exact jl_nil
    · refine jss_cons ?_ ?_
      · refine js_if ?_ ?_ ?_
        · refine jw_pt ?_
          refine jw_or ?_ ?_
          · refine jt_cmp jo_lt ?_ ?_
            · refine jcB jc_len (by rfl) T.m_len PySem.boot_len ?_
              refine jlc ?_ ?_
              · exact je_var 0
              · exact jl_nil
            · exact je_int
          · refine jw_or1 ?_
            refine jt_val ?_
            refine jcB (jc_any rfl) (by rfl) T.m_any PyProof.Rows.boot_any ?_
            refine jlc ?_ ?_
            · refine je_lc rfl sc_square_answer.nd ?_
              refine LcOk.mk ?_ (by first | exact blkOk_by (N := [ "rows" , "length" ]) (sc := defScope ssquare_answer) (by decide +kernel) | exact blkOk_by (by rfl)) (by decide) (fun _ _ _ _ _ => ?_) (fun _ _ _ _ _ => ?_) (fun _ _ _ _ _ => ?_)
              · refine ji_seq ?_
                exact je_var 0
              · exact tg_name sc_square_answer.nd rfl (by first | exact Or.inl rfl | exact Or.inr rfl)
              · exact jts_nil
              · refine je_cmp (jo_ne (by exact hr.units)) ?_ ?_
                · exact je_var 1
                · refine jcB jc_len (by rfl) T.m_len PySem.boot_len ?_
                  refine jlc ?_ ?_
                  · exact je_var 0
                  · exact jl_nil
            · exact jl_nil
        · refine jss_one ?_
          refine js_ret ?_
          exact je_non
        · exact jss_nil
      · refine jss_one ?_
        refine js_ret ?_
        refine je_op jo_add ?_ ?_
        · refine je_tup ?_
          refine jlc ?_ ?_
          · refine jcB jc_len (by rfl) T.m_len PySem.boot_len ?_
            refine jlc ?_ ?_
            · exact je_var 0
            · exact jl_nil
          · exact jl_nil
        · refine je_op jo_mulT ?_ ?_
          · refine je_tup ?_
            refine jlc ?_ ?_
            · exact je_int
            · exact jl_nil
          · refine je_op jo_sub ?_ ?_
            · refine jcB jc_len (by rfl) T.m_len PySem.boot_len ?_
              refine jlc ?_ ?_
              · exact je_var 0
              · exact jl_nil
            · exact je_int
theorem oklaw (T : Tx K mg of) : FnOk P w K mg base (L2.CX P w) 42 T.alaw T.fdlaw ["script"] (spJ (Ct0 P w K of) 1 Wlaw) :=
  fn_ok (k := 41) (body := blaw) T.dlaw.F sc_law fun cdv A outer s H E cl xd ho hr tk => by
    refine jss_cons ?_ ?_
    · refine js_set sc_law.nd rfl (by first | exact Or.inl rfl | exact Or.inr rfl) ?_
      refine jfn ho T.d_law_pool (ok_law_pool T) (by exact hr) (by decide) (by rfl) (by exact tk) ?_
      refine jlc ?_ ?_
      · exact je_var 0
      · exact jl_nil
    · refine jss_cons ?_ ?_
      · refine js_par rfl sc_law.nd rfl rfl (by decide) rfl rfl ?_ (by rfl)
        refine jlc ?_ ?_
        · refine je_lstM ?_
          exact jl_nil
        · refine jlc ?_ ?_
          · exact je_int
          · exact jl_nil
      · refine jss_cons ?_ ?_
        · refine js_for (passes_of rfl) rfl ?_ ?_ ?_
          · refine jrng1 (by rfl) T.m_range ?_
            refine jlc ?_ ?_
            · refine je_op jo_add ?_ ?_
              · exact je_int
              · refine jfn ho T.d_law_draw (ok_law_draw T) (by exact hr) (by decide) (by rfl) (by exact tk) ?_
                refine jlc ?_ ?_
                · exact je_var 1
                · refine jlc ?_ ?_
                  · exact je_int
                  · exact jl_nil
            · exact jl_nil
          · exact tg_name sc_law.nd rfl (by first | exact Or.inl rfl | exact Or.inr rfl)
          · refine jss_cons ?_ ?_
            · refine js_set sc_law.nd rfl (by first | exact Or.inl rfl | exact Or.inr rfl) ?_
              refine je_op jo_add ?_ ?_
              · exact je_int
              · refine jfn ho T.d_law_draw (ok_law_draw T) (by exact hr) (by decide) (by rfl) (by exact tk) ?_
                refine jlc ?_ ?_
                · exact je_var 1
                · refine jlc ?_ ?_
                  · exact je_var 15
                  · exact jl_nil
            · refine jss_one ?_
              refine js_expr ?_
              refine jlm PySem.F.slot_list_append PySem.F.type_list_append jm_append ?_ ?_
              · exact je_var 3
              · refine jlc ?_ ?_
                · exact je_var 15
                · exact jl_nil
        · refine jss_cons ?_ ?_
          · refine js_set sc_law.nd rfl (by first | exact Or.inl rfl | exact Or.inr rfl) ?_
            refine jcT jc_tuple (by rfl) T.m_tuple PyProof.Rows.boot_tuple ?_
            refine jlc ?_ ?_
            · exact je_var 3
            · exact jl_nil
          · refine jss_cons ?_ ?_
            · refine js_set sc_law.nd rfl (by first | exact Or.inl rfl | exact Or.inr rfl) ?_
              exact je_dcT
            · refine jss_cons ?_ ?_
              · refine js_set sc_law.nd rfl (by first | exact Or.inl rfl | exact Or.inr rfl) ?_
                refine jfn ho T.d_law_bites (ok_law_bites T) (by exact hr) (by decide) (by rfl) (by exact tk) ?_
                refine jlc ?_ ?_
                · exact je_var 3
                · exact jl_nil
              · refine jss_cons ?_ ?_
                · first | refine js_setLc rfl sc_law.nd rfl rfl rfl ?_ | refine js_set sc_law.nd rfl (by first | exact Or.inl rfl | exact Or.inr rfl) (je_lc rfl sc_law.nd ?_)
                  refine LcOk.mk ?_ (by first | exact blkOk_by (N := [ "script" , "pool" , "k" , "rows" , "known" , "bites_told" , "good" , "turned" , "n" , "low" , "high" , "bar" , "far" , "refused" , "wrong" , "most" , "one" ]) (sc := defScope slaw) (by decide +kernel) | exact blkOk_by (by rfl)) (by decide) (fun _ _ _ _ _ => ?_) (fun _ _ _ _ _ => ?_) (fun _ _ _ _ _ => ?_)
                  · refine ji_seq ?_
                    exact je_var 5
                  · exact tg_name sc_law.nd rfl (by first | exact Or.inl rfl | exact Or.inr rfl)
                  · refine jts_one ?_
                    refine jt_val ?_
                    refine jfn ho T.d_law_lost (ok_law_lost T 40) (by exact hr) (by decide) (by rfl) (by exact tk0) ?_
                    refine jlc ?_ ?_
                    · exact je_var 16
                    · refine jlc ?_ ?_
                      · exact je_var 4
                      · exact jl_nil
                  · exact je_var 16
                · refine jss_cons ?_ ?_
                  · refine js_if ?_ ?_ ?_
                    · refine jt_not ?_
                      refine jt_val ?_
                      refine jfn ho T.d_law_same (ok_law_same T 8) (by exact hr) (by decide) (by rfl) (by exact tk) ?_
                      refine jlc ?_ ?_
                      · refine je_lst ?_
                        refine jlc ?_ ?_
                        · refine jfn ho T.dbites (okbites T) (by exact hr) (by decide) (by rfl) (by exact tk) ?_
                          refine jlc ?_ ?_
                          · exact je_var 3
                          · exact jl_nil
                        · refine jlc ?_ ?_
                          · refine jfn ho T.dloses (okloses T) (by exact hr) (by decide) (by rfl) (by exact tk) ?_
                            refine jlc ?_ ?_
                            · exact je_var 3
                            · exact jl_nil
                          · refine jlc ?_ ?_
                            · refine jfn ho T.dgood_bites (okgood_bites T) (by exact hr) (by decide) (by rfl) (by exact tk) ?_
                              refine jlc ?_ ?_
                              · exact je_var 3
                              · exact jl_nil
                            · exact jl_nil
                      · refine jlc ?_ ?_
                        · refine je_lst ?_
                          refine jlc ?_ ?_
                          · exact je_var 5
                          · refine jlc ?_ ?_
                            · refine je_cmp (jo_eq (by exact hr.units)) ?_ ?_
                              · exact je_var 6
                              · refine je_lst ?_
                                exact jl_nil
                            · refine jlc ?_ ?_
                              · exact je_var 6
                              · exact jl_nil
                        · exact jl_nil
                    · refine jss_one ?_
                      refine js_ret ?_
                      exact je_bl
                    · exact jss_nil
                  · refine jss_cons ?_ ?_
                    · refine js_set sc_law.nd rfl (by first | exact Or.inl rfl | exact Or.inr rfl) ?_
                      refine jfn ho T.d_law_turned (ok_law_turned T) (by exact hr) (by decide) (by rfl) (by exact tk) ?_
                      refine jlc ?_ ?_
                      · exact je_var 3
                      · exact jl_nil
                    · refine jss_cons ?_ ?_
                      · refine js_if ?_ ?_ ?_
                        · refine jt_not ?_
                          refine jt_val ?_
                          refine jfn ho T.d_law_same (ok_law_same T 8) (by exact hr) (by decide) (by rfl) (by exact tk) ?_
                          refine jlc ?_ ?_
                          · refine je_lst ?_
                            refine jlc ?_ ?_
                            · refine jfn ho T.dmirrored (okmirrored T) (by exact hr) (by decide) (by rfl) (by exact tk) ?_
                              refine jlc ?_ ?_
                              · exact je_var 3
                              · exact jl_nil
                            · refine jlc ?_ ?_
                              · refine jfn ho T.dmirrored (okmirrored T) (by exact hr) (by decide) (by rfl) (by exact tk) ?_
                                refine jlc ?_ ?_
                                · exact je_var 7
                                · exact jl_nil
                              · refine jlc ?_ ?_
                                · refine jfn ho T.dloses (okloses T) (by exact hr) (by decide) (by rfl) (by exact tk) ?_
                                  refine jlc ?_ ?_
                                  · exact je_var 7
                                  · exact jl_nil
                                · exact jl_nil
                          · refine jlc ?_ ?_
                            · refine je_lst ?_
                              refine jlc ?_ ?_
                              · exact je_var 7
                              · refine jlc ?_ ?_
                                · exact je_var 3
                                · refine jlc ?_ ?_
                                  · refine je_cmp (jo_eq (by exact hr.units)) ?_ ?_
                                    · exact je_var 6
                                    · refine je_lst ?_
                                      exact jl_nil
                                  · exact jl_nil
                            · exact jl_nil
                        · refine jss_one ?_
                          refine js_ret ?_
                          exact je_bl
                        · exact jss_nil
                      · refine jss_cons ?_ ?_
                        · refine js_if ?_ ?_ ?_
                          · refine jw_pt ?_
                            refine jw_and ?_ ?_
                            · refine jt_cmp (jo_eq (by exact hr.units)) ?_ ?_
                              · exact je_var 6
                              · refine je_lst ?_
                                exact jl_nil
                            · refine jw_and ?_ ?_
                              · refine jt_cmp (jo_ne (by exact hr.units)) ?_ ?_
                                · exact je_var 3
                                · refine je_tup ?_
                                  refine jlc ?_ ?_
                                  · exact je_int
                                  · exact jl_nil
                              · refine jw_and1 ?_
                                refine jw_pt ?_
                                refine jw_or ?_ ?_
                                · refine jt_cmp (jo_eq (by exact hr.units)) ?_ ?_
                                  · refine jcB jc_len (by rfl) T.m_len PySem.boot_len ?_
                                    refine jlc ?_ ?_
                                    · exact je_var 3
                                    · exact jl_nil
                                  · exact je_int
                                · refine jw_or1 ?_
                                  refine jt_cmp (jo_eq (by exact hr.units)) ?_ ?_
                                  · exact je_var 7
                                  · refine je_op jo_mulT ?_ ?_
                                    · refine je_tup ?_
                                      refine jlc ?_ ?_
                                      · exact je_int
                                      · exact jl_nil
                                    · refine je_ix (by exact hr.units) ?_ ?_
                                      · exact je_var 3
                                      · exact je_int
                          · refine jss_one ?_
                            refine js_ret ?_
                            exact je_bl
                          · exact jss_nil
                        · refine jss_cons ?_ ?_
                          · refine js_set sc_law.nd rfl (by first | exact Or.inl rfl | exact Or.inr rfl) ?_
                            refine je_op jo_add ?_ ?_
                            · exact je_int
                            · refine jfn ho T.d_law_draw (ok_law_draw T) (by exact hr) (by decide) (by rfl) (by exact tk) ?_
                              refine jlc ?_ ?_
                              · exact je_var 1
                              · refine jlc ?_ ?_
                                · exact je_int
                                · exact jl_nil
                          · refine jss_cons ?_ ?_
                            · refine js_if ?_ ?_ ?_
                              · refine jw_pt ?_
                                refine jw_or ?_ ?_
                                · refine jt_not ?_
                                  refine jt_val ?_
                                  refine jfn ho T.d_law_same (ok_law_same T 8) (by exact hr) (by decide) (by rfl) (by exact tk) ?_
                                  refine jlc ?_ ?_
                                  · refine jfn ho T.dsquare_answer (oksquare_answer T) (by exact hr) (by decide) (by rfl) (by exact tk) ?_
                                    refine jlc ?_ ?_
                                    · refine je_op jo_mulT ?_ ?_
                                      · refine je_tup ?_
                                        refine jlc ?_ ?_
                                        · exact je_var 8
                                        · exact jl_nil
                                      · exact je_var 8
                                    · exact jl_nil
                                  · refine jlc ?_ ?_
                                    · refine je_op jo_add ?_ ?_
                                      · refine je_tup ?_
                                        refine jlc ?_ ?_
                                        · exact je_var 8
                                        · exact jl_nil
                                      · refine je_op jo_mulT ?_ ?_
                                        · refine je_tup ?_
                                          refine jlc ?_ ?_
                                          · exact je_int
                                          · exact jl_nil
                                        · refine je_op jo_sub ?_ ?_
                                          · exact je_var 8
                                          · exact je_int
                                    · exact jl_nil
                                · refine jw_or1 ?_
                                  refine jw_pt ?_
                                  refine jw_and ?_ ?_
                                  · refine jt_cmp jo_gt ?_ ?_
                                    · refine jlSet rfl (by rfl) T.m_len (by rfl) T.m_set ?_
                                      refine je_op jo_add ?_ ?_
                                      · exact je_var 3
                                      · refine je_tup ?_
                                        refine jlc ?_ ?_
                                        · refine jcB jc_len (by rfl) T.m_len PySem.boot_len ?_
                                          refine jlc ?_ ?_
                                          · exact je_var 3
                                          · exact jl_nil
                                        · exact jl_nil
                                    · exact je_int
                                  · refine jw_and1 ?_
                                    refine jt_cmp jo_isNot ?_ ?_
                                    · refine jfn ho T.dsquare_answer (oksquare_answer T) (by exact hr) (by decide) (by rfl) (by exact tk) ?_
                                      refine jlc ?_ ?_
                                      · exact je_var 3
                                      · exact jl_nil
                                    · exact je_non
                              · refine jss_one ?_
                                refine js_ret ?_
                                exact je_bl
                              · exact jss_nil
                            · refine jss_cons ?_ ?_
                              · refine js_if ?_ ?_ ?_
                                · refine jt_not ?_
                                  refine jt_val ?_
                                  refine jfn ho T.d_law_lost (ok_law_lost T 40) (by exact hr) (by decide) (by rfl) (by exact tk) ?_
                                  refine jlc ?_ ?_
                                  · refine je_op jo_add ?_ ?_
                                    · refine je_tup ?_
                                      refine jlc ?_ ?_
                                      · exact je_var 8
                                      · exact jl_nil
                                    · refine je_op jo_mulT ?_ ?_
                                      · refine je_tup ?_
                                        refine jlc ?_ ?_
                                        · exact je_int
                                        · exact jl_nil
                                      · refine je_op jo_sub ?_ ?_
                                        · exact je_var 8
                                        · exact je_int
                                  · refine jlc ?_ ?_
                                    · exact je_var 4
                                    · exact jl_nil
                                · refine jss_one ?_
                                  refine js_ret ?_
                                  exact je_bl
                                · exact jss_nil
                              · refine jss_cons ?_ ?_
                                · refine js_expr ?_
                                  refine jfn ho T.d_law_next (ok_law_next T) (by exact hr) (by decide) (by rfl) (by exact tk) ?_
                                  refine jlc ?_ ?_
                                  · exact je_var 1
                                  · exact jl_nil
                                · refine jss_cons ?_ ?_
                                  · refine js_set sc_law.nd rfl (by first | exact Or.inl rfl | exact Or.inr rfl) ?_
                                    refine je_op jo_add ?_ ?_
                                    · exact je_int
                                    · refine jfn ho T.d_law_draw (ok_law_draw T) (by exact hr) (by decide) (by rfl) (by exact tk) ?_
                                      refine jlc ?_ ?_
                                      · exact je_var 1
                                      · refine jlc ?_ ?_
                                        · exact je_int
                                        · exact jl_nil
                                  · refine jss_cons ?_ ?_
                                    · refine js_set sc_law.nd rfl (by first | exact Or.inl rfl | exact Or.inr rfl) ?_
                                      refine jfn ho T.d_law_draw (ok_law_draw T) (by exact hr) (by decide) (by rfl) (by exact tk) ?_
                                      refine jlc ?_ ?_
                                      · exact je_var 1
                                      · refine jlc ?_ ?_
                                        · refine je_op jo_add ?_ ?_
                                          · exact je_var 9
                                          · exact je_int
                                        · exact jl_nil
                                    · refine jss_cons ?_ ?_
                                      · refine js_set sc_law.nd rfl (by first | exact Or.inl rfl | exact Or.inr rfl) ?_
                                        refine je_if ?_ ?_ ?_
                                        · refine jt_cmp jo_gt ?_ ?_
                                          · exact je_var 10
                                          · exact je_int
                                        · refine je_tup ?_
                                          refine jlc ?_ ?_
                                          · exact je_var 9
                                          · refine jlc ?_ ?_
                                            · exact je_var 10
                                            · exact jl_nil
                                        · refine je_tup ?_
                                          refine jlc ?_ ?_
                                          · exact je_var 9
                                          · exact jl_nil
                                      · refine jss_cons ?_ ?_
                                        · refine js_if ?_ ?_ ?_
                                          · refine jt_not ?_
                                            refine jt_val ?_
                                            refine jfn ho T.d_law_same (ok_law_same T 8) (by exact hr) (by decide) (by rfl) (by exact tk) ?_
                                            refine jlc ?_ ?_
                                            · refine jfn ho T.dtwo_rows_lose (oktwo_rows_lose T) (by exact hr) (by decide) (by rfl) (by exact tk) ?_
                                              refine jlc ?_ ?_
                                              · exact je_var 9
                                              · refine jlc ?_ ?_
                                                · exact je_var 10
                                                · exact jl_nil
                                            · refine jlc ?_ ?_
                                              · refine jfn ho T.d_law_lost (ok_law_lost T 40) (by exact hr) (by decide) (by rfl) (by exact tk) ?_
                                                refine jlc ?_ ?_
                                                · exact je_var 11
                                                · refine jlc ?_ ?_
                                                  · exact je_var 4
                                                  · exact jl_nil
                                              · exact jl_nil
                                          · refine jss_one ?_
                                            refine js_ret ?_
                                            exact je_bl
                                          · exact jss_nil
                                        · refine jss_cons ?_ ?_
                                          · refine js_set sc_law.nd rfl (by first | exact Or.inl rfl | exact Or.inr rfl) ?_
                                            refine je_op jo_add ?_ ?_
                                            · exact je_int
                                            · refine jfn ho T.d_law_draw (ok_law_draw T) (by exact hr) (by decide) (by rfl) (by exact tk) ?_
                                              refine jlc ?_ ?_
                                              · exact je_var 1
                                              · refine jlc ?_ ?_
                                                · refine je_op jo_pow ?_ ?_
                                                  · exact je_int
                                                  · exact je_int
                                                · exact jl_nil
                                          · refine jss_cons ?_ ?_
                                            · refine js_if ?_ ?_ ?_
                                              · refine jt_not ?_
                                                refine jt_val ?_
                                                refine jfn ho T.d_law_same (ok_law_same T 8) (by exact hr) (by decide) (by rfl) (by exact tk) ?_
                                                refine jlc ?_ ?_
                                                · refine je_lst ?_
                                                  refine jlc ?_ ?_
                                                  · refine jfn ho T.dtwo_rows_lose (oktwo_rows_lose T) (by exact hr) (by decide) (by rfl) (by exact tk) ?_
                                                    refine jlc ?_ ?_
                                                    · refine je_op jo_add ?_ ?_
                                                      · exact je_var 12
                                                      · exact je_int
                                                    · refine jlc ?_ ?_
                                                      · exact je_var 12
                                                      · exact jl_nil
                                                  · refine jlc ?_ ?_
                                                    · refine jfn ho T.dtwo_rows_lose (oktwo_rows_lose T) (by exact hr) (by decide) (by rfl) (by exact tk) ?_
                                                      refine jlc ?_ ?_
                                                      · refine je_op jo_add ?_ ?_
                                                        · exact je_var 12
                                                        · exact je_int
                                                      · refine jlc ?_ ?_
                                                        · refine je_op jo_add ?_ ?_
                                                          · exact je_var 12
                                                          · exact je_int
                                                        · exact jl_nil
                                                    · refine jlc ?_ ?_
                                                      · refine jfn ho T.dtwo_rows_lose (oktwo_rows_lose T) (by exact hr) (by decide) (by rfl) (by exact tk) ?_
                                                        refine jlc ?_ ?_
                                                        · refine je_op jo_add ?_ ?_
                                                          · exact je_var 12
                                                          · exact je_int
                                                        · refine jlc ?_ ?_
                                                          · exact je_var 12
                                                          · exact jl_nil
                                                      · exact jl_nil
                                                · refine jlc ?_ ?_
                                                  · refine je_lst ?_
                                                    refine jlc ?_ ?_
                                                    · exact je_bl
                                                    · refine jlc ?_ ?_
                                                      · exact je_bl
                                                      · refine jlc ?_ ?_
                                                        · exact je_bl
                                                        · exact jl_nil
                                                  · exact jl_nil
                                              · refine jss_one ?_
                                                refine js_ret ?_
                                                exact je_bl
                                              · exact jss_nil
                                            · refine jss_cons ?_ ?_
                                              · refine js_set sc_law.nd rfl (by first | exact Or.inl rfl | exact Or.inr rfl) ?_
                                                exact je_int
                                              · refine jss_cons ?_ ?_
                                                · refine js_for (passes_of rfl) rfl ?_ ?_ ?_
                                                  · refine ji_seq ?_
                                                    refine je_lst ?_
                                                    refine jlc ?_ ?_
                                                    · refine je_tup ?_
                                                      exact jl_nil
                                                    · refine jlc ?_ ?_
                                                      · refine je_tup ?_
                                                        refine jlc ?_ ?_
                                                        · exact je_int
                                                        · refine jlc ?_ ?_
                                                          · exact je_int
                                                          · exact jl_nil
                                                      · refine jlc ?_ ?_
                                                        · refine je_tup ?_
                                                          refine jlc ?_ ?_
                                                          · exact je_int
                                                          · exact jl_nil
                                                        · refine jlc ?_ ?_
                                                          · refine je_op jo_mulT ?_ ?_
                                                            · refine je_tup ?_
                                                              refine jlc ?_ ?_
                                                              · exact je_int
                                                              · exact jl_nil
                                                            · exact je_int
                                                          · exact jl_nil
                                                  · exact tg_name sc_law.nd rfl (by first | exact Or.inl rfl | exact Or.inr rfl)
                                                  · refine jss_one ?_
                                                    refine js_tryD ho rfl rfl (by rfl) T.e_BadPosition.g tk T.x_BadPosition (fun pn xe cl' xd ho' po' tk' => ?_) (fun _ _ _ => ?_)
                                                    · refine jss_one ?_
                                                      refine js_expr ?_
                                                      refine jfn ho' T.dloses (okloses T) (by exact hr) (by decide) (by rfl) (by exact tk') ?_
                                                      refine jlc ?_ ?_
                                                      · exact je_var 14
                                                      · exact jl_nil
                                                    · refine jss_one ?_
                                                      refine js_set sc_law.nd rfl (by first | exact Or.inl rfl | exact Or.inr rfl) ?_
                                                      refine je_op jo_add ?_ ?_
                                                      · exact je_var 13
                                                      · exact je_int
                                                · refine jss_one ?_
                                                  refine js_ret ?_
                                                  refine je_cmp (jo_eq (by exact hr.units)) ?_ ?_
                                                  · exact je_var 13
                                                  · exact je_int
end
end Lw
set_option Elab.async false
set_option linter.all false
set_option maxRecDepth 100000
set_option maxHeartbeats 4000000
namespace Lw
open PySem PySem.Spec L2 J
theorem all_mk {P : Program} {w : World} {K : PySem.W.Frag} {h : Heap} {mg : Str → Option Value} {fa : Addr} (X : K.In h) (G : h.Ns mainGlobals mg) (hfa : mg "law" = some (.ref fa))
    {f0 : Addr} {od0 an0 : Option Addr} {sl0 : Array (Option Value)} {oc0 kV0 dc0 pm0 cd0 ct0 : Value} {f1 : Addr} {od1 an1 : Option Addr} {sl1 : Array (Option Value)} {oc1 kV1 dc1 pm1 cd1 ct1 : Value} {f2 : Addr} {od2 an2 : Option Addr} {sl2 : Array (Option Value)} {oc2 kV2 dc2 pm2 cd2 ct2 : Value} {f3 : Addr} {od3 an3 : Option Addr} {sl3 : Array (Option Value)} {oc3 kV3 dc3 pm3 cd3 ct3 : Value} {f4 : Addr} {od4 an4 : Option Addr} {sl4 : Array (Option Value)} {oc4 kV4 dc4 pm4 cd4 ct4 : Value} {f5 : Addr} {od5 an5 : Option Addr} {sl5 : Array (Option Value)} {oc5 kV5 dc5 pm5 cd5 ct5 : Value} {f6 : Addr} {od6 an6 : Option Addr} {sl6 : Array (Option Value)} {oc6 kV6 dc6 pm6 cd6 ct6 : Value} {f7 : Addr} {od7 an7 : Option Addr} {sl7 : Array (Option Value)} {oc7 kV7 dc7 pm7 cd7 ct7 : Value} {f8 : Addr} {od8 an8 : Option Addr} {sl8 : Array (Option Value)} {oc8 kV8 dc8 pm8 cd8 ct8 : Value} {f9 : Addr} {od9 an9 : Option Addr} {sl9 : Array (Option Value)} {oc9 kV9 dc9 pm9 cd9 ct9 : Value} {f10 : Addr} {od10 an10 : Option Addr} {sl10 : Array (Option Value)} {oc10 kV10 dc10 pm10 cd10 ct10 : Value} {f11 : Addr} {od11 an11 : Option Addr} {sl11 : Array (Option Value)} {oc11 kV11 dc11 pm11 cd11 ct11 : Value} {f12 : Addr} {od12 an12 : Option Addr} {sl12 : Array (Option Value)} {oc12 kV12 dc12 pm12 cd12 ct12 : Value} {f13 : Addr} {od13 an13 : Option Addr} {sl13 : Array (Option Value)} {oc13 kV13 dc13 pm13 cd13 ct13 : Value} {f14 : Addr} {od14 an14 : Option Addr} {sl14 : Array (Option Value)} {oc14 kV14 dc14 pm14 cd14 ct14 : Value} {f15 : Addr} {od15 an15 : Option Addr} {sl15 : Array (Option Value)} {oc15 kV15 dc15 pm15 cd15 ct15 : Value} {f16 : Addr} {od16 an16 : Option Addr} {sl16 : Array (Option Value)} {oc16 kV16 dc16 pm16 cd16 ct16 : Value} {t_ROWS_MOST : Tok} {t_SQUARES_MOST : Tok} {C_BadPosition : Addr}
    (a0 : PySem.W.nsIn K mainGlobals "_law_mixed" = some (some (.ref f0))) (l0 : K.lookup f0 = some ⟨oc0, od0, .func (PySem.W.fnOf "_law_mixed" "_law_mixed" (defArgs s_law_mixed) (defBody s_law_mixed) (defScope s_law_mixed) .none kV0 dc0 pm0 an0 cd0 ct0), sl0⟩) (c0 : PySem.W.codeIn K cd0 "_law_mixed" = true) (k0 : PySem.W.keepIn K (.ref f0) = true)
    (a1 : PySem.W.nsIn K mainGlobals "_law_rest" = some (some (.ref f1))) (l1 : K.lookup f1 = some ⟨oc1, od1, .func (PySem.W.fnOf "_law_rest" "_law_rest" (defArgs s_law_rest) (defBody s_law_rest) (defScope s_law_rest) .none kV1 dc1 pm1 an1 cd1 ct1), sl1⟩) (c1 : PySem.W.codeIn K cd1 "_law_rest" = true) (k1 : PySem.W.keepIn K (.ref f1) = true)
    (a2 : PySem.W.nsIn K mainGlobals "_law_pool" = some (some (.ref f2))) (l2 : K.lookup f2 = some ⟨oc2, od2, .func (PySem.W.fnOf "_law_pool" "_law_pool" (defArgs s_law_pool) (defBody s_law_pool) (defScope s_law_pool) .none kV2 dc2 pm2 an2 cd2 ct2), sl2⟩) (c2 : PySem.W.codeIn K cd2 "_law_pool" = true) (k2 : PySem.W.keepIn K (.ref f2) = true)
    (a3 : PySem.W.nsIn K mainGlobals "_law_bites" = some (some (.ref f3))) (l3 : K.lookup f3 = some ⟨oc3, od3, .func (PySem.W.fnOf "_law_bites" "_law_bites" (defArgs s_law_bites) (defBody s_law_bites) (defScope s_law_bites) .none kV3 dc3 pm3 an3 cd3 ct3), sl3⟩) (c3 : PySem.W.codeIn K cd3 "_law_bites" = true) (k3 : PySem.W.keepIn K (.ref f3) = true)
    (a4 : PySem.W.nsIn K mainGlobals "_law_turned" = some (some (.ref f4))) (l4 : K.lookup f4 = some ⟨oc4, od4, .func (PySem.W.fnOf "_law_turned" "_law_turned" (defArgs s_law_turned) (defBody s_law_turned) (defScope s_law_turned) .none kV4 dc4 pm4 an4 cd4 ct4), sl4⟩) (c4 : PySem.W.codeIn K cd4 "_law_turned" = true) (k4 : PySem.W.keepIn K (.ref f4) = true)
    (a5 : PySem.W.nsIn K mainGlobals "_law_next" = some (some (.ref f5))) (l5 : K.lookup f5 = some ⟨oc5, od5, .func (PySem.W.fnOf "_law_next" "_law_next" (defArgs s_law_next) (defBody s_law_next) (defScope s_law_next) .none kV5 dc5 pm5 an5 cd5 ct5), sl5⟩) (c5 : PySem.W.codeIn K cd5 "_law_next" = true) (k5 : PySem.W.keepIn K (.ref f5) = true)
    (a6 : PySem.W.nsIn K mainGlobals "_law_draw" = some (some (.ref f6))) (l6 : K.lookup f6 = some ⟨oc6, od6, .func (PySem.W.fnOf "_law_draw" "_law_draw" (defArgs s_law_draw) (defBody s_law_draw) (defScope s_law_draw) .none kV6 dc6 pm6 an6 cd6 ct6), sl6⟩) (c6 : PySem.W.codeIn K cd6 "_law_draw" = true) (k6 : PySem.W.keepIn K (.ref f6) = true)
    (a7 : PySem.W.nsIn K mainGlobals "_law_same" = some (some (.ref f7))) (l7 : K.lookup f7 = some ⟨oc7, od7, .func (PySem.W.fnOf "_law_same" "_law_same" (defArgs s_law_same) (defBody s_law_same) (defScope s_law_same) .none kV7 dc7 pm7 an7 cd7 ct7), sl7⟩) (c7 : PySem.W.codeIn K cd7 "_law_same" = true) (k7 : PySem.W.keepIn K (.ref f7) = true)
    (a8 : PySem.W.nsIn K mainGlobals "_law_lost" = some (some (.ref f8))) (l8 : K.lookup f8 = some ⟨oc8, od8, .func (PySem.W.fnOf "_law_lost" "_law_lost" (defArgs s_law_lost) (defBody s_law_lost) (defScope s_law_lost) .none kV8 dc8 pm8 an8 cd8 ct8), sl8⟩) (c8 : PySem.W.codeIn K cd8 "_law_lost" = true) (k8 : PySem.W.keepIn K (.ref f8) = true)
    (a9 : PySem.W.nsIn K mainGlobals "two_rows_lose" = some (some (.ref f9))) (l9 : K.lookup f9 = some ⟨oc9, od9, .func (PySem.W.fnOf "two_rows_lose" "two_rows_lose" (defArgs stwo_rows_lose) (defBody stwo_rows_lose) (defScope stwo_rows_lose) .none kV9 dc9 pm9 an9 cd9 ct9), sl9⟩) (c9 : PySem.W.codeIn K cd9 "two_rows_lose" = true) (k9 : PySem.W.keepIn K (.ref f9) = true)
    (a10 : PySem.W.nsIn K mainGlobals "need_bar" = some (some (.ref f10))) (l10 : K.lookup f10 = some ⟨oc10, od10, .func (PySem.W.fnOf "need_bar" "need_bar" (defArgs sneed_bar) (defBody sneed_bar) (defScope sneed_bar) .none kV10 dc10 pm10 an10 cd10 ct10), sl10⟩) (c10 : PySem.W.codeIn K cd10 "need_bar" = true) (k10 : PySem.W.keepIn K (.ref f10) = true)
    (a11 : PySem.W.nsIn K mainGlobals "bites" = some (some (.ref f11))) (l11 : K.lookup f11 = some ⟨oc11, od11, .func (PySem.W.fnOf "bites" "bites" (defArgs sbites) (defBody sbites) (defScope sbites) .none kV11 dc11 pm11 an11 cd11 ct11), sl11⟩) (c11 : PySem.W.codeIn K cd11 "bites" = true) (k11 : PySem.W.keepIn K (.ref f11) = true)
    (a12 : PySem.W.nsIn K mainGlobals "loses" = some (some (.ref f12))) (l12 : K.lookup f12 = some ⟨oc12, od12, .func (PySem.W.fnOf "loses" "loses" (defArgs sloses) (defBody sloses) (defScope sloses) .none kV12 dc12 pm12 an12 cd12 ct12), sl12⟩) (c12 : PySem.W.codeIn K cd12 "loses" = true) (k12 : PySem.W.keepIn K (.ref f12) = true)
    (a13 : PySem.W.nsIn K mainGlobals "good_bites" = some (some (.ref f13))) (l13 : K.lookup f13 = some ⟨oc13, od13, .func (PySem.W.fnOf "good_bites" "good_bites" (defArgs sgood_bites) (defBody sgood_bites) (defScope sgood_bites) .none kV13 dc13 pm13 an13 cd13 ct13), sl13⟩) (c13 : PySem.W.codeIn K cd13 "good_bites" = true) (k13 : PySem.W.keepIn K (.ref f13) = true)
    (a14 : PySem.W.nsIn K mainGlobals "mirrored" = some (some (.ref f14))) (l14 : K.lookup f14 = some ⟨oc14, od14, .func (PySem.W.fnOf "mirrored" "mirrored" (defArgs smirrored) (defBody smirrored) (defScope smirrored) .none kV14 dc14 pm14 an14 cd14 ct14), sl14⟩) (c14 : PySem.W.codeIn K cd14 "mirrored" = true) (k14 : PySem.W.keepIn K (.ref f14) = true)
    (a15 : PySem.W.nsIn K mainGlobals "square_answer" = some (some (.ref f15))) (l15 : K.lookup f15 = some ⟨oc15, od15, .func (PySem.W.fnOf "square_answer" "square_answer" (defArgs ssquare_answer) (defBody ssquare_answer) (defScope ssquare_answer) .none kV15 dc15 pm15 an15 cd15 ct15), sl15⟩) (c15 : PySem.W.codeIn K cd15 "square_answer" = true) (k15 : PySem.W.keepIn K (.ref f15) = true)
    (a16 : PySem.W.nsIn K mainGlobals "law" = some (some (.ref f16))) (l16 : K.lookup f16 = some ⟨oc16, od16, .func (PySem.W.fnOf "law" "law" (defArgs slaw) (defBody slaw) (defScope slaw) .none kV16 dc16 pm16 an16 cd16 ct16), sl16⟩) (c16 : PySem.W.codeIn K cd16 "law" = true) (k16 : PySem.W.keepIn K (.ref f16) = true)
    (n_all : PySem.W.nsIn K mainGlobals "all" = some none)
    (n_any : PySem.W.nsIn K mainGlobals "any" = some none)
    (n_bool : PySem.W.nsIn K mainGlobals "bool" = some none)
    (n_dict : PySem.W.nsIn K mainGlobals "dict" = some none)
    (n_int : PySem.W.nsIn K mainGlobals "int" = some none)
    (n_isinstance : PySem.W.nsIn K mainGlobals "isinstance" = some none)
    (n_len : PySem.W.nsIn K mainGlobals "len" = some none)
    (n_list : PySem.W.nsIn K mainGlobals "list" = some none)
    (n_min : PySem.W.nsIn K mainGlobals "min" = some none)
    (n_range : PySem.W.nsIn K mainGlobals "range" = some none)
    (n_set : PySem.W.nsIn K mainGlobals "set" = some none)
    (n_sorted : PySem.W.nsIn K mainGlobals "sorted" = some none)
    (n_str : PySem.W.nsIn K mainGlobals "str" = some none)
    (n_sum : PySem.W.nsIn K mainGlobals "sum" = some none)
    (n_tuple : PySem.W.nsIn K mainGlobals "tuple" = some none)
    (g_ROWS_MOST : PySem.W.nsIn K mainGlobals "ROWS_MOST" = some (some (.int 6 t_ROWS_MOST)))
    (g_SQUARES_MOST : PySem.W.nsIn K mainGlobals "SQUARES_MOST" = some (some (.int 40 t_SQUARES_MOST)))
    (g_BadPosition : PySem.W.nsIn K mainGlobals "BadPosition" = some (some (.ref C_BadPosition))) (x_BadPosition : PySem.W.excIn K C_BadPosition [.type "ValueError", .type "Exception", .type "BaseException", .type "object"] "ValueError.__new__" = true) (y_BadPosition : PySem.W.keepIn K (.ref C_BadPosition) = true) (b_BadPosition : PySem.W.subIn K (.ref C_BadPosition) (.type "BaseException") = some true) (t_BadPosition : PySem.W.typeIn K (.ref C_BadPosition) = some (.type "type")) (i_BadPosition : PySem.W.isClsIn K C_BadPosition = true)
    (s_BadPosition_BadPosition : PySem.W.subIn K (.ref C_BadPosition) (.ref C_BadPosition) = some true) :
    ∃ fd : FuncData, (∀ (s : Shared) (u : Value), BindsTo s fd ⟨[u], []⟩ [("script", u)]) ∧ ∀ base : Heap, K.In base → base.Ns mainGlobals mg → FnOk P w K mg base (L2.CX P w) 42 fa fd ["script"] (spLaw K) := by
  have e := hfa.symm.trans (PySem.W.mg_of X G a16)
  cases e
  let T : Tx K mg (ofN [("BadPosition", C_BadPosition)]) := {
    a_law_mixed := _
    fd_law_mixed := _
    d_law_mixed := ⟨fun_mk (st := s_law_mixed) l0 c0 k0, PySem.W.mg_of X G a0, (fun_mk (st := s_law_mixed) l0 c0 k0).binds (ps := ["number", "place"]) fun _ _ _ _ _ _ us hl => match us, hl with | [_, _], _ => rfl⟩
    a_law_rest := _
    fd_law_rest := _
    d_law_rest := ⟨fun_mk (st := s_law_rest) l1 c1 k1, PySem.W.mg_of X G a1, (fun_mk (st := s_law_rest) l1 c1 k1).binds (ps := ["script", "place", "turns"]) fun _ _ _ _ _ _ us hl => match us, hl with | [_, _, _], _ => rfl⟩
    a_law_pool := _
    fd_law_pool := _
    d_law_pool := ⟨fun_mk (st := s_law_pool) l2 c2 k2, PySem.W.mg_of X G a2, (fun_mk (st := s_law_pool) l2 c2 k2).binds (ps := ["script"]) fun _ _ _ _ _ _ us hl => match us, hl with | [_], _ => rfl⟩
    a_law_bites := _
    fd_law_bites := _
    d_law_bites := ⟨fun_mk (st := s_law_bites) l3 c3 k3, PySem.W.mg_of X G a3, (fun_mk (st := s_law_bites) l3 c3 k3).binds (ps := ["rows"]) fun _ _ _ _ _ _ us hl => match us, hl with | [_], _ => rfl⟩
    a_law_turned := _
    fd_law_turned := _
    d_law_turned := ⟨fun_mk (st := s_law_turned) l4 c4 k4, PySem.W.mg_of X G a4, (fun_mk (st := s_law_turned) l4 c4 k4).binds (ps := ["rows"]) fun _ _ _ _ _ _ us hl => match us, hl with | [_], _ => rfl⟩
    a_law_next := _
    fd_law_next := _
    d_law_next := ⟨fun_mk (st := s_law_next) l5 c5 k5, PySem.W.mg_of X G a5, (fun_mk (st := s_law_next) l5 c5 k5).binds (ps := ["pool"]) fun _ _ _ _ _ _ us hl => match us, hl with | [_], _ => rfl⟩
    a_law_draw := _
    fd_law_draw := _
    d_law_draw := ⟨fun_mk (st := s_law_draw) l6 c6 k6, PySem.W.mg_of X G a6, (fun_mk (st := s_law_draw) l6 c6 k6).binds (ps := ["pool", "limit"]) fun _ _ _ _ _ _ us hl => match us, hl with | [_, _], _ => rfl⟩
    a_law_same := _
    fd_law_same := _
    d_law_same := ⟨fun_mk (st := s_law_same) l7 c7 k7, PySem.W.mg_of X G a7, (fun_mk (st := s_law_same) l7 c7 k7).binds (ps := ["answer", "due"]) fun _ _ _ _ _ _ us hl => match us, hl with | [_, _], _ => rfl⟩
    a_law_lost := _
    fd_law_lost := _
    d_law_lost := ⟨fun_mk (st := s_law_lost) l8 c8 k8, PySem.W.mg_of X G a8, (fun_mk (st := s_law_lost) l8 c8 k8).binds (ps := ["rows", "known"]) fun _ _ _ _ _ _ us hl => match us, hl with | [_, _], _ => rfl⟩
    atwo_rows_lose := _
    fdtwo_rows_lose := _
    dtwo_rows_lose := ⟨fun_mk (st := stwo_rows_lose) l9 c9 k9, PySem.W.mg_of X G a9, (fun_mk (st := stwo_rows_lose) l9 c9 k9).binds (ps := ["low", "high"]) fun _ _ _ _ _ _ us hl => match us, hl with | [_, _], _ => rfl⟩
    aneed_bar := _
    fdneed_bar := _
    dneed_bar := ⟨fun_mk (st := sneed_bar) l10 c10 k10, PySem.W.mg_of X G a10, (fun_mk (st := sneed_bar) l10 c10 k10).binds (ps := ["rows"]) fun _ _ _ _ _ _ us hl => match us, hl with | [_], _ => rfl⟩
    abites := _
    fdbites := _
    dbites := ⟨fun_mk (st := sbites) l11 c11 k11, PySem.W.mg_of X G a11, (fun_mk (st := sbites) l11 c11 k11).binds (ps := ["rows"]) fun _ _ _ _ _ _ us hl => match us, hl with | [_], _ => rfl⟩
    aloses := _
    fdloses := _
    dloses := ⟨fun_mk (st := sloses) l12 c12 k12, PySem.W.mg_of X G a12, (fun_mk (st := sloses) l12 c12 k12).binds (ps := ["rows"]) fun _ _ _ _ _ _ us hl => match us, hl with | [_], _ => rfl⟩
    agood_bites := _
    fdgood_bites := _
    dgood_bites := ⟨fun_mk (st := sgood_bites) l13 c13 k13, PySem.W.mg_of X G a13, (fun_mk (st := sgood_bites) l13 c13 k13).binds (ps := ["rows"]) fun _ _ _ _ _ _ us hl => match us, hl with | [_], _ => rfl⟩
    amirrored := _
    fdmirrored := _
    dmirrored := ⟨fun_mk (st := smirrored) l14 c14 k14, PySem.W.mg_of X G a14, (fun_mk (st := smirrored) l14 c14 k14).binds (ps := ["rows"]) fun _ _ _ _ _ _ us hl => match us, hl with | [_], _ => rfl⟩
    asquare_answer := _
    fdsquare_answer := _
    dsquare_answer := ⟨fun_mk (st := ssquare_answer) l15 c15 k15, PySem.W.mg_of X G a15, (fun_mk (st := ssquare_answer) l15 c15 k15).binds (ps := ["rows"]) fun _ _ _ _ _ _ us hl => match us, hl with | [_], _ => rfl⟩
    alaw := _
    fdlaw := _
    dlaw := ⟨fun_mk (st := slaw) l16 c16 k16, PySem.W.mg_of X G a16, (fun_mk (st := slaw) l16 c16 k16).binds (ps := ["script"]) fun _ _ _ _ _ _ us hl => match us, hl with | [_], _ => rfl⟩
    m_all := PySem.W.mg_none_of X G n_all
    m_any := PySem.W.mg_none_of X G n_any
    m_bool := PySem.W.mg_none_of X G n_bool
    m_dict := PySem.W.mg_none_of X G n_dict
    m_int := PySem.W.mg_none_of X G n_int
    m_isinstance := PySem.W.mg_none_of X G n_isinstance
    m_len := PySem.W.mg_none_of X G n_len
    m_list := PySem.W.mg_none_of X G n_list
    m_min := PySem.W.mg_none_of X G n_min
    m_range := PySem.W.mg_none_of X G n_range
    m_set := PySem.W.mg_none_of X G n_set
    m_sorted := PySem.W.mg_none_of X G n_sorted
    m_str := PySem.W.mg_none_of X G n_str
    m_sum := PySem.W.mg_none_of X G n_sum
    m_tuple := PySem.W.mg_none_of X G n_tuple
    c_ROWS_MOST := ⟨_, PySem.W.mg_of X G g_ROWS_MOST⟩
    c_SQUARES_MOST := ⟨_, PySem.W.mg_of X G g_SQUARES_MOST⟩
    e_BadPosition := ⟨⟨_, _, _, _, PySem.F.excBase_ValueError, x_BadPosition⟩, PySem.W.mg_of X G g_BadPosition, y_BadPosition, b_BadPosition, t_BadPosition⟩
    x_BadPosition := fun y b h => by
      unfold ct_BadPosition at h
      split at h
      · cases h
        rename_i hm
        simp only [List.contains_eq_mem, List.mem_cons, List.not_mem_nil, or_false, decide_eq_true_eq] at hm
        subst hm
        exact exm_of b_BadPosition i_BadPosition t_BadPosition s_BadPosition_BadPosition
      · cases h }
  exact ⟨PySem.W.fnOf "law" "law" (defArgs slaw) (defBody slaw) (defScope slaw) .none kV16 dc16 pm16 an16 cd16 ct16, fun s u => .of_eq rfl, fun base _ _ => law_sp (oklaw T) law_sem⟩
end Lw
open PySem PySem.W PyProof.Rows in
set_option maxRecDepth 100000 in
set_option maxHeartbeats 0 in
theorem PySem.Challenge.cw_turnsum_k26_whole_bars_bitten_to_the_end_holds : PySem.Challenge.rw_turnsum_k26_whole_bars_bitten_to_the_end.Holds := by
  w_on; o_law; k_head; (case hw => w_witness2)
  k_fill
  refine J.walk_law (l := PySem.Challenge.rw_turnsum_k26_whole_bars_bitten_to_the_end) (k := 42) rfl rfl ⟨rfl, by decide, by decide⟩ (fun w h Y => PySem.W.kIn_of Y) ?F
  case F =>
    intro w mg fa h KX G hmg
    refine' Lw.all_mk KX G hmg ?a0 ?l0 ?c0 ?k0 ?a1 ?l1 ?c1 ?k1 ?a2 ?l2 ?c2 ?k2 ?a3 ?l3 ?c3 ?k3 ?a4 ?l4 ?c4 ?k4 ?a5 ?l5 ?c5 ?k5 ?a6 ?l6 ?c6 ?k6 ?a7 ?l7 ?c7 ?k7 ?a8 ?l8 ?c8 ?k8 ?a9 ?l9 ?c9 ?k9 ?a10 ?l10 ?c10 ?k10 ?a11 ?l11 ?c11 ?k11 ?a12 ?l12 ?c12 ?k12 ?a13 ?l13 ?c13 ?k13 ?a14 ?l14 ?c14 ?k14 ?a15 ?l15 ?c15 ?k15 ?a16 ?l16 ?c16 ?k16 ?n_all ?n_any ?n_bool ?n_dict ?n_int ?n_isinstance ?n_len ?n_list ?n_min ?n_range ?n_set ?n_sorted ?n_str ?n_sum ?n_tuple ?g_ROWS_MOST ?g_SQUARES_MOST ?g_BadPosition ?x_BadPosition ?y_BadPosition ?b_BadPosition ?t_BadPosition ?i_BadPosition ?s_BadPosition_BadPosition
    (case a0 => k_is)
    (case l0 => k_is)
    (case c0 => k_is)
    (case k0 => k_is)
    (case a1 => k_is)
    (case l1 => k_is)
    (case c1 => k_is)
    (case k1 => k_is)
    (case a2 => k_is)
    (case l2 => k_is)
    (case c2 => k_is)
    (case k2 => k_is)
    (case a3 => k_is)
    (case l3 => k_is)
    (case c3 => k_is)
    (case k3 => k_is)
    (case a4 => k_is)
    (case l4 => k_is)
    (case c4 => k_is)
    (case k4 => k_is)
    (case a5 => k_is)
    (case l5 => k_is)
    (case c5 => k_is)
    (case k5 => k_is)
    (case a6 => k_is)
    (case l6 => k_is)
    (case c6 => k_is)
    (case k6 => k_is)
    (case a7 => k_is)
    (case l7 => k_is)
    (case c7 => k_is)
    (case k7 => k_is)
    (case a8 => k_is)
    (case l8 => k_is)
    (case c8 => k_is)
    (case k8 => k_is)
    (case a9 => k_is)
    (case l9 => k_is)
    (case c9 => k_is)
    (case k9 => k_is)
    (case a10 => k_is)
    (case l10 => k_is)
    (case c10 => k_is)
    (case k10 => k_is)
    (case a11 => k_is)
    (case l11 => k_is)
    (case c11 => k_is)
    (case k11 => k_is)
    (case a12 => k_is)
    (case l12 => k_is)
    (case c12 => k_is)
    (case k12 => k_is)
    (case a13 => k_is)
    (case l13 => k_is)
    (case c13 => k_is)
    (case k13 => k_is)
    (case a14 => k_is)
    (case l14 => k_is)
    (case c14 => k_is)
    (case k14 => k_is)
    (case a15 => k_is)
    (case l15 => k_is)
    (case c15 => k_is)
    (case k15 => k_is)
    (case a16 => k_is)
    (case l16 => k_is)
    (case c16 => k_is)
    (case k16 => k_is)
    (case n_all => k_is)
    (case n_any => k_is)
    (case n_bool => k_is)
    (case n_dict => k_is)
    (case n_int => k_is)
    (case n_isinstance => k_is)
    (case n_len => k_is)
    (case n_list => k_is)
    (case n_min => k_is)
    (case n_range => k_is)
    (case n_set => k_is)
    (case n_sorted => k_is)
    (case n_str => k_is)
    (case n_sum => k_is)
    (case n_tuple => k_is)
    (case g_ROWS_MOST => k_is)
    (case g_SQUARES_MOST => k_is)
    (case g_BadPosition => k_is)
    (case x_BadPosition => k_exc)
    (case y_BadPosition => k_is)
    (case b_BadPosition => k_is)
    (case t_BadPosition => k_is)
    (case i_BadPosition => k_is)
    (case s_BadPosition_BadPosition => first | rfl | k_is)
