import PyProof.Rows.All
import Wide.All
import OpenK.AllK
import Wide.FinOn
import HandS.ForMost
import HandS.Walk
import HandS.TupAny
import HandS.IsInst
import HandS.Deep
import HandS.Zip
import KE.KDictKeyed
import HandS.Exc
import HandS.ExcInit
import HandS.TryMany
import HandS.ExcIs
import HandS.WordsExc
import HandS.NoneIn
import HandS.Conv
import KE.GoesMore
import KE.KDictDisplayH
import PySem.Challenge.RW_stephouse_k50_whole_rules_that_part
set_option Elab.async false
set_option linter.all false
set_option maxRecDepth 100000
set_option maxHeartbeats 4000000
namespace RI
open PySem PySem.Spec PyProof.Rows L2

/-! ### data -/
inductive D where
  | non | bl (b : Bool) | int (i : Int) | str (s : List Nat) | tup (l : List D) | lst (l : List D) | obj (i : Nat)
  deriving Inhabited
inductive MO where
  | lst (l : List D)
  | dct (l : List (D × D))
abbrev Mem := List MO
/-- an exception: its class, its fields -/
structure Ex where
  cls : Str
  fs : List (Str × D)
inductive Res (A : Type) where
  | ok (a : A) (M : Mem)
  | exc (x : Ex) (M : Mem)
  | bad
def Res.bind {A B : Type} (r : Res A) (f : A → Mem → Res B) : Res B := match r with
  | .ok a M => f a M
  | .exc x M => .exc x M
  | .bad => .bad
/-- what raises nothing -/
def Res.noX {A : Type} : Res A → Res A
  | .ok a M => .ok a M
  | _ => .bad
@[simp] theorem Res.noX_ok {A : Type} (a : A) (M : Mem) : (Res.ok a M).noX = .ok a M := rfl
@[simp] theorem Res.noX_bad {A : Type} : (Res.bad : Res A).noX = .bad := rfl
@[simp] theorem Res.bind_exc {A B : Type} (x : Ex) (M : Mem) (f : A → Mem → Res B) : (Res.exc x M).bind f = .exc x M := rfl
@[simp] theorem Res.bind_ok {A B : Type} (a : A) (M : Mem) (f : A → Mem → Res B) : (Res.ok a M).bind f = f a M := rfl
@[simp] theorem Res.bind_bad {A B : Type} (f : A → Mem → Res B) : (Res.bad : Res A).bind f = .bad := rfl

mutual
def D.bel (n : Nat) : D → Bool
  | .obj i => decide (i < n)
  | .tup l => D.bels n l
  | .lst l => D.bels n l
  | _ => true
def D.bels (n : Nat) : List D → Bool
  | [] => true
  | d :: ds => D.bel n d && D.bels n ds
end
/-! objects taken out, by g -/
mutual
def D.frz (g : Nat → D) : D → D
  | .obj i => g i
  | .tup l => .tup (D.frzs g l)
  | .lst l => .lst (D.frzs g l)
  | .non => .non
  | .bl b => .bl b
  | .int i => .int i
  | .str s => .str s
def D.frzs (g : Nat → D) : List D → List D
  | [] => []
  | d :: ds => D.frz g d :: D.frzs g ds
end
def frzM (M : Mem) (mark : Nat) : Nat → Nat → D
  | 0, i => .obj i
  | n + 1, i => if i < mark then .obj i else match M[i]? with
    | some (.lst l) => .lst (D.frzs (frzM M mark n) l)
    | _ => .obj i

/-! ### keys -/
mutual
def D.toK : D → NestedKey
  | .non => .none
  | .bl b => .num (if b = true then 1 else 0)
  | .int i => .num i
  | .str s => .text ⟨s.toArray⟩
  | .tup l => .tup (D.toKs l)
  | .lst _ => .none
  | .obj _ => .none
def D.toKs : List D → List NestedKey
  | [] => []
  | d :: ds => D.toK d :: D.toKs ds
end
mutual
/-- made of numbers, bools, texts, None and tuples alone -/
def D.keyly : D → Bool
  | .tup l => D.keylys l
  | .lst _ => false
  | .obj _ => false
  | _ => true
def D.keylys : List D → Bool
  | [] => true
  | d :: ds => D.keyly d && D.keylys ds
end
/-- a tuple that may be a key -/
def D.isKey : D → Bool
  | .tup l => D.keylys l && Nat.ble (NestedKey.depthAll (D.toKs l)) 7
  | _ => false

/-! ### where things stand -/
structure Kb where
  K : PySem.W.Frag
  P : Program
  w : World
  mg : Str → Option Value
/-- l: the mutable objects; p: lists that are being made (a comprehension's), known to nobody -/
structure Mu where
  l : List Addr
  p : List Addr
structure Wd where
  H : Hp
  mu : Mu
/-- neither mutable nor private -/
def Fz (W : Wd) (a : Addr) : Prop := a ∉ W.mu.l ∧ a ∉ W.mu.p
def KTp (K : PySem.W.Frag) (a : Addr) (xs : List V) : Prop :=
  ∃ (o : Obj) (its : Array Value) (n : Nat), K.lookup a = some o ∧ o.cls = .type "tuple" ∧ o.data = .seq its n ∧ its.size ≤ sizeLine ∧ Vals xs its.toList
def KLs (K : PySem.W.Frag) (a : Addr) (xs : List V) : Prop :=
  ∃ (o : Obj) (its : Array Value) (n : Nat), K.lookup a = some o ∧ o.cls = .type "list" ∧ o.dict = none ∧ o.data = .seq its n ∧ its.size ≤ sizeLine ∧ Vals xs its.toList
def LstAt (K : Kb) (W : Wd) (a : Addr) (xs : List V) : Prop := (Rd W.H a (.lst xs) ∧ Fz W a) ∨ KLs K.K a xs
def TupAt (K : Kb) (W : Wd) (a : Addr) (xs : List V) : Prop := (Rd W.H a (.tup xs) ∧ Fz W a) ∨ KTp K.K a xs
theorem LstAt.sq {K : Kb} {W : Wd} {a : Addr} {xs : List V} (h : LstAt K W a xs) : SqL K.K W.H a xs := by
  rcases h with h | h
  · exact .inl h.1
  · exact .inr h
theorem TupAt.sq {K : Kb} {W : Wd} {a : Addr} {xs : List V} (h : TupAt K W a xs) : SqT K.K W.H a xs := by
  rcases h with h | h
  · exact .inl h.1
  · exact .inr h
mutual
def DRel (K : Kb) (W : Wd) : D → V → Prop
  | .non, v => v = .non
  | .bl b, v => v = .bl b
  | .int i, v => v = .int i
  | .str s, v => v = .str ⟨s.toArray⟩
  | .tup l, v => ∃ a xs, v = .ref a ∧ TupAt K W a xs ∧ DRels K W l xs
  | .lst l, v => ∃ a xs, v = .ref a ∧ LstAt K W a xs ∧ DRels K W l xs
  | .obj i, v => ∃ a, v = .ref a ∧ W.mu.l[i]? = some a
def DRels (K : Kb) (W : Wd) : List D → List V → Prop
  | [], vs => vs = []
  | d :: ds, vs => ∃ v r, vs = v :: r ∧ DRel K W d v ∧ DRels K W ds r
end
/-- what is known of data stays -/
structure Lk (W W' : Wd) : Prop where
  pre : ∃ t, W'.mu.l = W.mu.l ++ t
  keep : ∀ a o, W.H a = some o → Fz W a → W'.H a = some o ∧ Fz W' a
theorem Lk.refl (W : Wd) : Lk W W := ⟨⟨[], by simp⟩, fun _ _ h n => ⟨h, n⟩⟩
theorem Lk.trans {W W1 W2 : Wd} (a : Lk W W1) (b : Lk W1 W2) : Lk W W2 := by
  obtain ⟨t, e⟩ := a.pre
  obtain ⟨t', e'⟩ := b.pre
  exact ⟨⟨t ++ t', by rw [e', e, List.append_assoc]⟩, fun x o h n => let ⟨h1, n1⟩ := a.keep x o h n; b.keep x o h1 n1⟩
/-- what stands later -/
structure Le (W W' : Wd) : Prop extends Lk W W' where
  pv : W'.mu.p = W.mu.p
  pvk : ∀ a, a ∈ W.mu.p → W'.H a = W.H a
theorem Le.refl (W : Wd) : Le W W := ⟨Lk.refl W, rfl, fun _ _ => rfl⟩
theorem Le.trans {W W1 W2 : Wd} (a : Le W W1) (b : Le W1 W2) : Le W W2 :=
  ⟨a.toLk.trans b.toLk, b.pv.trans a.pv, fun x h => (b.pvk x (by rw [a.pv]; exact h)).trans (a.pvk x h)⟩
theorem Rd.lk {W W' : Wd} (l : Lk W W') {a : Addr} {u : HO} (h : Rd W.H a u ∧ Fz W a) : Rd W'.H a u ∧ Fz W' a := by
  rcases h with ⟨h | ⟨o, h⟩, n⟩
  · exact ⟨.inl (l.keep a _ h n).1, (l.keep a _ h n).2⟩
  · exact ⟨.inr ⟨o, (l.keep a _ h n).1⟩, (l.keep a _ h n).2⟩
theorem LstAt.lk {K : Kb} {W W' : Wd} (l : Lk W W') {a : Addr} {xs : List V} (h : LstAt K W a xs) : LstAt K W' a xs := by
  rcases h with h | h
  · exact .inl (Rd.lk l h)
  · exact .inr h
theorem TupAt.lk {K : Kb} {W W' : Wd} (l : Lk W W') {a : Addr} {xs : List V} (h : TupAt K W a xs) : TupAt K W' a xs := by
  rcases h with h | h
  · exact .inl (Rd.lk l h)
  · exact .inr h
mutual
theorem DRel.lk {K : Kb} {W W' : Wd} (l : Lk W W') : ∀ (d : D) (v : V), DRel K W d v → DRel K W' d v
  | .non, _, h => h
  | .bl _, _, h => h
  | .int _, _, h => h
  | .str _, _, h => h
  | .tup ds, _, h => by
    simp only [DRel] at h ⊢
    obtain ⟨a, xs, e, t, r⟩ := h
    exact ⟨a, xs, e, t.lk l, DRels.lk l ds xs r⟩
  | .lst ds, _, h => by
    simp only [DRel] at h ⊢
    obtain ⟨a, xs, e, t, r⟩ := h
    exact ⟨a, xs, e, t.lk l, DRels.lk l ds xs r⟩
  | .obj i, _, h => by
    simp only [DRel] at h ⊢
    obtain ⟨a, e, t⟩ := h
    obtain ⟨r, q⟩ := l.pre
    refine ⟨a, e, ?_⟩
    have hi : i < W.mu.l.length := by
      by_cases hi : i < W.mu.l.length
      · exact hi
      · rw [List.getElem?_eq_none (by omega)] at t; cases t
    rw [q, List.getElem?_append_left hi]
    exact t
theorem DRels.lk {K : Kb} {W W' : Wd} (l : Lk W W') : ∀ (ds : List D) (vs : List V), DRels K W ds vs → DRels K W' ds vs
  | [], _, h => h
  | d :: ds, _, h => by
    simp only [DRels] at h ⊢
    obtain ⟨v, r, e, h1, h2⟩ := h
    exact ⟨v, r, e, DRel.lk l d v h1, DRels.lk l ds r h2⟩
end
theorem DRel.le {K : Kb} {W W' : Wd} (l : Le W W') (d : D) (v : V) (h : DRel K W d v) : DRel K W' d v := DRel.lk l.toLk d v h
theorem DRels.le {K : Kb} {W W' : Wd} (l : Le W W') (ds : List D) (vs : List V) (h : DRels K W ds vs) : DRels K W' ds vs := DRels.lk l.toLk ds vs h
theorem DRels.length {K : Kb} {W : Wd} : ∀ {ds : List D} {vs : List V}, DRels K W ds vs → ds.length = vs.length
  | [], _, h => by simp only [DRels] at h; subst h; rfl
  | d :: ds, _, h => by
    simp only [DRels] at h
    obtain ⟨v, r, rfl, _, h2⟩ := h
    simp [DRels.length h2]
theorem DRels.get {K : Kb} {W : Wd} : ∀ {ds : List D} {vs : List V} {i : Nat} {d : D}, DRels K W ds vs → ds[i]? = some d → ∃ v, vs[i]? = some v ∧ DRel K W d v
  | [], _, _, _, _, e => by simp at e
  | d :: ds, _, i, d', h, e => by
    simp only [DRels] at h
    obtain ⟨v, r, rfl, h1, h2⟩ := h
    cases i with
    | zero => simp at e; subst e; exact ⟨v, rfl, h1⟩
    | succ i => simpa using DRels.get (i := i) h2 (by simpa using e)
theorem DRels.append {K : Kb} {W : Wd} : ∀ {ds es : List D} {vs ws : List V}, DRels K W ds vs → DRels K W es ws → DRels K W (ds ++ es) (vs ++ ws)
  | [], _, _, _, h, h' => by simp only [DRels] at h; subst h; exact h'
  | d :: ds, es, _, ws, h, h' => by
    simp only [DRels] at h
    obtain ⟨v, r, rfl, h1, h2⟩ := h
    simp only [List.cons_append, DRels]
    exact ⟨v, _, rfl, h1, DRels.append h2 h'⟩
theorem DRels.drop {K : Kb} {W : Wd} : ∀ {ds : List D} {vs : List V} (n : Nat), DRels K W ds vs → DRels K W (ds.drop n) (vs.drop n)
  | _, _, 0, h => h
  | [], _, n + 1, h => by simp only [DRels] at h; subst h; simp [DRels]
  | d :: ds, _, n + 1, h => by
    simp only [DRels] at h
    obtain ⟨v, r, rfl, h1, h2⟩ := h
    exact DRels.drop n h2
theorem DRels.take {K : Kb} {W : Wd} : ∀ {ds : List D} {vs : List V} (n : Nat), DRels K W ds vs → DRels K W (ds.take n) (vs.take n)
  | _, _, 0, h => by simp [DRels]
  | [], _, n + 1, h => by simp only [DRels] at h; subst h; simp [DRels]
  | d :: ds, _, n + 1, h => by
    simp only [DRels] at h
    obtain ⟨v, r, rfl, h1, h2⟩ := h
    simp only [List.take_succ_cons, DRels]
    exact ⟨v, _, rfl, h1, DRels.take n h2⟩
theorem DRels.set {K : Kb} {W : Wd} {d : D} {v : V} (hd : DRel K W d v) : ∀ {ds : List D} {vs : List V} (i : Nat), DRels K W ds vs → DRels K W (ds.set i d) (vs.set i v)
  | [], _, _, h => by simp only [DRels] at h; subst h; simp [DRels]
  | e :: ds, _, 0, h => by
    simp only [DRels] at h
    obtain ⟨w, r, rfl, h1, h2⟩ := h
    simp only [List.set_cons_zero, DRels]
    exact ⟨v, r, rfl, hd, h2⟩
  | e :: ds, _, i + 1, h => by
    simp only [DRels] at h
    obtain ⟨w, r, rfl, h1, h2⟩ := h
    simp only [List.set_cons_succ, DRels]
    exact ⟨w, _, rfl, h1, DRels.set hd i h2⟩
theorem DRels.reverse {K : Kb} {W : Wd} : ∀ {ds : List D} {vs : List V}, DRels K W ds vs → DRels K W ds.reverse vs.reverse
  | [], _, h => by simp only [DRels] at h; subst h; simp [DRels]
  | e :: ds, _, h => by
    simp only [DRels] at h
    obtain ⟨w, r, rfl, h1, h2⟩ := h
    simp only [List.reverse_cons]
    refine DRels.append (DRels.reverse h2) ?_
    simp only [DRels]
    exact ⟨w, [], rfl, h1, rfl⟩

/-! ### the mutable objects -/
/-- a dict whose keys are tuples, its entries (key, where the key's tuple stands, value) -/
def DctO (P : Program) (w : World) (a : Addr) (xs : List (NestedKey × Addr × Value)) : HO := .ext fun h => ∃ o es ep, h.get? a = some o ∧ o.ExactDict ∧ o.data = .dict es ep ∧ es.toList = xs.map (entryOfKey (nestedKind P w))
def KVR (K : Kb) (W : Wd) (i : Nat) (p : D × D) (x : NestedKey × Addr × Value) : Prop := D.isKey p.1 = true ∧ x.1 = D.toK p.1 ∧ DRel K W p.1 (.ref x.2.1) ∧ (∃ v, DRel K W p.2 v ∧ RelV v x.2.2) ∧ D.bel i p.2 = true
def ORel (K : Kb) (W : Wd) (i : Nat) (a : Addr) : MO → Prop
  | .lst l => ∃ xs, W.H a = some (.lst xs) ∧ DRels K W l xs ∧ D.bels i l = true
  | .dct l => ∃ xs, W.H a = some (DctO K.P K.w a xs) ∧ (xs.map (·.1)).Nodup ∧ xs.length ≤ sizeLine ∧ (a == sysModules) = false ∧ Paired (KVR K W i) l xs
theorem KVR.lk {K : Kb} {W W' : Wd} (l : Lk W W') {i : Nat} {p : D × D} {x : NestedKey × Addr × Value} (h : KVR K W i p x) : KVR K W' i p x := by
  obtain ⟨h1, h2, h3, ⟨v, h4, h5⟩, h6⟩ := h
  exact ⟨h1, h2, DRel.lk l _ _ h3, ⟨v, DRel.lk l _ _ h4, h5⟩, h6⟩
theorem ORel.lk {K : Kb} {W W' : Wd} (l : Lk W W') {i : Nat} {a : Addr} (e : W'.H a = W.H a) : ∀ {o : MO}, ORel K W i a o → ORel K W' i a o
  | .lst l', ⟨xs, h1, h2, h3⟩ => ⟨xs, e.trans h1, DRels.lk l l' xs h2, h3⟩
  | .dct l', ⟨xs, h1, h2, h3, h4, h5⟩ => ⟨xs, e.trans h1, h2, h3, h4, Paired.mapP h5 fun _ _ q => q.lk l⟩
structure MRel (K : Kb) (W : Wd) (M : Mem) : Prop where
  len : W.mu.l.length = M.length
  nd : W.mu.l.Nodup
  obj : ∀ i a o, W.mu.l[i]? = some a → M[i]? = some o → ORel K W i a o
  pv : ∀ a, a ∈ W.mu.p → (∃ u, W.H a = some u) ∧ a ∉ W.mu.l
theorem ORel.there {K : Kb} {W : Wd} {i : Nat} {a : Addr} : ∀ {o : MO}, ORel K W i a o → ∃ u, W.H a = some u
  | .lst _, ⟨xs, h, _⟩ => ⟨_, h⟩
  | .dct _, ⟨xs, h, _⟩ => ⟨_, h⟩
theorem MRel.there {K : Kb} {W : Wd} {M : Mem} (m : MRel K W M) {a : Addr} (h : a ∈ W.mu.l) : ∃ u, W.H a = some u := by
  obtain ⟨i, hi⟩ := List.getElem?_of_mem h
  have hl : i < M.length := by
    rw [← m.len]
    by_cases q : i < W.mu.l.length
    · exact q
    · rw [List.getElem?_eq_none (by omega)] at hi; cases hi
  exact (m.obj i a M[i] hi (List.getElem?_eq_getElem hl)).there
theorem MRel.fresh {K : Kb} {W : Wd} {M : Mem} (m : MRel K W M) {a : Addr} (h : W.H a = none) : Fz W a := by
  constructor
  · intro q
    obtain ⟨u, e⟩ := m.there q
    rw [h] at e; cases e
  · intro q
    obtain ⟨⟨u, e⟩, _⟩ := m.pv a q
    rw [h] at e; cases e
/-- what the mutable objects say stays while data stay and they are not written -/
theorem MRel.lk {K : Kb} {W W' : Wd} {M : Mem} (m : MRel K W M) (l : Lk W W') (e : W'.mu.l = W.mu.l) (h : ∀ a, a ∈ W.mu.l → W'.H a = W.H a) (hp : ∀ a, a ∈ W'.mu.p → (∃ u, W'.H a = some u) ∧ a ∉ W.mu.l) : MRel K W' M := by
  refine ⟨by rw [e]; exact m.len, by rw [e]; exact m.nd, fun i a o h1 h2 => ?_, fun a ha => ⟨(hp a ha).1, by rw [e]; exact (hp a ha).2⟩⟩
  rw [e] at h1
  exact (m.obj i a o h1 h2).lk l (h a (List.mem_of_getElem? h1))
/-- a new object that is no mutable one -/
theorem MRel.laid {K : Kb} {W : Wd} {M : Mem} (m : MRel K W M) {p : Addr} (hp : W.H p = none) (o : HO) : Le W ⟨upd W.H p o, W.mu⟩ ∧ MRel K ⟨upd W.H p o, W.mu⟩ M := by
  have ne : ∀ {a : Addr} {u : HO}, W.H a = some u → upd W.H p o a = some u := fun {a u} h => by
    rw [upd_ne (ne_of_none h hp)]; exact h
  have le : Le W ⟨upd W.H p o, W.mu⟩ := ⟨⟨⟨[], by simp⟩, fun a u h n => ⟨ne h, n⟩⟩, rfl, fun a ha => by
    obtain ⟨⟨u, e⟩, _⟩ := m.pv a ha
    rw [e]; exact ne e⟩
  refine ⟨le, m.lk le.toLk rfl (fun a ha => ?_) fun a ha => ?_⟩
  · obtain ⟨u, e⟩ := m.there ha
    rw [e]; exact ne e
  · obtain ⟨⟨u, e⟩, q⟩ := m.pv a ha
    exact ⟨⟨u, ne e⟩, q⟩
/-- a new mutable list -/
theorem MRel.bornO {K : Kb} {W : Wd} {M : Mem} (m : MRel K W M) {p : Addr} (hp : W.H p = none) (o : HO) (mo : MO) (new : ∀ W', Lk W W' → W'.H p = some o → ORel K W' M.length p mo) :
    Le W ⟨upd W.H p o, ⟨W.mu.l ++ [p], W.mu.p⟩⟩ ∧ MRel K ⟨upd W.H p o, ⟨W.mu.l ++ [p], W.mu.p⟩⟩ (M ++ [mo]) := by
  have np := m.fresh hp
  have ne : ∀ {a : Addr} {u : HO}, W.H a = some u → upd W.H p o a = some u := fun {a u} h => by
    rw [upd_ne (ne_of_none h hp)]; exact h
  have le : Le W ⟨upd W.H p o, ⟨W.mu.l ++ [p], W.mu.p⟩⟩ := ⟨⟨⟨[p], rfl⟩, fun a u h n => ⟨ne h, by
    refine ⟨?_, n.2⟩
    show a ∉ W.mu.l ++ [p]
    simp only [List.mem_append, List.mem_singleton, not_or]
    exact ⟨n.1, ne_of_none h hp⟩⟩⟩, rfl, fun a ha => by
    obtain ⟨⟨u, e⟩, _⟩ := m.pv a ha
    rw [e]; exact ne e⟩
  refine ⟨le, by simp [m.len], ?_, fun i a u h1 h2 => ?_, fun a ha => ?_⟩
  · show (W.mu.l ++ [p]).Nodup
    rw [List.nodup_append]
    refine ⟨m.nd, by simp, ?_⟩
    intro x hx y hy e
    simp only [List.mem_singleton] at hy
    subst hy; subst e; exact np.1 hx
  · have h1 : (W.mu.l ++ [p])[i]? = some a := h1
    by_cases hi : i < W.mu.l.length
    · rw [List.getElem?_append_left hi] at h1
      rw [List.getElem?_append_left (by rw [← m.len]; exact hi)] at h2
      obtain ⟨z, ez⟩ := (m.obj i a u h1 h2).there
      exact (m.obj i a u h1 h2).lk le.toLk (by rw [ez]; exact ne ez)
    · have e : i = W.mu.l.length := by
        have : i < (W.mu.l ++ [p]).length := by
          by_cases q : i < (W.mu.l ++ [p]).length
          · exact q
          · rw [List.getElem?_eq_none (by omega)] at h1; cases h1
        simp at this
        omega
      subst e
      rw [List.getElem?_append_right (Nat.le_refl _)] at h1
      rw [m.len, List.getElem?_append_right (Nat.le_refl _)] at h2
      simp at h1 h2
      subst h1; subst h2
      rw [m.len]
      exact new _ le.toLk upd_same
  · obtain ⟨⟨u, e⟩, q⟩ := m.pv a ha
    refine ⟨⟨u, ne e⟩, ?_⟩
    show a ∉ W.mu.l ++ [p]
    simp only [List.mem_append, List.mem_singleton, not_or]
    exact ⟨q, ne_of_none e hp⟩
theorem MRel.born {K : Kb} {W : Wd} {M : Mem} (m : MRel K W M) {p : Addr} (hp : W.H p = none) {l : List D} {xs : List V} (r : DRels K W l xs) (b : D.bels M.length l = true) :
    Le W ⟨upd W.H p (.lst xs), ⟨W.mu.l ++ [p], W.mu.p⟩⟩ ∧ MRel K ⟨upd W.H p (.lst xs), ⟨W.mu.l ++ [p], W.mu.p⟩⟩ (M ++ [.lst l]) :=
  m.bornO hp _ _ fun W' lk e => ⟨xs, e, DRels.lk lk l xs r, b⟩
theorem bels_get {n : Nat} : ∀ {l : List D} {i : Nat} {d : D}, D.bels n l = true → l[i]? = some d → D.bel n d = true
  | [], _, _, _, e => by simp at e
  | d :: ds, i, d', h, e => by
    simp only [D.bels, Bool.and_eq_true] at h
    cases i with
    | zero => simp at e; subst e; exact h.1
    | succ i => exact bels_get (i := i) h.2 (by simpa using e)
/-- data leaning on objects below n stays while these stand -/
structure Lo (n : Nat) (W W' : Wd) : Prop where
  mu : ∀ i, i < n → W'.mu.l[i]? = W.mu.l[i]?
  keep : ∀ a o, W.H a = some o → Fz W a → W'.H a = some o ∧ Fz W' a
mutual
theorem DRel.lo {K : Kb} {n : Nat} {W W' : Wd} (l : Lo n W W') : ∀ (d : D) (v : V), D.bel n d = true → DRel K W d v → DRel K W' d v
  | .non, _, _, h => h
  | .bl _, _, _, h => h
  | .int _, _, _, h => h
  | .str _, _, _, h => h
  | .tup ds, _, b, h => by
    simp only [DRel] at h ⊢
    simp only [D.bel] at b
    obtain ⟨a, xs, e, t, r⟩ := h
    refine ⟨a, xs, e, ?_, DRels.lo l ds xs b r⟩
    rcases t with ⟨t | ⟨o, t⟩, nn⟩ | t
    · exact .inl ⟨.inl (l.keep a _ t nn).1, (l.keep a _ t nn).2⟩
    · exact .inl ⟨.inr ⟨o, (l.keep a _ t nn).1⟩, (l.keep a _ t nn).2⟩
    · exact .inr t
  | .lst ds, _, b, h => by
    simp only [DRel] at h ⊢
    simp only [D.bel] at b
    obtain ⟨a, xs, e, t, r⟩ := h
    refine ⟨a, xs, e, ?_, DRels.lo l ds xs b r⟩
    rcases t with ⟨t | ⟨o, t⟩, nn⟩ | t
    · exact .inl ⟨.inl (l.keep a _ t nn).1, (l.keep a _ t nn).2⟩
    · exact .inl ⟨.inr ⟨o, (l.keep a _ t nn).1⟩, (l.keep a _ t nn).2⟩
    · exact .inr t
  | .obj i, _, b, h => by
    simp only [DRel] at h ⊢
    simp only [D.bel, decide_eq_true_eq] at b
    obtain ⟨a, e, t⟩ := h
    exact ⟨a, e, by rw [l.mu i b]; exact t⟩
theorem DRels.lo {K : Kb} {n : Nat} {W W' : Wd} (l : Lo n W W') : ∀ (ds : List D) (vs : List V), D.bels n ds = true → DRels K W ds vs → DRels K W' ds vs
  | [], _, _, h => h
  | d :: ds, _, b, h => by
    simp only [DRels] at h ⊢
    simp only [D.bels, Bool.and_eq_true] at b
    obtain ⟨v, r, e, h1, h2⟩ := h
    exact ⟨v, r, e, DRel.lo l d v b.1 h1, DRels.lo l ds r b.2 h2⟩
end
/-- a mutable list written -/
theorem MRel.wroteO {K : Kb} {W : Wd} {M : Mem} (m : MRel K W M) {i : Nat} {a : Addr} (ha : W.mu.l[i]? = some a) (o : HO) (mo : MO) (new : ∀ W', Lk W W' → W'.H a = some o → ORel K W' i a mo) :
    Le W ⟨upd W.H a o, W.mu⟩ ∧ MRel K ⟨upd W.H a o, W.mu⟩ (M.set i mo) := by
  have hm : a ∈ W.mu.l := List.mem_of_getElem? ha
  have hi : i < W.mu.l.length := by
    by_cases q : i < W.mu.l.length
    · exact q
    · rw [List.getElem?_eq_none (by omega)] at ha; cases ha
  have npv : ∀ c, c ∈ W.mu.p → c ≠ a := fun c hc e => (m.pv c hc).2 (e ▸ hm)
  have le : Le W ⟨upd W.H a o, W.mu⟩ := ⟨⟨⟨[], by simp⟩, fun c u h n => ⟨by
    show upd W.H a _ c = some u
    rw [upd_ne (by rintro rfl; exact n.1 hm)]; exact h, n⟩⟩, rfl, fun c hc => upd_ne (npv c hc)⟩
  refine ⟨le, by simp [m.len], m.nd, fun j c u h1 h2 => ?_, fun c hc => ?_⟩
  · by_cases hj : j = i
    · subst hj
      rw [List.getElem?_set_self (by rw [← m.len]; exact hi)] at h2
      cases h2
      have h1 : W.mu.l[j]? = some c := h1
      rw [ha] at h1; cases h1
      exact new _ le.toLk upd_same
    · rw [List.getElem?_set_ne (Ne.symm hj)] at h2
      refine (m.obj j c u h1 h2).lk le.toLk ?_
      show upd W.H a _ c = _
      rw [upd_ne fun z => hj ?_]
      subst z
      have h1 : W.mu.l[j]? = some c := h1
      have hjl : j < W.mu.l.length := by
        by_cases q : j < W.mu.l.length
        · exact q
        · rw [List.getElem?_eq_none (by omega)] at h1; cases h1
      exact (List.getElem?_inj hjl m.nd).mp (h1.trans ha.symm)
  · obtain ⟨⟨u, e⟩, q⟩ := m.pv c hc
    exact ⟨⟨u, by show upd W.H a _ c = _; rw [upd_ne (npv c hc)]; exact e⟩, q⟩
theorem MRel.wrote {K : Kb} {W : Wd} {M : Mem} (m : MRel K W M) {i : Nat} {a : Addr} (ha : W.mu.l[i]? = some a) {l : List D} {xs : List V} (r : DRels K W l xs) (b : D.bels i l = true) :
    Le W ⟨upd W.H a (.lst xs), W.mu⟩ ∧ MRel K ⟨upd W.H a (.lst xs), W.mu⟩ (M.set i (.lst l)) :=
  m.wroteO ha _ _ fun W' lk e => ⟨xs, e, DRels.lk lk l xs r, b⟩
/-- the slots -/
abbrev EV := List (Option D)
structure SRel (K : Kb) (W : Wd) (s : L2.St) (r : EV) : Prop where
  len : s.length = r.length
  get : ∀ (i : Nat) (d : D), r[i]? = some (some d) → ∃ v, s[i]? = some (some v) ∧ DRel K W d v
theorem SRel.lk {K : Kb} {W W' : Wd} {s : L2.St} {r : EV} (l : Lk W W') (h : SRel K W s r) : SRel K W' s r :=
  ⟨h.len, fun i d e => let ⟨v, e1, q⟩ := h.get i d e; ⟨v, e1, DRel.lk l d v q⟩⟩
theorem SRel.le {K : Kb} {W W' : Wd} {s : L2.St} {r : EV} (l : Le W W') (h : SRel K W s r) : SRel K W' s r := h.lk l.toLk
theorem SRel.set {K : Kb} {W : Wd} {s : L2.St} {r : EV} {d : D} {v : V} (h : SRel K W s r) (q : DRel K W d v) (i : Nat) : SRel K W (s.set i (some v)) (r.set i (some d)) := by
  refine ⟨by simp [h.len], fun j e hj => ?_⟩
  by_cases hij : i = j
  · subst hij
    have hi : i < r.length := by
      by_cases z : i < r.length
      · exact z
      · rw [List.getElem?_eq_none (by simpa using z)] at hj; cases hj
    rw [List.getElem?_set_self hi] at hj
    cases hj
    exact ⟨v, by rw [List.getElem?_set_self (by rw [h.len]; exact hi)], q⟩
  · rw [List.getElem?_set_ne hij] at hj ⊢
    exact h.get j e hj
end RI

namespace RI
mutual
def D.beq : D → D → Bool
  | .non, .non => true
  | .bl a, .bl b => a == b
  | .int a, .int b => decide (a = b)
  | .str a, .str b => decide (a = b)
  | .tup a, .tup b => D.beqs a b
  | .lst a, .lst b => D.beqs a b
  | .obj a, .obj b => Nat.beq a b
  | _, _ => false
def D.beqs : List D → List D → Bool
  | [], [] => true
  | a :: as, b :: bs => D.beq a b && D.beqs as bs
  | _, _ => false
end
mutual
theorem D.of_beq : ∀ a b : D, D.beq a b = true → a = b
  | .non, b, h => by cases b <;> simp_all [D.beq]
  | .bl x, b, h => by cases b <;> simp_all [D.beq]
  | .int x, b, h => by cases b <;> simp_all [D.beq]
  | .str x, b, h => by cases b <;> simp_all [D.beq]
  | .tup x, b, h => by
    cases b with
    | tup y => simp only [D.beq] at h; rw [D.of_beqs x y h]
    | _ => simp [D.beq] at h
  | .lst x, b, h => by
    cases b with
    | lst y => simp only [D.beq] at h; rw [D.of_beqs x y h]
    | _ => simp [D.beq] at h
  | .obj x, b, h => by
    cases b with
    | obj y => simp only [D.beq] at h; rw [Nat.eq_of_beq_eq_true h]
    | _ => simp [D.beq] at h
theorem D.of_beqs : ∀ a b : List D, D.beqs a b = true → a = b
  | [], b, h => by cases b <;> simp_all [D.beqs]
  | x :: xs, b, h => by
    cases b with
    | nil => simp [D.beqs] at h
    | cons y ys =>
      simp only [D.beqs, Bool.and_eq_true] at h
      rw [D.of_beq x y h.1, D.of_beqs xs ys h.2]
end
mutual
theorem D.beq_self : ∀ a : D, D.beq a a = true
  | .non => rfl
  | .bl x => by simp [D.beq]
  | .int x => by simp [D.beq]
  | .str x => by simp [D.beq]
  | .tup x => by simp only [D.beq]; exact D.beqs_self x
  | .lst x => by simp only [D.beq]; exact D.beqs_self x
  | .obj x => by simp [D.beq]
theorem D.beqs_self : ∀ a : List D, D.beqs a a = true
  | [] => rfl
  | x :: xs => by simp only [D.beqs, D.beq_self x, D.beqs_self xs, Bool.and_self]
end
end RI

namespace RI
open PySem PySem.Spec PyProof.Rows L2

/-! ### what is wanted of a meaning -/
/-- with the wish about exceptions; the slots that stand now -/
structure Kx where
  b : Kb
  xw : Ex → L2.St → Wd → Prop
  cur : L2.St
instance : Coe Kx Kb := ⟨Kx.b⟩
abbrev Kx.at (K : Kx) (s : L2.St) : Kx := ⟨K.b, K.xw, s⟩
abbrev Kb.no (K : Kb) : Kx := ⟨K, fun _ _ _ => False, []⟩
def Sat {A : Type} (K : Kx) (W : Wd) (r : Res A) (P : A → Mem → Wd → Prop) : Prop := match r with
  | .ok a M => ∀ W', Le W W' → MRel K.b W' M → P a M W'
  | .exc x M => ∀ W', Le W W' → MRel K.b W' M → K.xw x K.cur W'
  | .bad => False
theorem Sat.imp {A : Type} {K : Kx} {W : Wd} {r : Res A} {P P' : A → Mem → Wd → Prop} (h : Sat K W r P) (f : ∀ a M W', Le W W' → MRel K.b W' M → P a M W' → P' a M W') : Sat K W r P' := by
  cases r with
  | ok a M => exact fun W' l m => f a M W' l m (h W' l m)
  | exc x M => exact h
  | bad => exact h
theorem Sat.le {A : Type} {K : Kx} {W W1 : Wd} {r : Res A} {P : A → Mem → Wd → Prop} (h : Sat K W r P) (l : Le W W1) : Sat K W1 r P := by
  cases r with
  | ok a M => exact fun W' l' m => h W' (l.trans l') m
  | exc x M => exact fun W' l' m => h W' (l.trans l') m
  | bad => exact h
theorem Sat.bind {A B : Type} {K : Kx} {W : Wd} {r : Res A} {f : A → Mem → Res B} {P : B → Mem → Wd → Prop} (h : Sat K W (r.bind f) P) : Sat K W r (fun a M1 W1 => Sat K W1 (f a M1) P) := by
  cases r with
  | ok a M => exact fun W' l m => Sat.le h l
  | exc x M => exact h
  | bad => exact h
theorem Sat.ok {A : Type} {K : Kx} {W : Wd} {a : A} {M : Mem} {P : A → Mem → Wd → Prop} (h : Sat K W (.ok a M) P) (m : MRel K.b W M) : P a M W := h W (Le.refl W) m
/-- what raises nothing has no wish -/
theorem Sat.noX {A : Type} {K : Kx} {W : Wd} {r : Res A} {P : A → Mem → Wd → Prop} (h : Sat K W r.noX P) : Sat K.b.no W r P := by
  cases r with
  | ok a M => exact h
  | exc x M => exact h.elim
  | bad => exact h
theorem Sat.up {A : Type} {K : Kx} {W : Wd} {r : Res A} {P : A → Mem → Wd → Prop} (h : Sat K.b.no W r P) : Sat K W r P := by
  cases r with
  | ok a M => exact h
  | exc x M => exact fun W' l m => (h W' l m).elim
  | bad => exact h
abbrev PV (K : Kb) (Q : VK) : D → Mem → Wd → Prop := fun d _ W => ∀ v, DRel K W d v → Q v W.H
abbrev PVs (K : Kb) (Q : List V → Hp → Prop) : List D → Mem → Wd → Prop := fun ds _ W => ∀ vs, DRels K W ds vs → Q vs W.H
abbrev PB (Q : Bool → Hp → Prop) : Bool → Mem → Wd → Prop := fun b _ W => Q b W.H
abbrev PR (K : Kb) (Q : L2.St → Hp → Prop) : EV → Mem → Wd → Prop := fun r _ W => ∀ s, SRel K W s r → Q s W.H

abbrev FT := Nat → List D → Mem → Res D
abbrev ME := FT → EV → Mem → Res D
abbrev MT := FT → EV → Mem → Res Bool
abbrev MA := FT → EV → Mem → Res (List D)
inductive Fl where
  | next (r : EV) | ret (d : D) | brk (r : EV) | cont (r : EV) | rse (x : Ex) (r : EV)
abbrev MS := FT → EV → Mem → Res Fl
abbrev MG := FT → D → EV → Mem → Res EV
abbrev MGs := FT → List D → EV → Mem → Res EV
def PF (K : Kx) (Dn : Ends) : Fl → Mem → Wd → Prop := fun f _ W => match f with
  | .next r => ∀ s, SRel K W s r → Dn.nx s W.H
  | .brk r => ∀ s, SRel K W s r → Dn.bk s W.H
  | .cont r => ∀ s, SRel K W s r → Dn.ct s W.H
  | .ret d => ∀ v, DRel K W d v → Dn.rt v W.H
  | .rse x r => ∀ s, SRel K W s r → K.xw x s W
/-- at a statement: an exception leaves with the slots that stand -/
def Res.toS {A : Type} (r : Res A) (e : EV) (f : A → Mem → Res Fl) : Res Fl := match r with
  | .ok a M => f a M
  | .exc x M => .ok (.rse x e) M
  | .bad => .bad
@[simp] theorem Res.toS_ok {A : Type} (a : A) (M : Mem) (e : EV) (f : A → Mem → Res Fl) : (Res.ok a M).toS e f = f a M := rfl
@[simp] theorem Res.toS_exc {A : Type} (x : Ex) (M : Mem) (e : EV) (f : A → Mem → Res Fl) : (Res.exc x M).toS e f = .ok (.rse x e) M := rfl
@[simp] theorem Res.toS_bad {A : Type} (e : EV) (f : A → Mem → Res Fl) : (Res.bad : Res A).toS e f = .bad := rfl
theorem Sat.toS {A : Type} {K : Kx} {W : Wd} {r : Res A} {e : EV} {f : A → Mem → Res Fl} {Dn : Ends} {s : L2.St} (h : Sat K.b.no W (r.toS e f) (PF K Dn)) (sr : SRel K W s e) : Sat (K.at s) W r (fun a M1 W1 => Sat K.b.no W1 (f a M1) (PF K Dn)) := by
  cases r with
  | ok a M => exact fun W' l m => Sat.le h l
  | exc x M => exact fun W' l m => h W' l m s (sr.le l)
  | bad => exact h

def At (K : Kb) (s : L2.St) (H : Hp) (P : Mu → EV → Mem → Prop) : Prop := ∃ mu M r, MRel K ⟨H, mu⟩ M ∧ SRel K ⟨H, mu⟩ s r ∧ P mu r M
def rdE (K : Kx) (F : FT) (m : ME) : TE := fun s H Q => At K s H fun mu r M => Sat (K.at s) ⟨H, mu⟩ (m F r M) (PV K Q)
def rdT (K : Kx) (F : FT) (m : MT) : TT := fun s H Q => At K s H fun mu r M => Sat (K.at s) ⟨H, mu⟩ (m F r M) (PB Q)
def rdA (K : Kx) (F : FT) (m : MA) : TA := fun s H Q => At K s H fun mu r M => Sat (K.at s) ⟨H, mu⟩ (m F r M) (PVs K Q)
def rdS (K : Kx) (F : FT) (m : MS) : TS := fun Dn s H => At K s H fun mu r M => Sat K.b.no ⟨H, mu⟩ (m F r M) (PF K Dn)
/-- targets: the value is some data there -/
def rdG (K : Kx) (F : FT) (m : MG) : TG := fun v s H Q => At K s H fun mu r M => ∃ d, DRel K ⟨H, mu⟩ d v ∧ Sat K.b.no ⟨H, mu⟩ (m F d r M) (PR K Q)
def rdGs (K : Kx) (F : FT) (m : MGs) : TGs := fun vs s H Q => At K s H fun mu r M => ∃ ds, DRels K ⟨H, mu⟩ ds vs ∧ Sat K.b.no ⟨H, mu⟩ (m F ds r M) (PR K Q)

/-! ### tables and calls -/
structure Fn where
  name : Str
  ps : List Str
  N : List Str
  body : MS
  keep : Bool
structure Tb where
  fns : List Fn
  con : List (Str × D)
  blt : List Str
def startE (N : List Str) (ds : List D) : EV := ds.map some ++ List.replicate (N.length - ds.length) none
def fin (keep : Bool) (mark : Nat) (d : D) (M : Mem) : Res D :=
  if keep then .ok d M else
    if D.bel mark (D.frz (frzM M mark 3) d) then .ok (D.frz (frzM M mark 3) d) (M.take mark) else .bad
/-- an exception's fields without objects that go -/
def finX (mark : Nat) (x : Ex) (M : Mem) : Res D :=
  if D.bels mark (D.frzs (frzM M mark 3) (x.fs.map (·.2))) then .exc ⟨x.cls, x.fs.map fun p => (p.1, D.frz (frzM M mark 3) p.2)⟩ (M.take mark) else .bad
def retOf (keep : Bool) (mark : Nat) : Res Fl → Res D
  | .ok (.ret d) M => fin keep mark d M
  | .ok (.next _) M => fin keep mark .non M
  | .ok (.rse x _) M => finX mark x M
  | _ => .bad
def callF (T : Tb) : Nat → FT
  | 0 => fun _ _ _ => .bad
  | n + 1 => fun k ds M => match T.fns[k]? with
    | none => .bad
    | some f => if ds.length = f.ps.length then retOf f.keep M.length (f.body (callF T n) (startE f.N ds) M) else .bad
/-- an exception as it stands: its class, its dict -/
def FRel (K : Kb) (W : Wd) (p : Str × D) (q : Str × V) : Prop := p.1 = q.1 ∧ DRel K W p.2 q.2
def ExRel (K : Kb) (W : Wd) (x : Ex) (cls : Value) (d : Option Addr) : Prop := K.mg x.cls = some cls ∧ match d with
  | none => x.fs = []
  | some dx => Fz W dx ∧ ∃ fs, W.H dx = some (.xd fs) ∧ Paired (FRel K W) x.fs fs
/-- the wish of E, told by data -/
def xwOf (K : Kb) (E : XK) : Ex → L2.St → Wd → Prop := fun x _ W => ∀ cls d, ExRel K W x cls d → E cls d W.H
def spF (T : Tb) (K : Kb) (ps : List Str) (n k : Nat) : Sp := fun vs H Q E => vs.length = ps.length ∧ ∃ mu M ds, MRel K ⟨H, mu⟩ M ∧ DRels K ⟨H, mu⟩ ds vs ∧ Sat ⟨K, xwOf K E, []⟩ ⟨H, mu⟩ (callF T n k ds M) (PV K Q)

/-- what is known of data wherever it stands -/
def KRel (K : Kb) (d : D) (v : V) : Prop := ∀ W, DRel K W d v
/-- where code is compiled -/
structure CC where
  sc : Scope
  N : List Str
  fn : Str → Bool
  mt : List (Nat × Nat)
abbrev kb (X : Cx) : Kb := ⟨X.K, X.prog, X.w, X.mg⟩
abbrev kx (X : Cx) (wx : Ex → L2.St → Wd → Prop) : Kx := ⟨kb X, wx, []⟩
/-- the wish, as it is told of the heap -/
def wOf (X : Cx) (wx : Ex → L2.St → Wd → Prop) : WX := fun cls d σ H => ∃ x mu, ExRel (kb X) ⟨H, mu⟩ x cls d ∧ wx x σ ⟨H, mu⟩
structure CxOk (T : Tb) (n : Nat) (C : CC) (X : Cx) (wx : Ex → L2.St → Wd → Prop) : Prop where
  sc : X.env.scope = C.sc
  N : X.N = C.N
  nd : X.N.Nodup
  fn : X.fn = C.fn
  kind : C.sc.kind = .function
  calm : X.calm = true
  room : Room n X.A
  pas : PassesOwn (model X.prog X.w) X.A X.env X.xe
  tk : Takes X (wOf X wx)
  con : ∀ x d, T.con.lookup x = some d → ∃ u v, X.mg x = some u ∧ RelV v u ∧ KRel (kb X) d v
  blt : ∀ x, x ∈ T.blt → X.mg x = none
  fns : ∀ k f, T.fns[k]? = some f → ∃ a fd, X.mg f.name = some (.ref a) ∧ PySem.W.keepIn X.K (.ref a) = true ∧ Binds X.K fd f.ps [] ∧ FnOk X.prog X.w X.K X.mg X.base (L2.CX X.prog X.w) n a fd f.ps (spF T (kb X) f.ps n k)
def OkE (T : Tb) (C : CC) (e : Expr) (m : ME) : Prop := ∀ n X wx, CxOk T n C X wx → PE X e (rdE (kx X wx) (callF T n) m)
def OkT (T : Tb) (C : CC) (e : Expr) (m : MT) : Prop := ∀ n X wx, CxOk T n C X wx → PT X e (rdT (kx X wx) (callF T n) m)
def OkA (T : Tb) (C : CC) (es : List Expr) (m : MA) : Prop := ∀ n X wx, CxOk T n C X wx → PA X es (rdA (kx X wx) (callF T n) m)
def OkS (T : Tb) (C : CC) (st : Stmt) (m : MS) : Prop := ∀ n X wx, CxOk T n C X wx → PS X st (rdS (kx X wx) (callF T n) m)
def OkSs (T : Tb) (C : CC) (st : List Stmt) (m : MS) : Prop := ∀ n X wx, CxOk T n C X wx → PSs X st (rdS (kx X wx) (callF T n) m)
def OkG (T : Tb) (C : CC) (e : Expr) (m : MG) : Prop := ∀ n X wx, CxOk T n C X wx → PG X e (rdG (kx X wx) (callF T n) m)
def OkGs (T : Tb) (C : CC) (es : List Expr) (m : MGs) : Prop := ∀ n X wx, CxOk T n C X wx → PGs X es (rdGs (kx X wx) (callF T n) m)

/-! ### a reading made stronger -/
theorem PE.of {X : Cx} {e : Expr} {t t' : TE} (h : PE X e t) (f : ∀ s H Q, t' s H Q → t s H Q) : PE X e t' := ⟨fun pins s σ H Q I q => h.run pins s σ H Q I (f σ H Q q)⟩
theorem PT.of {X : Cx} {e : Expr} {t t' : TT} (h : PT X e t) (f : ∀ s H Q, t' s H Q → t s H Q) : PT X e t' := ⟨fun pins s σ H Q I q => h.run pins s σ H Q I (f σ H Q q)⟩
theorem PA.of {X : Cx} {e : List Expr} {t t' : TA} (h : PA X e t) (f : ∀ s H Q, t' s H Q → t s H Q) : PA X e t' := ⟨fun pos pins s σ H Q I q => h.run pos pins s σ H Q I (f σ H Q q)⟩
theorem PS.of {X : Cx} {e : Stmt} {t t' : TS} (h : PS X e t) (f : ∀ D s H, t' D s H → t D s H) : PS X e t' := ⟨fun pins s σ H D I q => h.run pins s σ H D I (f D σ H q)⟩
theorem PSs.of {X : Cx} {e : List Stmt} {t t' : TS} (h : PSs X e t) (f : ∀ D s H, t' D s H → t D s H) : PSs X e t' := ⟨fun pins s σ H D I q => h.run pins s σ H D I (f D σ H q)⟩
theorem PG.of {X : Cx} {e : Expr} {t t' : TG} (h : PG X e t) (f : ∀ v s H Q, t' v s H Q → t v s H Q) : PG X e t' := ⟨fun pins s σ H v u Q I r q => h.run pins s σ H v u Q I r (f v σ H Q q)⟩
theorem PGs.of {X : Cx} {e : List Expr} {t t' : TGs} (h : PGs X e t) (f : ∀ v s H Q, t' v s H Q → t v s H Q) : PGs X e t' := ⟨fun pins s σ H v u Q I r q => h.run pins s σ H v u Q I r (f v σ H Q q)⟩

/-! ### names and constants -/
def mVar (i : Nat) : ME := fun _ r M => match r[i]? with
  | some (some d) => .ok d M
  | _ => .bad
def mC (d : D) : ME := fun _ _ M => .ok d M
variable {T : Tb} {C : CC}
theorem ok_var {i : Nat} {x : Str} {pos : Pos} (hN : C.N[i]? = some x) (hv : Vis C.sc x) (hd : (x == ("__debug__" : Str)) = false) (hcd : (x == ("__classdict__" : Str)) = false) : OkE T C (.Name x pos) (mVar i) := by
  intro n X wx h
  refine PE.of (pe_var (i := i) (by rw [h.N]; exact hN) (by rw [h.sc]; exact hv) hd hcd) fun s H Q q => ?_
  obtain ⟨mu, M, r, mr, sr, sat⟩ := q
  unfold mVar at sat
  split at sat
  · rename_i d e
    obtain ⟨v, ev, dv⟩ := sr.get i d e
    exact ⟨v, ev, sat.ok mr v dv⟩
  · exact sat.elim
theorem ok_c {e : Expr} {d : D} {v : V} (hp : ∀ X : Cx, PE X e (tC v)) (hd : ∀ K : Kb, KRel K d v) : OkE T C e (mC d) := by
  intro n X wx h
  refine PE.of (hp X) fun s H Q q => ?_
  obtain ⟨mu, M, r, mr, sr, sat⟩ := q
  exact sat.ok mr v (hd _ _)
theorem ok_int {i j pos} : OkE T C (.Constant (.int i) j pos) (mC (.int i)) := ok_c (v := .int i) (fun _ => pe_int) fun _ _ => rfl
theorem ok_bl {b j pos} : OkE T C (.Constant (.bool b) j pos) (mC (.bl b)) := ok_c (v := .bl b) (fun _ => pe_bl) fun _ _ => rfl
theorem ok_non {j pos} : OkE T C (.Constant .none j pos) (mC .non) := ok_c (v := .non) (fun _ => pe_non) fun _ _ => rfl
theorem ok_str {x : Str} {j pos} : OkE T C (.Constant (.str x) j pos) (mC (.str x.cps.toList)) := ok_c (v := .str x) (fun _ => pe_str) fun _ _ => by
  simp [DRel]
theorem ok_con {x : Str} {d : D} {pos : Pos} (hl : T.con.lookup x = some d) (hg : C.sc.names.lookup x = some .globalImplicit) (hd : (x == ("__debug__" : Str)) = false) : OkE T C (.Name x pos) (mC d) := by
  intro n X wx h
  obtain ⟨u, v, e, rv, kr⟩ := h.con x d hl
  refine PE.of (pe_glob (v := v) (by show X.env.kindOf x = _; unfold Env.kindOf; rw [h.sc]; exact hg) e rv hd) fun s H Q q => ?_
  obtain ⟨mu, M, r, mr, sr, sat⟩ := q
  exact sat.ok mr v (kr _)

/-! ### arguments and displays -/
def mNil : MA := fun _ _ M => .ok [] M
def mCons (m : ME) (ms : MA) : MA := fun F r M => (m F r M).bind fun d M1 => (ms F r M1).bind fun ds M2 => .ok (d :: ds) M2
theorem ok_anil : OkA T C [] mNil := by
  intro n X wx h
  refine PA.of pa_nil fun s H Q q => ?_
  obtain ⟨mu, M, r, mr, sr, sat⟩ := q
  exact sat.ok mr [] rfl
def noStar : Expr → Bool
  | .Starred .. => false
  | _ => true
theorem noStar_each {e : Expr} {es : List Expr} {env : Env} (h : noStar e = true) : starEach (e :: es) env = (false, eval e env) :: starEach es env := by
  cases e <;> first | rfl | (exact absurd h (by decide)) | cases h
theorem ok_acons {e : Expr} {es : List Expr} {m : ME} {ms : MA} (hs : noStar e = true) (h1 : OkE T C e m) (h2 : OkA T C es ms) : OkA T C (e :: es) (mCons m ms) := by
  intro n X wx h
  refine PA.of (pa_cons (h1 n X wx h) (h2 n X wx h) (noStar_each hs)) fun s H Q q => ?_
  obtain ⟨mu, M, r, mr, sr, sat⟩ := q
  refine ⟨mu, M, r, mr, sr, sat.bind.imp fun d M1 W1 l1 m1 s1 v dv => ?_⟩
  refine ⟨W1.mu, M1, r, m1, sr.le l1, s1.bind.imp fun ds M2 W2 l2 m2 s2 vs dvs => ?_⟩
  exact s2.ok m2 (v :: vs) ⟨v, vs, rfl, DRel.le l2 d v dv, dvs⟩
abbrev LIM : Nat := 16777216
def mTup (ms : MA) : ME := fun F r M => (ms F r M).bind fun ds M1 => if ds.length ≤ LIM then .ok (.tup ds) M1 else .bad
def mLst (ms : MA) : ME := fun F r M => (ms F r M).bind fun ds M1 => if ds.length ≤ LIM then .ok (.lst ds) M1 else .bad
def newO (ds : List D) (M : Mem) : Res D := if D.bels M.length ds then .ok (.obj M.length) (M ++ [.lst ds]) else .bad
def mLstM (ms : MA) : ME := fun F r M => (ms F r M).bind fun ds M1 => if ds.length ≤ LIM then newO ds M1 else .bad
theorem lim_eq : LIM = sizeLine := by rw [sizeLine_eq]
theorem sat_ite {A : Type} {K : Kx} {W : Wd} {c : Prop} [Decidable c] {r : Res A} {P : A → Mem → Wd → Prop} (h : Sat K W (if c then r else .bad) P) : c ∧ Sat K W r P := by
  by_cases hc : c
  · rw [if_pos hc] at h; exact ⟨hc, h⟩
  · rw [if_neg hc] at h; exact h.elim
/-- a new tuple, a new list that is never changed, a new mutable list -/
theorem new_tup {K : Kx} {W : Wd} {M : Mem} {ds : List D} {vs : List V} {Q : VK} (m : MRel K W M) (dv : DRels K W ds vs) (h : Sat K W (.ok (.tup ds) M) (PV K Q)) {p : Addr} (hp : W.H p = none) : Q (.ref p) (upd W.H p (.tup vs)) := by
  obtain ⟨l, m'⟩ := m.laid hp (.tup vs)
  refine h _ l m' (.ref p) ?_
  simp only [DRel]
  exact ⟨p, vs, rfl, .inl ⟨.inl upd_same, m.fresh hp⟩, DRels.le l ds vs dv⟩
theorem new_lst {K : Kx} {W : Wd} {M : Mem} {ds : List D} {vs : List V} {Q : VK} (m : MRel K W M) (dv : DRels K W ds vs) (h : Sat K W (.ok (.lst ds) M) (PV K Q)) {p : Addr} (hp : W.H p = none) : Q (.ref p) (upd W.H p (.lst vs)) := by
  obtain ⟨l, m'⟩ := m.laid hp (.lst vs)
  refine h _ l m' (.ref p) ?_
  simp only [DRel]
  exact ⟨p, vs, rfl, .inl ⟨.inl upd_same, m.fresh hp⟩, DRels.le l ds vs dv⟩
theorem new_obj {K : Kx} {W : Wd} {M : Mem} {ds : List D} {vs : List V} {Q : VK} (m : MRel K W M) (dv : DRels K W ds vs) (h : Sat K W (newO ds M) (PV K Q)) {p : Addr} (hp : W.H p = none) : Q (.ref p) (upd W.H p (.lst vs)) := by
  obtain ⟨b, h⟩ := sat_ite h
  obtain ⟨l, m'⟩ := m.born hp dv b
  refine h _ l m' (.ref p) ?_
  simp only [DRel]
  refine ⟨p, rfl, ?_⟩
  show (W.mu.l ++ [p])[M.length]? = some p
  rw [← m.len, List.getElem?_append_right (Nat.le_refl _)]
  simp
theorem ok_tup {es : List Expr} {k pos} {ms : MA} (h1 : OkA T C es ms) : OkE T C (.Tuple es k pos) (mTup ms) := by
  intro n X wx h
  refine PE.of (pe_tup (h1 n X wx h)) fun s H Q q => ?_
  obtain ⟨mu, M, r, mr, sr, sat⟩ := q
  refine ⟨mu, M, r, mr, sr, sat.bind.imp fun ds M1 W1 l1 m1 s1 vs dvs => ?_⟩
  obtain ⟨hl, s1⟩ := sat_ite s1
  exact ⟨by rw [← dvs.length, ← lim_eq]; exact hl, fun p hp => new_tup m1 dvs s1 hp⟩
theorem ok_lst {es : List Expr} {pos} {ms : MA} (h1 : OkA T C es ms) : OkE T C (.List es pos) (mLst ms) := by
  intro n X wx h
  refine PE.of (pe_lst (h1 n X wx h)) fun s H Q q => ?_
  obtain ⟨mu, M, r, mr, sr, sat⟩ := q
  refine ⟨mu, M, r, mr, sr, sat.bind.imp fun ds M1 W1 l1 m1 s1 vs dvs => ?_⟩
  obtain ⟨hl, s1⟩ := sat_ite s1
  exact ⟨by rw [← dvs.length, ← lim_eq]; exact hl, fun p hp => new_lst m1 dvs s1 hp⟩
theorem ok_lstM {es : List Expr} {pos} {ms : MA} (h1 : OkA T C es ms) : OkE T C (.List es pos) (mLstM ms) := by
  intro n X wx h
  refine PE.of (pe_lst (h1 n X wx h)) fun s H Q q => ?_
  obtain ⟨mu, M, r, mr, sr, sat⟩ := q
  refine ⟨mu, M, r, mr, sr, sat.bind.imp fun ds M1 W1 l1 m1 s1 vs dvs => ?_⟩
  obtain ⟨hl, s1⟩ := sat_ite s1
  exact ⟨by rw [← dvs.length, ← lim_eq]; exact hl, fun p hp => new_obj m1 dvs s1 hp⟩

/-! ### two values -/
def rB (K : Kb) (f : D → D → Mem → Res D) : R2 := fun x y H Q => ∃ mu M dx dy, MRel K ⟨H, mu⟩ M ∧ DRel K ⟨H, mu⟩ dx x ∧ DRel K ⟨H, mu⟩ dy y ∧ Sat K.no ⟨H, mu⟩ (f dx dy M) (PV K Q)
def mB (f : D → D → Mem → Res D) (a b : ME) : ME := fun F r M => (a F r M).bind fun x M1 => (b F r M1).bind fun y M2 => (f x y M2).noX
theorem tOp_of {K : Kx} {F : FT} {f : D → D → Mem → Res D} {a b : ME} {s : L2.St} {H : Hp} {Q : VK} (q : rdE K F (mB f a b) s H Q) : tOp (rB K.b f) (rdE K F a) (rdE K F b) s H Q := by
  obtain ⟨mu, M, r, mr, sr, sat⟩ := q
  refine ⟨mu, M, r, mr, sr, sat.bind.imp fun x M1 W1 l1 m1 s1 v dv => ?_⟩
  refine ⟨W1.mu, M1, r, m1, sr.le l1, s1.bind.imp fun y M2 W2 l2 m2 s2 u du => ?_⟩
  exact ⟨W2.mu, M2, x, y, m2, DRel.le l2 x v dv, du, s2.noX⟩
theorem ok_bin {a b : Expr} {op : Operator} {pos : Pos} {f : D → D → Mem → Res D} {ma mb : ME} (ho : ∀ n X wx, CxOk T n C X wx → OpR X (binaryOp op) (rB (kb X) f)) (ha : OkE T C a ma) (hb : OkE T C b mb) : OkE T C (.BinOp a op b pos) (mB f ma mb) := by
  intro n X wx h
  exact PE.of (pe_op (ho n X wx h) (ha n X wx h) (hb n X wx h)) fun s H Q q => tOp_of q
theorem ok_cmp {a b : Expr} {op : CmpOp} {pos : Pos} {f : D → D → Mem → Res D} {ma mb : ME} (ho : ∀ n X wx, CxOk T n C X wx → OpR X (compareOp op) (rB (kb X) f)) (ha : OkE T C a ma) (hb : OkE T C b mb) (hm : behindInMarks op b = false) : OkE T C (.Compare a [op] [b] pos) (mB f ma mb) := by
  intro n X wx h
  exact PE.of (pe_cmpR (ho n X wx h) (ha n X wx h) (hb n X wx h) hm) fun s H Q q => tOp_of q
/-- a value that is a bool, as a test -/
def mTB (m : ME) : MT := fun F r M => (m F r M).bind fun d M1 => match d with
  | .bl b => .ok b M1
  | _ => .bad
theorem tB_of {K : Kx} {F : FT} {m : ME} {s : L2.St} {H : Hp} {Q : Bool → Hp → Prop} (q : rdT K F (mTB m) s H Q) : tTest (rdE K F m) s H Q := by
  obtain ⟨mu, M, r, mr, sr, sat⟩ := q
  refine ⟨mu, M, r, mr, sr, sat.bind.imp fun d M1 W1 l1 m1 s1 v dv => ?_⟩
  cases d with
  | bl b =>
    cases (show v = .bl b from dv)
    exact ⟨b, rfl, s1.ok m1⟩
  | _ => exact s1.elim
theorem ok_tcmp {a b : Expr} {op : CmpOp} {pos : Pos} {f : D → D → Mem → Res D} {ma mb : ME} (ho : ∀ n X wx, CxOk T n C X wx → OpR X (compareOp op) (rB (kb X) f)) (ha : OkE T C a ma) (hb : OkE T C b mb) (hm : behindInMarks op b = false) : OkT T C (.Compare a [op] [b] pos) (mTB (mB f ma mb)) := by
  intro n X wx h
  refine PT.of (pt_cmpR (ho n X wx h) (ha n X wx h) (hb n X wx h) hm) fun s H Q q => ?_
  obtain ⟨mu, M, r, mr, sr, sat⟩ := tB_of q
  exact tOp_of ⟨mu, M, r, mr, sr, sat⟩
end RI

namespace RI
open PySem PySem.Spec PyProof.Rows L2
variable {T : Tb} {C : CC}

/-! ### lists and tuples that are read -/
def lstD (M : Mem) : D → Option (List D)
  | .lst l => some l
  | .obj i => match M[i]? with
    | some (.lst l) => some l
    | _ => none
  | _ => none
def seqD (M : Mem) : D → Option (List D)
  | .tup l => some l
  | .lst l => some l
  | .obj i => match M[i]? with
    | some (.lst l) => some l
    | _ => none
  | _ => none
theorem lstD_at {K : Kb} {W : Wd} {M : Mem} {d : D} {l : List D} {v : V} (m : MRel K W M) (h : lstD M d = some l) (r : DRel K W d v) : ∃ a xs, v = .ref a ∧ SqL K.K W.H a xs ∧ DRels K W l xs := by
  cases d with
  | lst l' =>
    simp only [lstD, Option.some.injEq] at h
    subst h
    simp only [DRel] at r
    obtain ⟨a, xs, e, q, r⟩ := r
    exact ⟨a, xs, e, q.sq, r⟩
  | obj i =>
    simp only [DRel] at r
    obtain ⟨a, e, q⟩ := r
    simp only [lstD] at h
    cases e2 : M[i]? with
    | none => rw [e2] at h; cases h
    | some o =>
      rw [e2] at h
      cases o with
      | lst l' =>
        simp only [Option.some.injEq] at h
        subst h
        obtain ⟨xs, e3, r3, _⟩ := m.obj i a _ q e2
        exact ⟨a, xs, e, SqL.of e3, r3⟩
      | dct l' => cases h
  | _ => simp [lstD] at h
theorem seqD_at {K : Kb} {W : Wd} {M : Mem} {d : D} {l : List D} {v : V} (m : MRel K W M) (h : seqD M d = some l) (r : DRel K W d v) : ∃ a xs, v = .ref a ∧ (SqL K.K W.H a xs ∨ SqT K.K W.H a xs) ∧ DRels K W l xs := by
  by_cases ht : ∃ l', d = .tup l'
  · obtain ⟨l', rfl⟩ := ht
    simp only [seqD, Option.some.injEq] at h
    subst h
    simp only [DRel] at r
    obtain ⟨a, xs, e, q, r⟩ := r
    exact ⟨a, xs, e, .inr q.sq, r⟩
  · have h' : lstD M d = some l := by
      cases d with
      | tup l' => exact absurd ⟨l', rfl⟩ ht
      | _ => exact h
    obtain ⟨a, xs, e, q, r⟩ := lstD_at m h' r
    exact ⟨a, xs, e, .inl q, r⟩
theorem Rd.lstM {X : Cx} {pins : List (Addr × Obj)} {σ : L2.St} {H : Hp} {s : Shared} {l : Addr} {xs : List V} (I : Inv X pins σ H s) (hH : Rd H l (.lst xs)) : xs.length ≤ sizeLine ∧ ∃ (its : List Value) (n : Nat), Vals xs its ∧ xs.length = its.length ∧ s.heap.get? l = some { cls := .type "list", data := .seq its.toArray n } := by
  obtain ⟨z, its, n, r, e⟩ := hH.ok I.hok
  exact ⟨z, its, n, r, r.length, e⟩

/-! ### arithmetic -/
def cmul (i j : Int) : Bool := Nat.ble i.natAbs 18446744073709551615 || Nat.ble j.natAbs 18446744073709551615
def addD : D → D → Mem → Res D
  | .int i, .int j, M => .ok (.int (i + j)) M
  | .str a, .str b, M => if a.length + b.length ≤ LIM then .ok (.str (a ++ b)) M else .bad
  | .tup a, .tup b, M => if a.length + b.length ≤ LIM then .ok (.tup (a ++ b)) M else .bad
  | x, y, M => match lstD M x, lstD M y with
    | some a, some b => if a.length + b.length ≤ LIM then .ok (.lst (a ++ b)) M else .bad
    | _, _ => .bad
theorem op_catR {X : Cx} : OpR X (binaryOp .Add) (fun x y H Q => ∃ l b xs zs, x = .ref l ∧ y = .ref b ∧ SqL X.K H l xs ∧ SqL X.K H b zs ∧ xs.length + zs.length ≤ sizeLine ∧ ∀ p, H p = none → Q (.ref p) (upd H p (.lst (xs ++ zs)))) := by
  intro pins s σ H x y v u Q I rx ry h
  obtain ⟨l, b, xs, zs, rfl, rfl, hH, hB, hz, q⟩ := h
  cases rx
  cases ry
  obtain ⟨its, r, pl, z⟩ := I.list hH
  obtain ⟨its2, r2, pl2, z2⟩ := I.list hB
  have hl := r.length
  have hl2 := r2.length
  obtain ⟨⟨cls, dd, data, sl⟩, ho, hc, n, hd⟩ := pl.isList
  obtain ⟨⟨cls2, dd2, data2, sl2⟩, ho2, hc2, n2, hd2⟩ := pl2.isList
  simp only at hc hd hc2 hd2
  subst hc hd hc2 hd2
  refine concat_meets ⟨_, ho, rfl⟩ ⟨_, ho2, rfl⟩ noFill_list_add seq_list_add PySem.F.slot_list_add PySem.F.entry_list_add (PySem.F.args_list_add_2 _ _) (list_addW l b its.toArray its2.toArray n n2 dd dd2 sl sl2 (by simp only [List.size_toArray]; omega)) ⟨ho, ho2, ?_⟩
  have ea : its.toArray ++ its2.toArray = (its ++ its2).toArray := by simp
  rw [ea]
  exact ⟨.ref _, _, I.lnew (t' := s.toks) (r.append r2) (by rw [List.length_append]; omega), rfl, q _ I.fresh⟩
theorem str_len {a : List Nat} : (⟨a.toArray⟩ : Str).length = a.length := by simp [Str.length]
theorem str_app {a b : List Nat} : (⟨a.toArray⟩ ++ ⟨b.toArray⟩ : Str) = ⟨(a ++ b).toArray⟩ := by
  show Str.mk _ = _
  simp
theorem or_add {X : Cx} : OpR X (binaryOp .Add) (rB (kb X) addD) := by
  intro pins s σ H x y v u Q I rx ry h
  obtain ⟨mu, M, dx, dy, mr, hx, hy, sat⟩ := h
  unfold addD at sat
  split at sat
  · cases (show x = _ from hx); cases (show y = _ from hy)
    exact op_add pins s σ H _ _ v u Q I rx ry ⟨_, _, rfl, rfl, sat.ok mr _ rfl⟩
  · rename_i a b
    obtain ⟨hl, sat⟩ := sat_ite sat
    cases (show x = _ from hx); cases (show y = _ from hy)
    refine op_add_str pins s σ H _ _ v u Q I rx ry ⟨_, _, rfl, rfl, by rw [str_len, str_len, ← lim_eq]; exact hl, sat.ok mr _ ?_⟩
    rw [str_app]; rfl
  · rename_i a b
    obtain ⟨hl, sat⟩ := sat_ite sat
    simp only [DRel] at hx hy
    obtain ⟨p, xs, rfl, tp, rx'⟩ := hx
    obtain ⟨q, ys, rfl, tq, ry'⟩ := hy
    have l1 := rx'.length
    have l2 := ry'.length
    refine op_catA pins s σ H _ _ v u Q I rx ry ⟨p, q, xs, ys, rfl, rfl, tp.sq, tq.sq, by rw [← l1, ← l2, ← lim_eq]; exact hl, fun e => ?_, fun _ e => ?_, fun _ _ c hc => ?_⟩
    · subst e
      cases a with
      | nil => exact sat.ok mr _ (by simp only [DRel]; exact ⟨q, ys, rfl, tq, ry'⟩)
      | cons _ _ => simp at l1
    · subst e
      cases b with
      | nil => exact sat.ok mr _ (by simp only [DRel, List.append_nil]; exact ⟨p, xs, rfl, tp, rx'⟩)
      | cons _ _ => simp at l2
    · exact new_tup mr (rx'.append ry') sat hc
  · split at sat
    · rename_i a b ea eb
      obtain ⟨hl, sat⟩ := sat_ite sat
      obtain ⟨p, xs, rfl, tp, rx'⟩ := lstD_at mr ea hx
      obtain ⟨q, ys, rfl, tq, ry'⟩ := lstD_at mr eb hy
      exact op_catR pins s σ H _ _ v u Q I rx ry ⟨p, q, xs, ys, rfl, rfl, tp, tq, by rw [← rx'.length, ← ry'.length, ← lim_eq]; exact hl, fun c hc => new_lst mr (rx'.append ry') sat hc⟩
    · exact sat.elim
def intD (c : Int → Int → Bool) (g : Int → Int → D) : D → D → Mem → Res D
  | .int i, .int j, M => if c i j then .ok (g i j) M else .bad
  | _, _, _ => .bad
theorem or_int {X : Cx} {f : Value → Value → Sem Value} {c : Int → Int → Bool} {g : Int → Int → D} {P : Int → Int → Prop} {gv : Int → Int → V} (ho : OpR X f (rI P gv)) (hc : ∀ i j, c i j = true → P i j) (hg : ∀ K i j, KRel K (g i j) (gv i j)) : OpR X f (rB (kb X) (intD c g)) := by
  intro pins s σ H x y v u Q I rx ry h
  obtain ⟨mu, M, dx, dy, mr, hx, hy, sat⟩ := h
  unfold intD at sat
  split at sat
  · obtain ⟨hl, sat⟩ := sat_ite sat
    cases (show x = _ from hx); cases (show y = _ from hy)
    exact ho pins s σ H _ _ v u Q I rx ry ⟨_, _, rfl, rfl, hc _ _ hl, sat.ok mr _ (hg _ _ _ _)⟩
  · exact sat.elim
theorem or_int0 {X : Cx} {f : Value → Value → Sem Value} {g : Int → Int → D} {gv : Int → Int → V} (ho : OpR X f (rI0 gv)) (hg : ∀ K i j, KRel K (g i j) (gv i j)) : OpR X f (rB (kb X) (intD (fun _ _ => true) g)) := by
  intro pins s σ H x y v u Q I rx ry h
  obtain ⟨mu, M, dx, dy, mr, hx, hy, sat⟩ := h
  unfold intD at sat
  split at sat
  · obtain ⟨hl, sat⟩ := sat_ite sat
    cases (show x = _ from hx); cases (show y = _ from hy)
    exact ho pins s σ H _ _ v u Q I rx ry ⟨_, _, rfl, rfl, sat.ok mr _ (hg _ _ _ _)⟩
  · exact sat.elim
def subD : D → D → Mem → Res D := intD (fun _ _ => true) fun i j => .int (i - j)
def mulD : D → D → Mem → Res D := intD cmul fun i j => .int (i * j)
def fdivD : D → D → Mem → Res D := intD (fun _ j => decide (0 < j) && decide (j < 1073741824)) fun i j => .int (i / j)
def modD : D → D → Mem → Res D := intD (fun _ j => decide (0 < j)) fun i j => .int (i % j)
def powD : D → D → Mem → Res D := intD (fun i j => decide (0 ≤ j) && decide (j ≤ 1000000) && decide (i.natAbs < 2 ^ 64)) fun i j => .int (i ^ j.toNat)
theorem or_sub {X : Cx} : OpR X (binaryOp .Sub) (rB (kb X) subD) := or_int0 op_sub fun _ _ _ _ => rfl
theorem or_mul {X : Cx} : OpR X (binaryOp .Mult) (rB (kb X) mulD) := or_int op_mul (fun i j h => by
  have e : (2 : Int) ^ 64 = 18446744073709551616 := by decide +kernel
  show (-(2 ^ 64) < i ∧ i < 2 ^ 64) ∨ (-(2 ^ 64) < j ∧ j < 2 ^ 64)
  simp only [cmul, Bool.or_eq_true] at h
  rw [e]
  rcases h with h | h
  · have h := Nat.le_of_ble_eq_true h
    exact .inl (by omega)
  · have h := Nat.le_of_ble_eq_true h
    exact .inr (by omega)) fun _ _ _ _ => rfl
theorem or_fdiv {X : Cx} : OpR X (binaryOp .FloorDiv) (rB (kb X) fdivD) := or_int op_fdiv (fun i j h => by
  simp only [Bool.and_eq_true, decide_eq_true_eq] at h; exact h) fun _ _ _ _ => rfl
theorem or_mod {X : Cx} : OpR X (binaryOp .Mod) (rB (kb X) modD) := or_int op_mod (fun i j h => by
  simp only [decide_eq_true_eq] at h; exact h) fun _ _ _ _ => rfl
theorem or_pow {X : Cx} : OpR X (binaryOp .Pow) (rB (kb X) powD) := or_int op_pow (fun i j h => by
  simp only [Bool.and_eq_true, decide_eq_true_eq] at h; exact ⟨h.1.1, h.1.2, h.2⟩) fun _ _ _ _ => rfl
def ltD : D → D → Mem → Res D := intD (fun _ _ => true) fun i j => .bl (decide (i < j))
def leD : D → D → Mem → Res D := intD (fun _ _ => true) fun i j => .bl (decide (i ≤ j))
def gtD : D → D → Mem → Res D := intD (fun _ _ => true) fun i j => .bl (decide (j < i))
def geD : D → D → Mem → Res D := intD (fun _ _ => true) fun i j => .bl (decide (j ≤ i))
theorem or_lt {X : Cx} : OpR X (compareOp .Lt) (rB (kb X) ltD) := or_int0 op_lt fun _ _ _ _ => rfl
theorem or_le {X : Cx} : OpR X (compareOp .LtE) (rB (kb X) leD) := or_int0 op_le fun _ _ _ _ => rfl
theorem or_gt {X : Cx} : OpR X (compareOp .Gt) (rB (kb X) gtD) := or_int0 op_gt fun _ _ _ _ => rfl
theorem or_ge {X : Cx} : OpR X (compareOp .GtE) (rB (kb X) geD) := or_int0 op_ge fun _ _ _ _ => rfl

/-! ### equality of data -/
mutual
def D.toP : D → PyData
  | .non => .none
  | .bl b => .bool b
  | .int i => .int i
  | .str s => .str ⟨s.toArray⟩
  | .tup l => .tuple (D.toPs l)
  | .lst l => .list (D.toPs l)
  | .obj _ => .none
def D.toPs : List D → List PyData
  | [] => []
  | d :: ds => D.toP d :: D.toPs ds
end
mutual
def D.noObj : D → Bool
  | .obj _ => false
  | .tup l => D.noObjs l
  | .lst l => D.noObjs l
  | _ => true
def D.noObjs : List D → Bool
  | [] => true
  | d :: ds => D.noObj d && D.noObjs ds
end
mutual
theorem D.dp {K : Kb} {W : Wd} : ∀ (d : D) (v : V), D.noObj d = true → DRel K W d v → Dp K.K W.H v (D.toP d)
  | .non, v, _, h => by cases (show v = _ from h); exact .non
  | .bl b, v, _, h => by cases (show v = _ from h); exact .bl b
  | .int i, v, _, h => by cases (show v = _ from h); exact .int i
  | .str s, v, _, h => by cases (show v = _ from h); exact .str _
  | .tup l, v, b, h => by
    simp only [DRel] at h
    simp only [D.noObj] at b
    obtain ⟨a, xs, rfl, t, r⟩ := h
    exact .tup t.sq (D.dps l xs b r)
  | .lst l, v, b, h => by
    simp only [DRel] at h
    simp only [D.noObj] at b
    obtain ⟨a, xs, rfl, t, r⟩ := h
    exact .lst t.sq (D.dps l xs b r)
  | .obj i, v, b, h => by simp [D.noObj] at b
theorem D.dps {K : Kb} {W : Wd} : ∀ (ds : List D) (vs : List V), D.noObjs ds = true → DRels K W ds vs → DpAll K.K W.H vs (D.toPs ds)
  | [], vs, _, h => by cases (show vs = _ from h); exact .nil
  | d :: ds, vs, b, h => by
    simp only [DRels] at h
    simp only [D.noObjs, Bool.and_eq_true] at b
    obtain ⟨v, r, rfl, h1, h2⟩ := h
    exact .cons (D.dp d v b.1 h1) (D.dps ds r b.2 h2)
end
/-- an object's own list, its items not objects -/
def derefD (M : Mem) (d : D) : D := match d with
  | .obj i => match M[i]? with
    | some (.lst l) => .lst l
    | _ => .obj i
  | d => d
theorem deref_dp {K : Kb} {W : Wd} {M : Mem} {d : D} {v : V} (m : MRel K W M) (h : DRel K W d v) (b : D.noObj (derefD M d) = true) : Dp K.K W.H v (D.toP (derefD M d)) := by
  cases d with
  | obj i =>
    simp only [DRel] at h
    obtain ⟨a, rfl, q⟩ := h
    simp only [derefD] at b ⊢
    cases e : M[i]? with
    | none => rw [e] at b; simp [D.noObj] at b
    | some o =>
      cases o with
      | lst l =>
        rw [e] at b
        simp only [D.noObj] at b
        obtain ⟨xs, e3, r3, _⟩ := m.obj i a _ q e
        exact .lst (SqL.of e3) (D.dps l xs b r3)
      | dct l => rw [e] at b; simp [D.noObj] at b
  | _ => exact D.dp _ _ b h
def eqD (neg : Bool) (x y : D) (M : Mem) : Res D :=
  if (D.noObj (derefD M x) && D.noObj (derefD M y) && SeqAt.shaped (D.toP (derefD M x)) && SeqAt.shaped (D.toP (derefD M y))) = true then
    .ok (.bl (if neg then !PyData.eqv (D.toP (derefD M x)) (D.toP (derefD M y)) else PyData.eqv (D.toP (derefD M x)) (D.toP (derefD M y)))) M else .bad
theorem or_eq {X : Cx} (hu : X.A.units + 64 < cLine) : OpR X (compareOp .Eq) (rB (kb X) (eqD false)) := by
  intro pins s σ H x y v u Q I rx ry h
  obtain ⟨mu, M, dx, dy, mr, hx, hy, sat⟩ := h
  obtain ⟨hc, sat⟩ := sat_ite sat
  simp only [Bool.and_eq_true] at hc
  obtain ⟨⟨⟨h1, h2⟩, h3⟩, h4⟩ := hc
  exact op_eqD hu pins s σ H x y v u Q I rx ry ⟨_, _, deref_dp mr hx h1, deref_dp mr hy h2, h3, h4, sat.ok mr _ rfl⟩
theorem or_ne {X : Cx} (hu : X.A.units + 64 < cLine) : OpR X (compareOp .NotEq) (rB (kb X) (eqD true)) := by
  intro pins s σ H x y v u Q I rx ry h
  obtain ⟨mu, M, dx, dy, mr, hx, hy, sat⟩ := h
  obtain ⟨hc, sat⟩ := sat_ite sat
  simp only [Bool.and_eq_true] at hc
  obtain ⟨⟨⟨h1, h2⟩, h3⟩, h4⟩ := hc
  exact op_neD hu pins s σ H x y v u Q I rx ry ⟨_, _, deref_dp mr hx h1, deref_dp mr hy h2, h3, h4, sat.ok mr _ rfl⟩
/-- is None, is not None -/
def D.isNon : D → Bool
  | .non => true
  | _ => false
def isD (neg : Bool) (x y : D) (M : Mem) : Res D := match y with
  | .non => .ok (.bl (if neg then !x.isNon else x.isNon)) M
  | _ => .bad
theorem drel_non {K : Kb} {W : Wd} {d : D} {v : V} (h : DRel K W d v) : decide (v = .non) = d.isNon := by
  cases d with
  | non => cases (show v = _ from h); rfl
  | bl b => cases (show v = _ from h); rfl
  | int i => cases (show v = _ from h); rfl
  | str i => cases (show v = _ from h); rfl
  | tup l => simp only [DRel] at h; obtain ⟨a, xs, rfl, _⟩ := h; rfl
  | lst l => simp only [DRel] at h; obtain ⟨a, xs, rfl, _⟩ := h; rfl
  | obj i => simp only [DRel] at h; obtain ⟨a, rfl, _⟩ := h; rfl
theorem or_is {X : Cx} : OpR X (compareOp .Is) (rB (kb X) (isD false)) := by
  intro pins s σ H x y v u Q I rx ry h
  obtain ⟨mu, M, dx, dy, mr, hx, hy, sat⟩ := h
  unfold isD at sat
  split at sat
  · exact op_isN pins s σ H x y v u Q I rx ry ⟨hy, by rw [drel_non hx]; exact sat.ok mr _ rfl⟩
  · exact sat.elim
theorem or_isnot {X : Cx} : OpR X (compareOp .IsNot) (rB (kb X) (isD true)) := by
  intro pins s σ H x y v u Q I rx ry h
  obtain ⟨mu, M, dx, dy, mr, hx, hy, sat⟩ := h
  unfold isD at sat
  split at sat
  · exact op_notN pins s σ H x y v u Q I rx ry ⟨hy, by rw [drel_non hx]; exact sat.ok mr _ rfl⟩
  · exact sat.elim
end RI

namespace RI
open PySem PySem.Spec PyProof.Rows L2

/-! ### dicts whose keys are tuples -/
mutual
theorem key_is {X : Cx} {pins : List (Addr × Obj)} {σ : L2.St} {H : Hp} {s : Shared} {mu : Mu} (I : Inv X pins σ H s) : ∀ (d : D) (v : V) (u : Value), D.keyly d = true → DRel (kb X) ⟨H, mu⟩ d v → RelV v u → NestedIs s.heap (D.toK d) u
  | .non, v, u, _, h, r => by cases (show v = _ from h); cases (show u = _ from r); exact .none
  | .bl b, v, u, _, h, r => by cases (show v = _ from h); cases (show u = _ from r); exact .bool rfl
  | .int i, v, u, _, h, r => by
    cases (show v = _ from h)
    obtain ⟨t, rfl⟩ := (show ∃ t, u = Value.int i t from r)
    exact .int i t
  | .str x, v, u, _, h, r => by
    cases (show v = _ from h)
    obtain ⟨t, rfl⟩ := (show ∃ t, u = Value.str _ t from r)
    exact .text _ t
  | .tup l, v, u, k, h, r => by
    simp only [DRel] at h
    simp only [D.keyly] at k
    obtain ⟨a, xs, rfl, t, dr⟩ := h
    cases (show u = _ from r)
    obtain ⟨its, rv, p, hz⟩ := I.tuple t.sq
    obtain ⟨o, ho, hc, n, hd⟩ := p
    exact .tup ho hc hd (by simpa using keys_is I l xs its k dr rv)
  | .lst _, _, _, k, _, _ => by simp [D.keyly] at k
  | .obj _, _, _, k, _, _ => by simp [D.keyly] at k
theorem keys_is {X : Cx} {pins : List (Addr × Obj)} {σ : L2.St} {H : Hp} {s : Shared} {mu : Mu} (I : Inv X pins σ H s) : ∀ (ds : List D) (vs : List V) (us : List Value), D.keylys ds = true → DRels (kb X) ⟨H, mu⟩ ds vs → Vals vs us → NestedAll s.heap (D.toKs ds) us
  | [], vs, us, _, h, r => by
    cases (show vs = _ from h)
    cases r
    exact .nil
  | d :: ds, vs, us, k, h, r => by
    simp only [DRels] at h
    simp only [D.keylys, Bool.and_eq_true] at k
    obtain ⟨v, vr, rfl, h1, h2⟩ := h
    cases r with
    | cons r1 r2 => exact .cons (key_is I d v _ k.1 h1 r1) (keys_is I ds vr _ k.2 h2 r2)
end
theorem isKey_is {X : Cx} {pins : List (Addr × Obj)} {σ : L2.St} {H : Hp} {s : Shared} {mu : Mu} (I : Inv X pins σ H s) {d : D} {v : V} {u : Value} (k : D.isKey d = true) (h : DRel (kb X) ⟨H, mu⟩ d v) (r : RelV v u) : ∃ a, v = .ref a ∧ u = .ref a ∧ (nestedKind X.prog X.w).is s.heap (D.toK d) a := by
  cases d with
  | tup l =>
    simp only [D.isKey, Bool.and_eq_true] at k
    have h' := h
    simp only [DRel] at h'
    obtain ⟨a, xs, rfl, t, dr⟩ := h'
    cases (show u = _ from r)
    refine ⟨a, rfl, rfl, key_is I (.tup l) _ _ (by simp only [D.keyly]; exact k.1) h rfl, ?_⟩
    have := Nat.le_of_ble_eq_true k.2
    simp only [D.toK, NestedKey.depth]
    omega
  | _ => simp [D.isKey] at k
def dgetD (k : NestedKey) : List (D × D) → Option D
  | [] => none
  | p :: r => if NestedKey.beq (D.toK p.1) k = true then some p.2 else dgetD k r
def dsetD (kd v : D) (l : List (D × D)) : List (D × D) := if (dgetD (D.toK kd) l).isSome = true then l.map fun p => if NestedKey.beq (D.toK p.1) (D.toK kd) = true then (p.1, v) else p else l ++ [(kd, v)]
theorem beq_iff (a b : NestedKey) : NestedKey.beq a b = true ↔ a = b := by
  rw [← NestedKey.decide_eq]; exact decide_eq_true_iff
theorem dget_rel {K : Kb} {W : Wd} {i : Nat} (k : NestedKey) : ∀ {l : List (D × D)} {xs : List (NestedKey × Addr × Value)}, Paired (KVR K W i) l xs → (∀ d, dgetD k l = some d → ∃ p, atKey xs k = some p ∧ ∃ v, DRel K W d v ∧ RelV v p.2) ∧ (dgetD k l = none → atKey xs k = none)
  | _, _, .nil => ⟨fun d h => by simp [dgetD] at h, fun _ => rfl⟩
  | _, _, .cons (a := p) (b := x) r t => by
    obtain ⟨h1, h2, h3, ⟨v, h4, h5⟩, h6⟩ := r
    obtain ⟨i1, i2⟩ := dget_rel k t
    by_cases e : D.toK p.1 = k
    · have eb : NestedKey.beq (D.toK p.1) k = true := (beq_iff _ _).mpr e
      have ex : x.1 = k := h2.trans e
      refine ⟨fun d h => ?_, fun h => ?_⟩
      · simp only [dgetD, eb, if_true, Option.some.injEq] at h
        subst h
        exact ⟨x.2, by simp [atKey, ex], v, h4, h5⟩
      · simp only [dgetD, eb, if_true] at h; cases h
    · have eb : ¬ NestedKey.beq (D.toK p.1) k = true := fun z => e ((beq_iff _ _).mp z)
      have ex : ¬ x.1 = k := fun z => e (h2.symm.trans z)
      refine ⟨fun d h => ?_, fun h => ?_⟩
      · simp only [dgetD, eb, if_false] at h
        obtain ⟨q, hq, hv⟩ := i1 d h
        exact ⟨q, by simpa [atKey, ex] using hq, hv⟩
      · simp only [dgetD, eb, if_false] at h
        simpa [atKey, ex] using i2 h
theorem dget_some {K : Kb} {W : Wd} {i : Nat} (k : NestedKey) {l : List (D × D)} {xs : List (NestedKey × Addr × Value)} (h : Paired (KVR K W i) l xs) : (atKey xs k).isSome = (dgetD k l).isSome := by
  obtain ⟨i1, i2⟩ := dget_rel k h
  cases e : dgetD k l with
  | none => rw [i2 e]; rfl
  | some d => obtain ⟨p, hp, _⟩ := i1 d e; rw [hp]; rfl
theorem paired_app {α β : Type} {F : α → β → Prop} : ∀ {l1 l2 : List α} {m1 m2 : List β}, Paired F l1 m1 → Paired F l2 m2 → Paired F (l1 ++ l2) (m1 ++ m2)
  | _, _, _, _, .nil, h => h
  | _, _, _, _, .cons r t, h => .cons r (paired_app t h)
theorem dset_rel {K : Kb} {W : Wd} {i : Nat} {kd v : D} {ka : Addr} {vv : V} {u : Value} (hk : D.isKey kd = true) (hd : DRel K W kd (.ref ka)) (hv : DRel K W v vv) (hu : RelV vv u) (hb : D.bel i v = true) {l : List (D × D)} {xs : List (NestedKey × Addr × Value)} (h : Paired (KVR K W i) l xs) :
    Paired (KVR K W i) (dsetD kd v l) (storedH xs (D.toK kd) ka u) := by
  unfold dsetD storedH
  rw [dget_some (D.toK kd) h]
  cases (dgetD (D.toK kd) l).isSome with
  | false =>
    simp only [Bool.false_eq_true, if_false]
    exact paired_app h (.cons ⟨hk, rfl, hd, ⟨vv, hv, hu⟩, hb⟩ .nil)
  | true =>
    simp only [if_true]
    have key : ∀ {l : List (D × D)} {xs : List (NestedKey × Addr × Value)}, Paired (KVR K W i) l xs → Paired (KVR K W i) (l.map fun p => if NestedKey.beq (D.toK p.1) (D.toK kd) = true then (p.1, v) else p) (xs.map (putAt (D.toK kd) u)) := by
      intro l xs h
      induction h with
      | nil => exact .nil
      | @cons p x l' xs' r t ih =>
        simp only [List.map_cons]
        refine .cons ?_ ih
        obtain ⟨h1, h2, h3, h4, h6⟩ := r
        by_cases e : D.toK p.1 = D.toK kd
        · rw [if_pos ((beq_iff _ _).mpr e)]
          have : putAt (D.toK kd) u x = (x.1, x.2.1, u) := by simp [putAt, h2, e]
          rw [this]
          exact ⟨h1, h2, h3, ⟨vv, hv, hu⟩, hb⟩
        · rw [if_neg fun z => e ((beq_iff _ _).mp z)]
          have : putAt (D.toK kd) u x = x := by simp [putAt, h2, e]
          rw [this]
          exact ⟨h1, h2, h3, h4, h6⟩
    exact key h
section
variable {X : Cx} {pins : List (Addr × Obj)} {σ : L2.St} {H : Hp} {s : Shared} {mu : Mu} {M : Mem} {j : Nat} {a : Addr} {l : List (D × D)}
theorem dct_at (I : Inv X pins σ H s) (mr : MRel (kb X) ⟨H, mu⟩ M) (ha : mu.l[j]? = some a) (e : M[j]? = some (.dct l)) : ∃ xs, H a = some (DctO X.prog X.w a xs) ∧ s.heap.DictOfH (nestedKind X.prog X.w) a xs ∧ xs.length ≤ sizeLine ∧ (a == sysModules) = false ∧ Paired (KVR (kb X) ⟨H, mu⟩ j) l xs := by
  obtain ⟨xs, h1, h2, h3, h4, h5⟩ := mr.obj j a _ ha e
  refine ⟨xs, h1, ?_, h3, h4, h5⟩
  obtain ⟨o, es, ep, g1, g2, g3, g4⟩ := (I.hok a _ h1).1
  refine ⟨o, es, ep, g1, g2, g3, g4, ?_, h2⟩
  have key : ∀ {l : List (D × D)} {xs : List (NestedKey × Addr × Value)}, Paired (KVR (kb X) ⟨H, mu⟩ j) l xs → ∀ x ∈ xs, (nestedKind X.prog X.w).is s.heap x.1 x.2.1 := by
    intro l xs h
    induction h with
    | nil => intro x hx; cases hx
    | @cons p x l' xs' r t ih =>
      intro y hy
      rcases List.mem_cons.mp hy with rfl | hy
      · obtain ⟨q1, q2, q3, _, _⟩ := r
        obtain ⟨b, e1, e2, e3⟩ := isKey_is I q1 q3 (u := .ref y.2.1) rfl
        cases e1
        rw [q2]
        exact e3
      · exact ih y hy
  exact key h5
theorem dct_new {P : Program} {w : World} {H' : Hp} {h' : Heap} {xs : List (NestedKey × Addr × Value)} (d : h'.DictOfH (nestedKind P w) a xs) : ObjOk P w H' h' a (DctO P w a xs) := by
  obtain ⟨o, es, ep, g1, g2, g3, g4, _, _⟩ := d
  refine ⟨⟨o, es, ep, g1, g2, g3, g4⟩, ⟨o, g1⟩, fun h1 h2 p k => ?_⟩
  obtain ⟨o, es, ep, g1, g2, g3, g4⟩ := p
  exact ⟨o, es, ep, k o g1, g2, g3, g4⟩
theorem room_k {A : Around} (hu : A.units + 65 < cLine) : (nestedKind X.prog X.w).room A.in1 := by
  show A.units + 1 + 8 < cLine
  omega
end
end RI

namespace RI
open PySem PySem.Spec PyProof.Rows L2
variable {T : Tb} {C : CC}

/-- a dict -/
def dctD (M : Mem) : D → Option (List (D × D))
  | .obj i => match M[i]? with
    | some (.dct l) => some l
    | _ => none
  | _ => none
theorem dctD_obj {M : Mem} {d : D} {l : List (D × D)} (h : dctD M d = some l) : ∃ j, d = .obj j ∧ M[j]? = some (.dct l) := by
  cases d with
  | obj j =>
    simp only [dctD] at h
    refine ⟨j, rfl, ?_⟩
    split at h
    · rename_i l' e; rw [e]; cases h; rfl
    · cases h
  | _ => simp [dctD] at h
theorem dctD_none {M : Mem} {d : D} {l : List D} (h : seqD M d = some l) : dctD M d = none := by
  cases d with
  | obj j =>
    simp only [seqD] at h
    simp only [dctD]
    split at h
    · rename_i l' e; rw [e]
    · cases h
  | _ => rfl
/-! ### x in a list or tuple -/
def inK (neg : Bool) (x : D) (l : List (D × D)) (M : Mem) : Res D := if D.isKey x = true then .ok (.bl (if neg then !(dgetD (D.toK x) l).isSome else (dgetD (D.toK x) l).isSome)) M else .bad
def inS (neg : Bool) (x y : D) (M : Mem) : Res D := match seqD M y with
  | some l => if (D.noObj x && D.noObjs l && SeqAt.shaped (D.toP x) && PyData.canLayAll0 (D.toPs l)) = true then
      .ok (.bl (if neg then !(D.toPs l).any fun z => PyData.eqv z (D.toP x) else (D.toPs l).any fun z => PyData.eqv z (D.toP x))) M else .bad
  | none => .bad
def inD (neg : Bool) (x y : D) (M : Mem) : Res D := match dctD M y with
  | some l => inK neg x l M
  | none => inS neg x y M
theorem seqD_dp {K : Kb} {W : Wd} {M : Mem} {d : D} {l : List D} {v : V} (m : MRel K W M) (h : seqD M d = some l) (b : D.noObjs l = true) (r : DRel K W d v) : Dp K.K W.H v (.list (D.toPs l)) ∨ Dp K.K W.H v (.tuple (D.toPs l)) := by
  obtain ⟨a, xs, rfl, q, dr⟩ := seqD_at m h r
  rcases q with q | q
  · exact .inl (.lst q (D.dps l xs b dr))
  · exact .inr (.tup q (D.dps l xs b dr))
theorem room_in {A : Around} {d : PyData} {n : Nat} (h : SeqAt.shaped d = true) (hu : A.units + 65 < cLine) : A.units + 1 + min n d.depth < cLine := by
  have h1 := SeqAt.depth_of_shaped h
  have h2 : min n d.depth ≤ d.depth := Nat.min_le_right _ _
  omega
theorem or_in {X : Cx} (hu : X.A.units + 65 < cLine) : OpR X (compareOp .In) (rB (kb X) (inD false)) := by
  intro pins s σ H x y v u Q I rx ry h
  obtain ⟨mu, M, dx, dy, mr, hx, hy, sat⟩ := h
  unfold inD at sat
  split at sat
  · rename_i l e
    obtain ⟨j, rfl, ej⟩ := dctD_obj e
    obtain ⟨hk, sat⟩ := sat_ite sat
    simp only [DRel] at hy
    obtain ⟨a, rfl, ha⟩ := hy
    cases ry
    obtain ⟨ka, rfl, rfl, hki⟩ := isKey_is I hk hx rx
    obtain ⟨xs, h1, hd, h3, h4, h5⟩ := dct_at I mr ha ej
    have q := sat.ok mr _ rfl
    rw [← dget_some (D.toK dx) h5] at q
    exact wpAny_in_heap (room_k hu) hki h4 hd ⟨.bl _, H, I.tok _, rfl, q⟩
  unfold inS at sat
  split at sat
  · rename_i l e
    obtain ⟨hc, sat⟩ := sat_ite sat
    simp only [Bool.and_eq_true] at hc
    obtain ⟨⟨⟨h1, h2⟩, h3⟩, h4⟩ := hc
    obtain ⟨as, r1⟩ := Dp.reads I _ x v (D.dp dx x h1 hx) rx
    have q := sat.ok mr _ rfl
    rcases seqD_dp mr e h2 hy with hd | hd
    · obtain ⟨bs, r2⟩ := Dp.reads I _ y u hd ry
      exact SeqAt.in_list_reads r2 r1 h4 (SeqAt.canLay_of_shaped h3) (room_in h3 hu) ⟨.bl _, H, I, rfl, q⟩
    · obtain ⟨bs, r2⟩ := Dp.reads I _ y u hd ry
      exact SeqAt.in_tuple_reads r2 r1 h4 (SeqAt.canLay_of_shaped h3) (room_in h3 hu) ⟨.bl _, H, I, rfl, q⟩
  · exact sat.elim
theorem or_notin {X : Cx} (hu : X.A.units + 65 < cLine) : OpR X (compareOp .NotIn) (rB (kb X) (inD true)) := by
  intro pins s σ H x y v u Q I rx ry h
  obtain ⟨mu, M, dx, dy, mr, hx, hy, sat⟩ := h
  unfold inD at sat
  split at sat
  · rename_i l e
    obtain ⟨j, rfl, ej⟩ := dctD_obj e
    obtain ⟨hk, sat⟩ := sat_ite sat
    simp only [DRel] at hy
    obtain ⟨a, rfl, ha⟩ := hy
    cases ry
    obtain ⟨ka, rfl, rfl, hki⟩ := isKey_is I hk hx rx
    obtain ⟨xs, h1, hd, h3, h4, h5⟩ := dct_at I mr ha ej
    have q := sat.ok mr _ rfl
    rw [← dget_some (D.toK dx) h5] at q
    have q : Q (.bl (!(valueAt (pairsH xs) (D.toK dx)).isSome)) H := by rw [valueAt_pairsH, Option.isSome_map]; exact q
    exact notIn_keyed (room_k hu) hki h4 ⟨xs, hd, rfl⟩ ⟨.bl _, H, I.tok _, rfl, q⟩
  unfold inS at sat
  split at sat
  · rename_i l e
    obtain ⟨hc, sat⟩ := sat_ite sat
    simp only [Bool.and_eq_true] at hc
    obtain ⟨⟨⟨h1, h2⟩, h3⟩, h4⟩ := hc
    obtain ⟨as, r1⟩ := Dp.reads I _ x v (D.dp dx x h1 hx) rx
    have q := sat.ok mr _ rfl
    rcases seqD_dp mr e h2 hy with hd | hd
    · obtain ⟨bs, r2⟩ := Dp.reads I _ y u hd ry
      exact SeqAt.notIn_list_reads r2 r1 h4 (SeqAt.canLay_of_shaped h3) (room_in h3 hu) ⟨.bl _, H, I, rfl, q⟩
    · obtain ⟨bs, r2⟩ := Dp.reads I _ y u hd ry
      exact SeqAt.notIn_tuple_reads r2 r1 h4 (SeqAt.canLay_of_shaped h3) (room_in h3 hu) ⟨.bl _, H, I, rfl, q⟩
  · exact sat.elim

/-! ### items and slices -/
def ixS (x y : D) (M : Mem) : Res D := match y with
  | .int i => match seqD M x with
    | some l => match atI l i with
      | some d => .ok d M
      | none => .bad
    | none => .bad
  | _ => .bad
def ixK (l : List (D × D)) (y : D) (M : Mem) : Res D := if D.isKey y = true then (match dgetD (D.toK y) l with | some d => .ok d M | none => .bad) else .bad
def ixD (x y : D) (M : Mem) : Res D := match dctD M x with
  | some l => ixK l y M
  | none => ixS x y M
theorem atI_rel {K : Kb} {W : Wd} {l : List D} {xs : List V} {i : Int} {d : D} (r : DRels K W l xs) (h : atI l i = some d) : ∃ v, atI xs i = some v ∧ DRel K W d v := by
  unfold atI at h ⊢
  rw [← r.length]
  cases e : ixN l.length i with
  | none => rw [e] at h; cases h
  | some j =>
    rw [e] at h
    simp only [Option.bind_some] at h ⊢
    exact r.get h
theorem ixr_at {X : Cx} (hu : X.A.units + 65 < cLine) : IxR X (rB (kb X) ixD) := by
  intro value slice pins s σ H x y v u Q I rx ry h hsub
  obtain ⟨mu, M, dx, dy, mr, hx, hy, sat⟩ := h
  unfold ixD at sat
  split at sat
  · rename_i l e
    obtain ⟨j, rfl, ej⟩ := dctD_obj e
    obtain ⟨hk, sat⟩ := sat_ite sat
    simp only [DRel] at hx
    obtain ⟨a, rfl, ha⟩ := hx
    cases rx
    obtain ⟨ka, rfl, rfl, hki⟩ := isKey_is I hk hy ry
    obtain ⟨xs, h1, hd, h3, h4, h5⟩ := dct_at I mr ha ej
    split at sat
    · rename_i d ed
      obtain ⟨p, hp, v, dv, rv⟩ := (dget_rel (D.toK dy) h5).1 d ed
      exact tail_any hd.typeIs slot_dict_getitem.lookup (wpAny_getItem_heap (room_k hu) hki hd hp ⟨v, H, I.tok _, rv, sat.ok mr _ dv⟩) hsub
    · exact sat.elim
  unfold ixS at sat
  split at sat
  · rename_i i
    split at sat
    · rename_i l e
      split at sat
      · rename_i d ed
        cases (show y = _ from hy)
        obtain ⟨a, xs, rfl, q, dr⟩ := seqD_at mr e hx
        obtain ⟨w, ew, dw⟩ := atI_rel dr ed
        refine ix_seq value slice pins s σ H _ _ v u Q I rx ry ?_ hsub
        rcases q with q | q
        · exact .inl ⟨a, xs, i, w, rfl, rfl, q, ew, sat.ok mr _ dw⟩
        · exact .inr (.inl ⟨a, xs, i, w, rfl, rfl, q, ew, sat.ok mr _ dw⟩)
      · exact sat.elim
    · exact sat.elim
  · exact sat.elim
def noSlice : Expr → Bool
  | .Slice .. => false
  | _ => true
theorem noSlice_ix {b : Expr} (h : noSlice b = true) : PlainIx b := by
  intro o i
  cases b <;> first | rfl | cases h
theorem ok_ix {a b : Expr} {pos : Pos} {ma mb : ME} (hs : noSlice b = true) (ha : OkE T C a ma) (hb : OkE T C b mb) : OkE T C (.Subscript a b pos) (mB ixD ma mb) := by
  intro n X wx h
  exact PE.of (pe_ix (ixr_at (by have := h.room.un; omega)) (ha n X wx h) (hb n X wx h) (noSlice_ix hs)) fun s H Q q => tOp_of q
def cutD (l : List D) (lo hi : Option Int) : List D := (l.drop (HT.sIx l.length 0 lo)).take (HT.sIx l.length l.length hi - HT.sIx l.length 0 lo)
theorem cut_rel {K : Kb} {W : Wd} {l : List D} {xs : List V} (r : DRels K W l xs) (lo hi : Option Int) : DRels K W (cutD l lo hi) (cutV xs lo hi) := by
  unfold cutD cutV
  rw [r.length]
  exact (r.drop _).take _
def slD (x : D) (lo hi : Option Int) (M : Mem) : Res D := match x with
  | .tup l => .ok (.tup (cutD l lo hi)) M
  | x => match lstD M x with
    | some l => .ok (.lst (cutD l lo hi)) M
    | none => .bad
def rSlD (K : Kb) : V → Option Int → Option Int → Hp → VK → Prop := fun x lo hi H Q => ∃ mu M dx, MRel K ⟨H, mu⟩ M ∧ DRel K ⟨H, mu⟩ dx x ∧ Sat K.no ⟨H, mu⟩ (slD dx lo hi M) (PV K Q)
theorem cut_whole {α : Type} (l : List α) (lo hi : Option Int) (h : HT.sIx l.length 0 lo = 0 ∧ HT.sIx l.length l.length hi = l.length) : (l.drop (HT.sIx l.length 0 lo)).take (HT.sIx l.length l.length hi - HT.sIx l.length 0 lo) = l := by
  rw [h.1, h.2]; simp
theorem slr_d {X : Cx} : SlR X (rSlD (kb X)) := by
  intro pins s σ H x v vl vu lo hi sl Q I rx hs pl pu h
  obtain ⟨mu, M, dx, mr, hx, sat⟩ := h
  unfold slD at sat
  split at sat
  · rename_i l
    simp only [DRel] at hx
    obtain ⟨a, xs, rfl, t, r⟩ := hx
    refine sl_tupA pins s σ H _ v vl vu lo hi sl Q I rx hs pl pu ⟨a, xs, rfl, t.sq, fun hw => ?_, fun _ p hp => new_tup mr (cut_rel r lo hi) sat hp⟩
    refine sat.ok mr _ ?_
    have e : cutD l lo hi = l := cut_whole l lo hi (by rw [r.length]; exact hw)
    rw [e]
    simp only [DRel]
    exact ⟨a, xs, rfl, t, r⟩
  · split at sat
    · rename_i l e
      obtain ⟨a, xs, rfl, q, r⟩ := lstD_at mr e hx
      exact sl_list pins s σ H _ v vl vu lo hi sl Q I rx hs pl pu ⟨a, xs, rfl, q, fun p hp => new_lst mr (cut_rel r lo hi) sat hp⟩
    · exact sat.elim
abbrev MO' := FT → EV → Mem → Res (Option Int)
def rdO (K : Kx) (F : FT) (m : MO') : TO := fun s H Q => At K s H fun mu r M => Sat (K.at s) ⟨H, mu⟩ (m F r M) (fun o _ W => Q o W.H)
def mNoPart : MO' := fun _ _ M => .ok none M
def mPart (m : ME) : MO' := fun F r M => (m F r M).bind fun d M1 => match d with
  | .int i => .ok (some i) M1
  | _ => .bad
def OkO (T : Tb) (C : CC) (e : Option Expr) (m : MO') : Prop := ∀ n X wx, CxOk T n C X wx → PO X e (rdO (kx X wx) (callF T n) m)
theorem PO.of {X : Cx} {e : Option Expr} {t t' : TO} (h : PO X e t) (f : ∀ s H Q, t' s H Q → t s H Q) : PO X e t' := ⟨fun pins s σ H Q I q => h.run pins s σ H Q I (f σ H Q q)⟩
theorem ok_nopart : OkO T C none mNoPart := by
  intro n X wx h
  refine PO.of po_none fun s H Q q => ?_
  obtain ⟨mu, M, r, mr, sr, sat⟩ := q
  exact sat.ok mr
theorem ok_part {e : Expr} {m : ME} (he : OkE T C e m) : OkO T C (some e) (mPart m) := by
  intro n X wx h
  refine PO.of (po_some (he n X wx h)) fun s H Q q => ?_
  obtain ⟨mu, M, r, mr, sr, sat⟩ := q
  refine ⟨mu, M, r, mr, sr, sat.bind.imp fun d M1 W1 l1 m1 s1 v dv => ?_⟩
  cases d with
  | int i => cases (show v = _ from dv); exact ⟨i, rfl, s1.ok m1⟩
  | _ => exact s1.elim
def mSl (m : ME) (lo hi : MO') : ME := fun F r M => (m F r M).bind fun x M1 => (lo F r M1).bind fun i M2 => (hi F r M2).bind fun j M3 => (slD x i j M3).noX
theorem ok_slice {e : Expr} {lo hi : Option Expr} {p2 pos : Pos} {m : ME} {ml mh : MO'} (he : OkE T C e m) (hl : OkO T C lo ml) (hh : OkO T C hi mh) : OkE T C (.Subscript e (.Slice lo hi none p2) pos) (mSl m ml mh) := by
  intro n X wx h
  refine PE.of (pe_slice slr_d (he n X wx h) (hl n X wx h) (hh n X wx h)) fun s H Q q => ?_
  obtain ⟨mu, M, r, mr, sr, sat⟩ := q
  refine ⟨mu, M, r, mr, sr, sat.bind.imp fun d M1 W1 l1 m1 s1 v dv => ?_⟩
  refine ⟨W1.mu, M1, r, m1, sr.le l1, s1.bind.imp fun i M2 W2 l2 m2 s2 => ?_⟩
  refine ⟨W2.mu, M2, r, m2, sr.le (l1.trans l2), s2.bind.imp fun j M3 W3 l3 m3 s3 => ?_⟩
  exact ⟨W3.mu, M3, d, m3, DRel.le (l2.trans l3) d v dv, s3.noX⟩

/-! ### tests -/
def mAnd (a b : MT) : MT := fun F r M => (a F r M).bind fun c M1 => if c then b F r M1 else .ok false M1
def mOr (a b : MT) : MT := fun F r M => (a F r M).bind fun c M1 => if c then .ok true M1 else b F r M1
def mNot (a : MT) : MT := fun F r M => (a F r M).bind fun c M1 => .ok (!c) M1
def OkW (T : Tb) (C : CC) (e : Expr) (m : MT) : Prop := ∀ n X wx, CxOk T n C X wx → PW X e (rdT (kx X wx) (callF T n) m)
theorem PW.of {X : Cx} {e : Expr} {t t' : TT} (h : PW X e t) (f : ∀ s H Q, t' s H Q → t s H Q) : PW X e t' := ⟨fun wh pins s σ H Q I q => h.run wh pins s σ H Q I (f σ H Q q)⟩
theorem ok_wt {e : Expr} {m : MT} (h : OkW T C e m) : OkT T C e m := fun n X wx q => (h n X wx q).pt
theorem ok_and1 {a : Expr} {pos : Pos} {m : MT} (h : OkT T C a m) : OkW T C (.BoolOp .And [a] pos) m := fun n X wx q => pw_and1 (h n X wx q)
theorem ok_or1 {a : Expr} {pos : Pos} {m : MT} (h : OkT T C a m) : OkW T C (.BoolOp .Or [a] pos) m := fun n X wx q => pw_or1 (h n X wx q)
theorem ok_and {a b : Expr} {r : List Expr} {pos : Pos} {m m' : MT} (h : OkT T C a m) (h' : OkW T C (.BoolOp .And (b :: r) pos) m') : OkW T C (.BoolOp .And (a :: b :: r) pos) (mAnd m m') := by
  intro n X wx q
  refine PW.of (pw_and (h n X wx q) (h' n X wx q)) fun s H Q w => ?_
  obtain ⟨mu, M, r, mr, sr, sat⟩ := w
  refine ⟨mu, M, r, mr, sr, sat.bind.imp fun c M1 W1 l1 m1 s1 => ?_⟩
  cases c with
  | true => exact iteT ⟨W1.mu, M1, r, m1, sr.le l1, s1⟩
  | false => exact iteF (Sat.ok (a := false) s1 m1)
theorem ok_or {a b : Expr} {r : List Expr} {pos : Pos} {m m' : MT} (h : OkT T C a m) (h' : OkW T C (.BoolOp .Or (b :: r) pos) m') : OkW T C (.BoolOp .Or (a :: b :: r) pos) (mOr m m') := by
  intro n X wx q
  refine PW.of (pw_or (h n X wx q) (h' n X wx q)) fun s H Q w => ?_
  obtain ⟨mu, M, r, mr, sr, sat⟩ := w
  refine ⟨mu, M, r, mr, sr, sat.bind.imp fun c M1 W1 l1 m1 s1 => ?_⟩
  cases c with
  | true => exact iteT (Sat.ok (a := true) s1 m1)
  | false => exact iteF ⟨W1.mu, M1, r, m1, sr.le l1, s1⟩
theorem ok_tnot {a : Expr} {pos : Pos} {m : MT} (h : OkT T C a m) : OkT T C (.UnaryOp .Not a pos) (mNot m) := by
  intro n X wx q
  refine PT.of (pt_not (h n X wx q)) fun s H Q w => ?_
  obtain ⟨mu, M, r, mr, sr, sat⟩ := w
  exact ⟨mu, M, r, mr, sr, sat.bind.imp fun c M1 W1 l1 m1 s1 => Sat.ok s1 m1⟩
/-- as values (bools) -/
def mAndV (a b : ME) : ME := fun F r M => (mTB a F r M).bind fun c M1 => if c then b F r M1 else .ok (.bl false) M1
def mOrV (a b : ME) : ME := fun F r M => (mTB a F r M).bind fun c M1 => if c then .ok (.bl true) M1 else b F r M1
def mNotV (a : ME) : ME := fun F r M => (mTB a F r M).bind fun c M1 => .ok (.bl (!c)) M1
theorem ok_one {op} {a : Expr} {pos : Pos} {m : ME} (h : OkE T C a m) : OkE T C (.BoolOp op [a] pos) m := fun n X wx q => pe_one (h n X wx q)
theorem mTB_at {K : Kx} {F : FT} {m : ME} {r : EV} {M : Mem} {W : Wd} {P : Bool → Mem → Wd → Prop} (h : Sat K W (mTB m F r M) P) : Sat K W (m F r M) (fun d M1 W1 => ∃ c, d = .bl c ∧ P c M1 W1) := by
  refine h.bind.imp fun d M1 W1 l1 m1 s1 => ?_
  cases d with
  | bl c => exact ⟨c, rfl, s1.ok m1⟩
  | _ => exact s1.elim
theorem ok_andV {a b : Expr} {r : List Expr} {pos : Pos} {m m' : ME} (h : OkE T C a m) (h' : OkE T C (.BoolOp .And (b :: r) pos) m') : OkE T C (.BoolOp .And (a :: b :: r) pos) (mAndV m m') := by
  intro n X wx q
  refine PE.of (pe_and (h n X wx q) (h' n X wx q)) fun s H Q w => ?_
  obtain ⟨mu, M, r, mr, sr, sat⟩ := w
  refine ⟨mu, M, r, mr, sr, (mTB_at sat.bind).imp fun d M1 W1 l1 m1 s1 v dv => ?_⟩
  obtain ⟨c, rfl, s1⟩ := s1
  cases (show v = _ from dv)
  refine ⟨c, rfl, ?_⟩
  cases c with
  | true => exact iteT ⟨W1.mu, M1, r, m1, sr.le l1, s1⟩
  | false => exact iteF (Sat.ok (show Sat _ _ (Res.ok (D.bl false) M1) _ from s1) m1 _ rfl)
theorem ok_orV {a b : Expr} {r : List Expr} {pos : Pos} {m m' : ME} (h : OkE T C a m) (h' : OkE T C (.BoolOp .Or (b :: r) pos) m') : OkE T C (.BoolOp .Or (a :: b :: r) pos) (mOrV m m') := by
  intro n X wx q
  refine PE.of (pe_or (h n X wx q) (h' n X wx q)) fun s H Q w => ?_
  obtain ⟨mu, M, r, mr, sr, sat⟩ := w
  refine ⟨mu, M, r, mr, sr, (mTB_at sat.bind).imp fun d M1 W1 l1 m1 s1 v dv => ?_⟩
  obtain ⟨c, rfl, s1⟩ := s1
  cases (show v = _ from dv)
  refine ⟨c, rfl, ?_⟩
  cases c with
  | true => exact iteT (Sat.ok (show Sat _ _ (Res.ok (D.bl true) M1) _ from s1) m1 _ rfl)
  | false => exact iteF ⟨W1.mu, M1, r, m1, sr.le l1, s1⟩
theorem ok_notV {a : Expr} {pos : Pos} {m : ME} (h : OkE T C a m) : OkE T C (.UnaryOp .Not a pos) (mNotV m) := by
  intro n X wx q
  refine PE.of (pe_not (h n X wx q)) fun s H Q w => ?_
  obtain ⟨mu, M, r, mr, sr, sat⟩ := w
  refine ⟨mu, M, r, mr, sr, (mTB_at sat.bind).imp fun d M1 W1 l1 m1 s1 v dv => ?_⟩
  obtain ⟨c, rfl, s1⟩ := s1
  cases (show v = _ from dv)
  exact ⟨c, rfl, s1.ok m1 _ rfl⟩
def mIf (c : MT) (a b : ME) : ME := fun F r M => (c F r M).bind fun k M1 => if k then a F r M1 else b F r M1
theorem ok_if {c a b : Expr} {pos : Pos} {mc : MT} {ma mb : ME} (hc : OkT T C c mc) (ha : OkE T C a ma) (hb : OkE T C b mb) : OkE T C (.IfExp c a b pos) (mIf mc ma mb) := by
  intro n X wx q
  refine PE.of (pe_ifExp (hc n X wx q) (ha n X wx q) (hb n X wx q)) fun s H Q w => ?_
  obtain ⟨mu, M, r, mr, sr, sat⟩ := w
  refine ⟨mu, M, r, mr, sr, sat.bind.imp fun k M1 W1 l1 m1 s1 => ?_⟩
  cases k with
  | true => exact iteT ⟨W1.mu, M1, r, m1, sr.le l1, s1⟩
  | false => exact iteF ⟨W1.mu, M1, r, m1, sr.le l1, s1⟩
/-- truth of a value of any kind -/
def truD (d : D) (M : Mem) : Res Bool := match d with
  | .non => .ok false M
  | .bl b => .ok b M
  | .int i => .ok (i != 0) M
  | d => match seqD M d with
    | some l => .ok (!l.isEmpty) M
    | none => .bad
def mTru (m : ME) : MT := fun F r M => (m F r M).bind fun d M1 => truD d M1
def plainTest : Expr → Bool
  | .UnaryOp .Not _ _ => false
  | .BoolOp .. => false
  | .IfExp .. => false
  | .Compare .. => false
  | _ => true
theorem plain_isTrue {e : Expr} {env : Env} (h : plainTest e = true) : ∀ whole, isTrue e env whole = (do let v ← whole; standAt e.pos; holding [v] (truthy v)) := by
  intro whole
  cases e <;> first | rfl | cases h | skip
  rename_i op x p
  cases op <;> first | rfl | cases h
theorem isEmpty_rel {K : Kb} {W : Wd} {l : List D} {xs : List V} (r : DRels K W l xs) : xs.isEmpty = l.isEmpty := by
  have := r.length
  cases l <;> cases xs <;> simp at this ⊢
theorem tru_of {K : Kx} {W : Wd} {M : Mem} {d : D} {v : V} {P : Bool → Mem → Wd → Prop} (m : MRel K W M) (h : Sat K W (truD d M) P) (r : DRel K W d v) : ∃ k, TruV K.b.K v W.H k ∧ P k M W := by
  unfold truD at h
  split at h
  · cases (show v = _ from r); exact ⟨false, rfl, h.ok m⟩
  · cases (show v = _ from r); exact ⟨_, rfl, h.ok m⟩
  · cases (show v = _ from r); exact ⟨_, rfl, h.ok m⟩
  · split at h
    · rename_i l e
      obtain ⟨a, xs, rfl, q, dr⟩ := seqD_at m e r
      refine ⟨_, ?_, h.ok m⟩
      rcases q with q | q
      · exact .inl ⟨xs, q, by rw [isEmpty_rel dr]⟩
      · exact .inr (.inl ⟨xs, q, by rw [isEmpty_rel dr]⟩)
    · exact h.elim
theorem ok_tru {e : Expr} {m : ME} (hp : plainTest e = true) (h : OkE T C e m) : OkT T C e (mTru m) := by
  intro n X wx q
  refine PT.of (pt_truth (h n X wx q) (plain_isTrue hp)) fun s H Q w => ?_
  obtain ⟨mu, M, r, mr, sr, sat⟩ := w
  refine ⟨mu, M, r, mr, sr, sat.bind.imp fun d M1 W1 l1 m1 s1 v dv => ?_⟩
  obtain ⟨k, t, p⟩ := tru_of m1 s1 dv
  exact ⟨k, t, p⟩
end RI

namespace RI
open PySem PySem.Spec PyProof.Rows L2
variable {T : Tb} {C : CC}

/-! ### calls -/
theorem noStars_any {env : Env} {pos : Pos} : ∀ {es : List Expr}, es.all noStar = true → (backTo pos (starEach es env)).any (·.1) = false
  | [], _ => rfl
  | e :: es, h => by
    rw [List.all_cons, Bool.and_eq_true] at h
    rw [noStar_each h.1]
    show (false || (backTo pos (starEach es env)).any (·.1)) = false
    rw [noStars_any h.2]; rfl
theorem gl_of {n : Nat} {X : Cx} {wx : Ex → L2.St → Wd → Prop} (h : CxOk T n C X wx) {x : Str} (hg : C.sc.names.lookup x = some .globalImplicit) : Gl X x := by
  show X.env.kindOf x = _
  unfold Env.kindOf
  rw [h.sc]; exact hg
def mCall (k : Nat) (ms : MA) : ME := fun F r M => (ms F r M).bind fun ds M1 => F k ds M1
theorem callF_len {n k : Nat} {f : Fn} {ds : List D} {M : Mem} (hf : T.fns[k]? = some f) {K : Kx} {W : Wd} {P : D → Mem → Wd → Prop} (h : Sat K W (callF T n k ds M) P) : ds.length = f.ps.length := by
  cases n with
  | zero => exact h.elim
  | succ n =>
    simp only [callF, hf] at h
    by_cases hl : ds.length = f.ps.length
    · exact hl
    · rw [if_neg hl] at h; exact h.elim
section
variable {X : Cx} {k : Nat} {f : Addr} {fd : FuncData} {ps : List Str} {sp : Sp} {x : Str} {p pos : Pos} {e : Expr} {es : List Expr} {t : TA} {Wx : WX}
/-- the callee runs; what it lets out is wished of the slots that stand -/
theorem run_fnS {pins : List (Addr × Obj)} {σ : L2.St} {H : Hp} {s : Shared} {Q : VK} {us : List Value} {vs : List V} (F : FnOk X.prog X.w X.K X.mg X.base (L2.CX X.prog X.w) k f fd ps sp) (hr : Room k X.A) (hb : Binds X.K fd ps []) (tk : Takes X Wx)
    (I : Inv X pins σ H s) (r : Vals vs us) (h : sp vs H Q (fun cls d H' => Wx cls d σ H')) : wpAny (model X.prog X.w) X.A (call (.ref f) us) (EP X pins σ Q) X.xe s := by
  have hl : (us ++ []).length = ps.length := by rw [List.append_nil, ← r.length]; exact F.len _ _ _ _ h
  have hb' := hb s us I.kIn hl
  rw [List.append_nil] at hb'
  refine wpAny_call (codeAny_mono (F.run X.A X.stack s H ⟨us, []⟩ us vs Q _ hr I.env0 hb' r h) fun r s' hq => ?_)
  cases r with
  | error e => exact tk e s' (XE.of_call I (fun _ _ _ h => h) hq)
  | ok fl =>
    cases fl with
    | ret u => exact I.after hq
    | next => exact False.elim hq
    | brk => exact False.elim hq
    | cont => exact False.elim hq
theorem pe_callS (F : FnOk X.prog X.w X.K X.mg X.base (L2.CX X.prog X.w) k f fd ps sp) (hr : Room k X.A) (hg : Gl X x) (hm : X.mg x = some (.ref f)) (hk : PySem.W.keepIn X.K (.ref f) = true) (hb : Binds X.K fd ps []) (tk : Takes X Wx)
    (ha : PA X (e :: es) t) (hdb : (x == ("__debug__" : Str)) = false) (he : starEach (e :: es) X.env = (false, eval e X.env) :: starEach es X.env) (hpl : (backTo pos (starEach es X.env)).any (·.1) = false) :
    PE X (.Call (.Name x p) (e :: es) [] pos) (fun σ H Q => t σ H fun vs H1 => sp vs H1 Q (fun cls d H' => Wx cls d σ H')) := by
  refine ⟨fun pins s σ H Q I h => ?_⟩
  refine wpAny_Call_Name_kw (ld_glob I hg hm ?_ hdb)
  refine PySem.W.callWith_K (h₀ := X.base) I.ok.mod.kin hk (thn (ha.run pos pins s σ H _ I h) fun us s1 ⟨vs, H1, I1, r, q⟩ => ⟨I1.kIn, ?_⟩) he hpl
  exact run_fnS F hr hb tk I1 r q
theorem pe_callS0 (F : FnOk X.prog X.w X.K X.mg X.base (L2.CX X.prog X.w) k f fd ps sp) (hr : Room k X.A) (hg : Gl X x) (hm : X.mg x = some (.ref f)) (hk : PySem.W.keepIn X.K (.ref f) = true) (hb : Binds X.K fd ps []) (tk : Takes X Wx)
    (hdb : (x == ("__debug__" : Str)) = false) : PE X (.Call (.Name x p) [] [] pos) (fun σ H Q => sp [] H Q (fun cls d H' => Wx cls d σ H')) := by
  refine ⟨fun pins s σ H Q I h => ?_⟩
  refine wpAny_Call_Name_kw (ld_glob I hg hm ?_ hdb)
  exact PySem.W.callWith_K0 I.kIn hk (run_fnS (us := []) F hr hb tk I .nil h)
end
/-- the wish told by data is the wish told of the heap -/
theorem Sat.call {A : Type} {X : Cx} {wx : Ex → L2.St → Wd → Prop} {s : L2.St} {W : Wd} {r : Res A} {P : A → Mem → Wd → Prop} (h : Sat ((kx X wx).at s) W r P) : Sat ⟨kb X, xwOf (kb X) (fun cls d H' => wOf X wx cls d s H'), []⟩ W r P := by
  cases r with
  | ok a M => exact h
  | exc x M => exact fun W' l m cls d er => ⟨x, W'.mu, er, h W' l m⟩
  | bad => exact h
theorem ok_call {k : Nat} {f : Fn} {x : Str} {p pos : Pos} {e : Expr} {es : List Expr} {ms : MA} (hf : T.fns[k]? = some f) (hx : f.name = x) (hg : C.sc.names.lookup x = some .globalImplicit) (hdb : (x == ("__debug__" : Str)) = false)
    (hs : (e :: es).all noStar = true) (ha : OkA T C (e :: es) ms) : OkE T C (.Call (.Name x p) (e :: es) [] pos) (mCall k ms) := by
  intro n X wx h
  obtain ⟨a, fd, hm, hk, hb, G⟩ := h.fns k f hf
  rw [hx] at hm
  rw [List.all_cons, Bool.and_eq_true] at hs
  refine PE.of (pe_callS G h.room (gl_of h hg) hm hk hb h.tk (ha n X wx h) hdb (noStar_each hs.1) (noStars_any hs.2)) fun s H Q q => ?_
  obtain ⟨mu, M, r, mr, sr, sat⟩ := q
  refine ⟨mu, M, r, mr, sr, sat.bind.imp fun ds M1 W1 l1 m1 s1 vs dvs => ?_⟩
  exact ⟨by rw [← dvs.length]; exact callF_len hf s1, W1.mu, M1, ds, m1, dvs, s1.call⟩
theorem ok_call0 {k : Nat} {f : Fn} {x : Str} {p pos : Pos} (hf : T.fns[k]? = some f) (hx : f.name = x) (hg : C.sc.names.lookup x = some .globalImplicit) (hdb : (x == ("__debug__" : Str)) = false) : OkE T C (.Call (.Name x p) [] [] pos) (mCall k mNil) := by
  intro n X wx h
  obtain ⟨a, fd, hm, hk, hb, G⟩ := h.fns k f hf
  rw [hx] at hm
  refine PE.of (pe_callS0 G h.room (gl_of h hg) hm hk hb h.tk hdb) fun s H Q q => ?_
  obtain ⟨mu, M, r, mr, sr, sat⟩ := q
  have s1 : Sat ((kx X wx).at s) ⟨H, mu⟩ (callF T n k [] M) (PV (kb X) Q) := sat
  exact ⟨callF_len hf s1, mu, M, [], mr, rfl, s1.call⟩
/-- built-ins by values -/
def rC (K : Kb) (f : List D → Mem → Res D) : List V → Hp → VK → Prop := fun xs H Q => ∃ mu M ds, MRel K ⟨H, mu⟩ M ∧ DRels K ⟨H, mu⟩ ds xs ∧ Sat K.no ⟨H, mu⟩ (f ds M) (PV K Q)
def mBl (f : List D → Mem → Res D) (ms : MA) : ME := fun F r M => (ms F r M).bind fun ds M1 => (f ds M1).noX
theorem tCB_of {K : Kx} {F : FT} {f : List D → Mem → Res D} {ms : MA} {s : L2.St} {H : Hp} {Q : VK} (q : rdE K F (mBl f ms) s H Q) : tCB (rC K.b f) (rdA K F ms) s H Q := by
  obtain ⟨mu, M, r, mr, sr, sat⟩ := q
  refine ⟨mu, M, r, mr, sr, sat.bind.imp fun ds M1 W1 l1 m1 s1 vs dvs => ?_⟩
  exact ⟨W1.mu, M1, ds, m1, dvs, s1.noX⟩
theorem ok_blt {x : Str} {id : String} {p pos : Pos} {e : Expr} {es : List Expr} {f : List D → Mem → Res D} {ms : MA} (hc : ∀ n X wx, CxOk T n C X wx → CallR X (.builtin id) (rC (kb X) f)) (hx : x ∈ T.blt) (hg : C.sc.names.lookup x = some .globalImplicit) (hv : bootBuiltins x = some (.builtin id)) (hn : x ≠ "__name__") (hdb : (x == ("__debug__" : Str)) = false)
    (hs : (e :: es).all noStar = true) (ha : OkA T C (e :: es) ms) : OkE T C (.Call (.Name x p) (e :: es) [] pos) (mBl f ms) := by
  intro n X wx h
  rw [List.all_cons, Bool.and_eq_true] at hs
  exact PE.of (pe_callB (hc n X wx h) (gl_of h hg) (h.blt x hx) hv (ha n X wx h) hn hdb (noStar_each hs.1) (noStars_any hs.2)) fun s H Q q => tCB_of q
theorem ok_bty {x : Str} {id : String} {p pos : Pos} {e : Expr} {es : List Expr} {f : List D → Mem → Res D} {ms : MA} (hc : ∀ n X wx, CxOk T n C X wx → CallR X (.type id) (rC (kb X) f)) (hx : x ∈ T.blt) (hg : C.sc.names.lookup x = some .globalImplicit) (hv : bootBuiltins x = some (.type id)) (hn : x ≠ "__name__") (hdb : (x == ("__debug__" : Str)) = false)
    (hs : (e :: es).all noStar = true) (ha : OkA T C (e :: es) ms) : OkE T C (.Call (.Name x p) (e :: es) [] pos) (mBl f ms) := by
  intro n X wx h
  rw [List.all_cons, Bool.and_eq_true] at hs
  exact PE.of (pe_callTy (hc n X wx h) (gl_of h hg) (h.blt x hx) hv (ha n X wx h) hn hdb (noStar_each hs.1) (noStars_any hs.2)) fun s H Q q => tCB_of q
theorem rels1 {K : Kb} {W : Wd} {d : D} {xs : List V} (h : DRels K W [d] xs) : ∃ v, xs = [v] ∧ DRel K W d v := by
  simp only [DRels] at h
  obtain ⟨v, r, rfl, h1, rfl⟩ := h
  exact ⟨v, rfl, h1⟩
theorem rels2 {K : Kb} {W : Wd} {d e : D} {xs : List V} (h : DRels K W [d, e] xs) : ∃ v u, xs = [v, u] ∧ DRel K W d v ∧ DRel K W e u := by
  simp only [DRels] at h
  obtain ⟨v, r, rfl, h1, u, r', rfl, h2, rfl⟩ := h
  exact ⟨v, u, rfl, h1, h2⟩
def lenD (ds : List D) (M : Mem) : Res D := match ds with
  | [.str s] => if s.length ≤ LIM then .ok (.int s.length) M else .bad
  | [d] => match seqD M d with
    | some l => .ok (.int l.length) M
    | none => .bad
  | _ => .bad
theorem cr_len {X : Cx} : CallR X (.builtin "len") (rC (kb X) lenD) := by
  intro pins s σ H xs us Q I r h
  obtain ⟨mu, M, ds, mr, dr, sat⟩ := h
  unfold lenD at sat
  split at sat
  · obtain ⟨hl, sat⟩ := sat_ite sat
    obtain ⟨v, rfl, dv⟩ := rels1 dr
    cases (show v = _ from dv)
    refine call_len_str pins s σ H _ us Q I r ⟨_, rfl, by rw [str_len, ← lim_eq]; exact hl, ?_⟩
    rw [str_len]
    exact sat.ok mr _ rfl
  · split at sat
    · rename_i l e
      obtain ⟨v, rfl, dv⟩ := rels1 dr
      obtain ⟨a, ys, rfl, q, dr'⟩ := seqD_at mr e dv
      refine call_len_seq pins s σ H _ us Q I r ⟨a, ys, rfl, q, ?_⟩
      rw [← dr'.length]
      exact sat.ok mr _ rfl
    · exact sat.elim
  · exact sat.elim
def toIntD (ds : List D) (M : Mem) : Res D := match ds with
  | [.int i] => .ok (.int i) M
  | [.bl b] => .ok (.int (if b then 1 else 0)) M
  | _ => .bad
theorem cr_int {X : Cx} : CallR X (.type "int") (rC (kb X) toIntD) := by
  intro pins s σ H xs us Q I r h
  obtain ⟨mu, M, ds, mr, dr, sat⟩ := h
  unfold toIntD at sat
  split at sat
  · obtain ⟨v, rfl, dv⟩ := rels1 dr
    cases (show v = _ from dv)
    exact call_int1 pins s σ H _ us Q I r (.inl ⟨_, rfl, sat.ok mr _ rfl⟩)
  · obtain ⟨v, rfl, dv⟩ := rels1 dr
    cases (show v = _ from dv)
    exact call_int1 pins s σ H _ us Q I r (.inr ⟨_, rfl, sat.ok mr _ rfl⟩)
  · exact sat.elim
def max2D (ds : List D) (M : Mem) : Res D := match ds with
  | [.int i, .int j] => .ok (.int (if j > i then j else i)) M
  | _ => .bad
def min2D (ds : List D) (M : Mem) : Res D := match ds with
  | [.int i, .int j] => .ok (.int (if j < i then j else i)) M
  | _ => .bad
theorem cr_max2 {X : Cx} (hc : X.calm = true) : CallR X (.builtin "max") (rC (kb X) max2D) := by
  intro pins s σ H xs us Q I r h
  obtain ⟨mu, M, ds, mr, dr, sat⟩ := h
  unfold max2D at sat
  split at sat
  · obtain ⟨v, u, rfl, dv, du⟩ := rels2 dr
    cases (show v = _ from dv); cases (show u = _ from du)
    exact call_max2 hc pins s σ H _ us Q I r ⟨_, _, rfl, sat.ok mr _ rfl⟩
  · exact sat.elim
theorem cr_min2 {X : Cx} (hc : X.calm = true) : CallR X (.builtin "min") (rC (kb X) min2D) := by
  intro pins s σ H xs us Q I r h
  obtain ⟨mu, M, ds, mr, dr, sat⟩ := h
  unfold min2D at sat
  split at sat
  · obtain ⟨v, u, rfl, dv, du⟩ := rels2 dr
    cases (show v = _ from dv); cases (show u = _ from du)
    exact call_min2 hc pins s σ H _ us Q I r ⟨_, _, rfl, sat.ok mr _ rfl⟩
  · exact sat.elim
def toTupD (ds : List D) (M : Mem) : Res D := match ds with
  | [.tup l] => .ok (.tup l) M
  | [d] => match lstD M d with
    | some l => .ok (.tup l) M
    | none => .bad
  | _ => .bad
theorem cr_tuple {X : Cx} : CallR X (.type "tuple") (rC (kb X) toTupD) := by
  intro pins s σ H xs us Q I r h
  obtain ⟨mu, M, ds, mr, dr, sat⟩ := h
  unfold toTupD at sat
  split at sat
  · obtain ⟨v, rfl, dv⟩ := rels1 dr
    have dv' := dv
    simp only [DRel] at dv'
    obtain ⟨a, ys, rfl, t, _⟩ := dv'
    exact call_tuple_of pins s σ H _ us Q I r ⟨a, ys, rfl, .inr ⟨t.sq, sat.ok mr _ dv⟩⟩
  · split at sat
    · rename_i l e
      obtain ⟨v, rfl, dv⟩ := rels1 dr
      obtain ⟨a, ys, rfl, q, dr'⟩ := lstD_at mr e dv
      exact call_tuple_of pins s σ H _ us Q I r ⟨a, ys, rfl, .inl ⟨q, fun p hp => new_tup mr dr' sat hp⟩⟩
    · exact sat.elim
  · exact sat.elim
def toLstD (mt : Bool) (ds : List D) (M : Mem) : Res D := match ds with
  | [d] => match seqD M d with
    | some l => if mt then newO l M else .ok (.lst l) M
    | none => .bad
  | _ => .bad
theorem cr_list {X : Cx} {mt : Bool} : CallR X (.type "list") (rC (kb X) (toLstD mt)) := by
  intro pins s σ H xs us Q I r h
  obtain ⟨mu, M, ds, mr, dr, sat⟩ := h
  unfold toLstD at sat
  split at sat
  · split at sat
    · rename_i l e
      obtain ⟨v, rfl, dv⟩ := rels1 dr
      obtain ⟨a, ys, rfl, q, dr'⟩ := seqD_at mr e dv
      refine call_list_of pins s σ H _ us Q I r ⟨a, ys, rfl, q, fun p hp => ?_⟩
      cases mt with
      | true => exact new_obj mr dr' sat hp
      | false => exact new_lst mr dr' sat hp
    · exact sat.elim
  · exact sat.elim

/-! ### isinstance -/
inductive Ty where
  | int | bool | str | tuple | list | none | dict
  deriving DecidableEq
def Ty.nm : Ty → String
  | .int => "int" | .bool => "bool" | .str => "str" | .tuple => "tuple" | .list => "list" | .none => "NoneType" | .dict => "dict"
def D.ty : D → Ty
  | .non => .none | .bl _ => .bool | .int _ => .int | .str _ => .str | .tup _ => .tuple | .lst _ => .list | .obj _ => .list
def isiB : Ty → Ty → Bool
  | .bool, .int => true
  | a, b => decide (a = b)
theorem kit_isi (a b : Ty) : kitB a.nm b.nm = some (isiB a b) := by
  cases a <;> cases b <;> decide +kernel
theorem tyx_of {K : Kb} {W : Wd} {M : Mem} {d : D} {v : V} (m : MRel K W M) (h : DRel K W d v) (hb : ∀ i, d = .obj i → ∃ l, M[i]? = some (.lst l)) : TyX K.K W.H v (.type d.ty.nm) := by
  cases d with
  | non => cases (show v = _ from h); exact .base .non
  | bl b => cases (show v = _ from h); exact .base (.bl b)
  | int i => cases (show v = _ from h); exact .base (.int i)
  | str s => cases (show v = _ from h); exact .base (.str _)
  | tup l =>
    simp only [DRel] at h
    obtain ⟨a, xs, rfl, t, _⟩ := h
    rcases t with ⟨t | ⟨o, t⟩, _⟩ | ⟨o, its, n, hk, hc, _⟩
    · exact .base (.tup t)
    · exact .fTuple t
    · exact .kTuple hk hc
  | lst l =>
    simp only [DRel] at h
    obtain ⟨a, xs, rfl, t, _⟩ := h
    rcases t with ⟨t | ⟨o, t⟩, _⟩ | ⟨o, its, n, hk, hc, _⟩
    · exact .base (.lst t)
    · exact .base (.frz t)
    · exact .kList hk hc
  | obj i =>
    obtain ⟨l, hi⟩ := hb i rfl
    simp only [DRel] at h
    obtain ⟨a, rfl, q⟩ := h
    obtain ⟨xs, e3, _⟩ := m.obj i a _ q hi
    exact .base (.lst e3)
def mIsi (t : Ty) (m : ME) : ME := fun F r M => (m F r M).bind fun d M1 => match d with
  | .obj i => match M1[i]? with
    | some (.lst _) => .ok (.bl (isiB .list t)) M1
    | _ => .bad
  | d => .ok (.bl (isiB d.ty t)) M1
theorem ok_isi {t : Ty} {x y : Str} {p p2 pos : Pos} {e : Expr} {m : ME} (hx : x ∈ T.blt) (hx' : x = "isinstance") (hg : C.sc.names.lookup x = some .globalImplicit) (hy : y ∈ T.blt) (hyn : y = (t.nm : Str)) (hb : bootBuiltins y = some (.type t.nm)) (hgy : C.sc.names.lookup y = some .globalImplicit)
    (hn : y ≠ "__name__") (hdb : (y == ("__debug__" : Str)) = false) (hs : noStar e = true) (he : OkE T C e m) : OkE T C (.Call (.Name x p) [e, .Name y p2] [] pos) (mIsi t m) := by
  intro n X wx h
  subst hx'
  refine PE.of (pe_callB call_isi (gl_of h hg) (h.blt _ hx) boot_isinstance (pa_cons (he n X wx h) (pa_cons (pe_bltn (v := .ty t.nm) (gl_of h hgy) (h.blt _ hy) hb rfl hn hdb) pa_nil (by rfl)) (noStar_each hs)) (by decide) (by decide) (noStar_each hs) (by rfl)) fun s H Q q => ?_
  obtain ⟨mu, M, r, mr, sr, sat⟩ := q
  refine ⟨mu, M, r, mr, sr, sat.bind.imp fun d M1 W1 l1 m1 s1 v dv => ?_⟩
  show rIsi X.K [v, .ty t.nm] W1.H Q
  have key : (∀ i, d = .obj i → ∃ l, M1[i]? = some (.lst l)) ∧ Sat ((kx X wx).at s) W1 (.ok (.bl (isiB d.ty t)) M1) (PV (kb X) Q) := by
    cases d with
    | obj i =>
      cases e : M1[i]? with
      | none => simp only [e] at s1; exact s1.elim
      | some o =>
        cases o with
        | lst l => simp only [e] at s1; exact ⟨fun j q => by cases q; exact ⟨l, e⟩, s1⟩
        | dct l => simp only [e] at s1; exact s1.elim
    | _ => exact ⟨fun j e => (nomatch e), s1⟩
  exact ⟨v, .ty t.nm, .type d.ty.nm, .type t.nm, isiB d.ty t, rfl, by constructor, tyx_of m1 dv key.1, kit_ty (kit_isi _ _), key.2.ok m1 _ rfl⟩
end RI

namespace RI
open PySem PySem.Spec PyProof.Rows L2
variable {T : Tb} {C : CC}

/-! ### statements -/
def mSkip : MS := fun _ r M => .ok (.next r) M
def mSeq (a b : MS) : MS := fun F r M => (a F r M).bind fun f M1 => match f with
  | .next r1 => b F r1 M1
  | f => .ok f M1
theorem ok_snil : OkSs T C [] mSkip := by
  intro n X wx h
  refine PSs.of pss_nil fun Dn s H q => ?_
  obtain ⟨mu, M, r, mr, sr, sat⟩ := q
  exact sat.ok mr s sr
theorem ok_pass {pos} : OkS T C (.Pass pos) mSkip := by
  intro n X wx h
  refine PS.of ps_pass fun Dn s H q => ?_
  obtain ⟨mu, M, r, mr, sr, sat⟩ := q
  exact sat.ok mr s sr
theorem seq_of {K : Kx} {F : FT} {a b : MS} {Dn : Ends} {s : L2.St} {H : Hp} (q : rdS K F (mSeq a b) Dn s H) : tSeq (rdS K F a) (rdS K F b) Dn s H := by
  obtain ⟨mu, M, r, mr, sr, sat⟩ := q
  refine ⟨mu, M, r, mr, sr, sat.bind.imp fun f M1 W1 l1 m1 s1 => ?_⟩
  cases f with
  | next r1 => exact fun s' sr' => ⟨W1.mu, M1, r1, m1, sr', s1⟩
  | ret d => exact Sat.ok (show Sat _ _ (Res.ok (Fl.ret d) M1) _ from s1) m1
  | brk d => exact Sat.ok (show Sat _ _ (Res.ok (Fl.brk d) M1) _ from s1) m1
  | cont d => exact Sat.ok (show Sat _ _ (Res.ok (Fl.cont d) M1) _ from s1) m1
  | rse x d => exact Sat.ok (show Sat _ _ (Res.ok (Fl.rse x d) M1) _ from s1) m1
theorem ok_scons {st : Stmt} {rest : List Stmt} {a b : MS} (h1 : OkS T C st a) (h2 : OkSs T C rest b) : OkSs T C (st :: rest) (mSeq a b) := fun n X wx h => PSs.of (pss_cons (h1 n X wx h) (h2 n X wx h)) fun _ _ _ q => seq_of q
theorem ok_sone {st : Stmt} {a : MS} (h1 : OkS T C st a) : OkSs T C [st] a := fun n X wx h => pss_one (h1 n X wx h)
def mBreak : MS := fun _ r M => .ok (.brk r) M
def mCont : MS := fun _ r M => .ok (.cont r) M
theorem ok_break {pos} : OkS T C (.Break pos) mBreak := by
  intro n X wx h
  refine PS.of ps_break fun Dn s H q => ?_
  obtain ⟨mu, M, r, mr, sr, sat⟩ := q
  exact sat.ok mr s sr
theorem ok_cont {pos} : OkS T C (.Continue pos) mCont := by
  intro n X wx h
  refine PS.of ps_continue fun Dn s H q => ?_
  obtain ⟨mu, M, r, mr, sr, sat⟩ := q
  exact sat.ok mr s sr
def mNever : MS := fun _ _ _ => .bad
theorem ok_never {st : Stmt} : OkS T C st mNever := by
  intro n X wx h
  refine PS.of ps_never fun Dn s H q => ?_
  obtain ⟨mu, M, r, mr, sr, sat⟩ := q
  exact sat
def mRet (m : ME) : MS := fun F r M => (m F r M).toS r fun d M1 => .ok (.ret d) M1
theorem ok_ret {e : Expr} {pos} {m : ME} (h : OkE T C e m) : OkS T C (.Return (some e) pos) (mRet m) := by
  intro n X wx q
  refine PS.of (ps_ret (h n X wx q)) fun Dn s H q => ?_
  obtain ⟨mu, M, r, mr, sr, sat⟩ := q
  exact ⟨mu, M, r, mr, sr, (Sat.toS sat sr).imp fun d M1 W1 l1 m1 s1 v dv => s1.ok m1 v dv⟩
def mRetN : MS := fun _ _ M => .ok (.ret .non) M
theorem ok_retN {pos} : OkS T C (.Return none pos) mRetN := by
  intro n X wx q
  refine PS.of ps_retN fun Dn s H q => ?_
  obtain ⟨mu, M, r, mr, sr, sat⟩ := q
  exact sat.ok mr _ rfl
def mDrop (m : ME) : MS := fun F r M => (m F r M).toS r fun _ M1 => .ok (.next r) M1
def noComp : Expr → Bool
  | .ListComp .. => false
  | .SetComp .. => false
  | .DictComp .. => false
  | _ => true
theorem noComp_sw {e : Expr} {t : Option Expr} {l : Nat} {env : Env} (h : noComp e = true) : swapsWith e t l env = pure false := by
  cases e <;> first | rfl | cases h
theorem ok_expr {e : Expr} {pos} {m : ME} (hn : noComp e = true) (h : OkE T C e m) : OkS T C (.Expr e pos) (mDrop m) := by
  intro n X wx q
  refine PS.of (ps_expr (h n X wx q) (noComp_sw hn)) fun Dn s H q => ?_
  obtain ⟨mu, M, r, mr, sr, sat⟩ := q
  exact ⟨mu, M, r, mr, sr, (Sat.toS sat sr).imp fun d M1 W1 l1 m1 s1 v dv => s1.ok m1 s (sr.le l1)⟩
def mIfS (c : MT) (a b : MS) : MS := fun F r M => (c F r M).toS r fun k M1 => if k then a F r M1 else b F r M1
theorem ok_ifS {c : Expr} {p q : List Stmt} {pos} {mc : MT} {a b : MS} (hc : OkT T C c mc) (ha : OkSs T C p a) (hb : OkSs T C q b) : OkS T C (.If c p q pos) (mIfS mc a b) := by
  intro n X wx q
  refine PS.of (ps_if (hc n X wx q) (ha n X wx q) (hb n X wx q)) fun Dn s H q => ?_
  obtain ⟨mu, M, r, mr, sr, sat⟩ := q
  refine ⟨mu, M, r, mr, sr, (Sat.toS sat sr).imp fun k M1 W1 l1 m1 s1 => ?_⟩
  cases k with
  | true => exact iteT ⟨W1.mu, M1, r, m1, sr.le l1, s1⟩
  | false => exact iteF ⟨W1.mu, M1, r, m1, sr.le l1, s1⟩

/-! ### targets -/
def gN (i : Nat) : MG := fun _ d r M => .ok (r.set i (some d)) M
theorem loc_of {n : Nat} {X : Cx} {wx : Ex → L2.St → Wd → Prop} (h : CxOk T n C X wx) {x : Str} (hl : C.sc.names.lookup x = some .local ∨ (C.sc.names.lookup x = some .cell ∧ C.fn x = true)) : Loc X.env.scope x ∧ (X.fn x = true ∨ X.env.scope.names.lookup x = some .local) := by
  rw [h.sc, h.fn]
  rcases hl with hl | ⟨hl, hf⟩
  · exact ⟨.inl hl, .inr hl⟩
  · exact ⟨.inr hl, .inl hf⟩
theorem ok_gname {i : Nat} {x : Str} {pos : Pos} (hi : C.N[i]? = some x) (hl : C.sc.names.lookup x = some .local ∨ (C.sc.names.lookup x = some .cell ∧ C.fn x = true)) : OkG T C (.Name x pos) (gN i) := by
  intro n X wx h
  obtain ⟨h1, h2⟩ := loc_of h hl
  refine PG.of (pg_name h.nd (by rw [h.N]; exact hi) h1 h2) fun v s H Q q => ?_
  obtain ⟨mu, M, r, mr, sr, d, dv, sat⟩ := q
  exact sat.ok mr _ (sr.set dv i)
def gsNil : MGs := fun _ ds r M => match ds with
  | [] => .ok r M
  | _ => .bad
def gsCons (g : MG) (gs : MGs) : MGs := fun F ds r M => match ds with
  | d :: rest => (g F d r M).bind fun r1 M1 => gs F rest r1 M1
  | [] => .bad
theorem ok_gsnil : OkGs T C [] gsNil := by
  intro n X wx h
  refine PGs.of pgs_nil fun v s H Q q => ?_
  obtain ⟨mu, M, r, mr, sr, ds, dv, sat⟩ := q
  cases ds with
  | nil => exact ⟨dv, sat.ok mr s sr⟩
  | cons _ _ => exact sat.elim
def noStarT : Expr → Bool
  | .Starred .. => false
  | _ => true
theorem noStarT_each {e : Expr} {es : List Expr} {env : Env} (h : noStarT e = true) : assignEach (e :: es) env = (false, assign e env) :: assignEach es env := by
  cases e <;> first | rfl | cases h
theorem ok_gscons {e : Expr} {es : List Expr} {g : MG} {gs : MGs} (hs : noStarT e = true) (h1 : OkG T C e g) (h2 : OkGs T C es gs) : OkGs T C (e :: es) (gsCons g gs) := by
  intro n X wx h
  refine PGs.of (pgs_cons (h1 n X wx h) (h2 n X wx h) (by rw [noStarT_each hs]; rfl)) fun v s H Q q => ?_
  obtain ⟨mu, M, r, mr, sr, ds, dv, sat⟩ := q
  cases ds with
  | nil => exact sat.elim
  | cons d rest =>
    simp only [DRels] at dv
    obtain ⟨v1, vr, rfl, d1, d2⟩ := dv
    refine ⟨v1, vr, rfl, mu, M, r, mr, sr, d, d1, sat.bind.imp fun r1 M1 W1 l1 m1 s1 s' sr' => ?_⟩
    exact ⟨W1.mu, M1, r1, m1, sr', rest, DRels.le l1 rest vr d2, s1⟩
def gTp (n : Nat) (gs : MGs) : MG := fun F d r M => match seqD M d with
  | some l => if l.length = n then gs F l r M else .bad
  | none => .bad
theorem noStarsT {env : Env} : ∀ {es : List Expr}, es.all noStarT = true → (assignEach es env).length = es.length ∧ (assignEach es env).findIdx? (·.1) = none
  | [], _ => ⟨rfl, rfl⟩
  | e :: es, h => by
    rw [List.all_cons, Bool.and_eq_true] at h
    rw [noStarT_each h.1]
    obtain ⟨h1, h2⟩ := noStarsT (env := env) h.2
    refine ⟨by simp [h1], ?_⟩
    rw [List.findIdx?_cons]
    simp [h2]
theorem PG.or {X : Cx} {e : Expr} {t t' : TG} (h : PG X e t) (h' : PG X e t') : PG X e (fun v s H Q => t v s H Q ∨ t' v s H Q) := ⟨fun pins s σ H v u Q I r q => by
  rcases q with q | q
  · exact h.run pins s σ H v u Q I r q
  · exact h'.run pins s σ H v u Q I r q⟩
theorem ok_gtup {es : List Expr} {k pos} {gs : MGs} {m : Nat} (hs : es.all noStarT = true) (hm : es.length = m) (h : OkGs T C es gs) : OkG T C (.Tuple es k pos) (gTp m gs) := by
  intro n X wx q
  obtain ⟨a1, a2⟩ := noStarsT (env := X.env) hs
  refine PG.of (PG.or (pg_tup q.calm (h n X wx q) (a1.trans hm) a2) (pg_unl q.calm (h n X wx q) (a1.trans hm) a2)) fun v s H Q w => ?_
  obtain ⟨mu, M, r, mr, sr, d, dv, sat⟩ := w
  unfold gTp at sat
  split at sat
  · rename_i l e
    obtain ⟨hl, sat⟩ := sat_ite sat
    obtain ⟨a, xs, rfl, hq, dr⟩ := seqD_at mr e dv
    rcases hq with hq | hq
    · exact .inr ⟨a, xs, rfl, hq, by rw [← dr.length]; exact hl, mu, M, r, mr, sr, l, dr, sat⟩
    · exact .inl ⟨a, xs, rfl, hq, by rw [← dr.length]; exact hl, mu, M, r, mr, sr, l, dr, sat⟩
  · exact sat.elim
/-- o[i] = v -/
def setS (o i v : D) (M : Mem) : Res Unit := match o, i with
  | .obj j, .int k => match M[j]? with
    | some (.lst l) => match ixN l.length k with
      | some p => if D.bel j v then .ok () (M.set j (.lst (l.set p v))) else .bad
      | none => .bad
    | _ => .bad
  | _, _ => .bad
def setK (o i v : D) (l : List (D × D)) (M : Mem) : Res Unit := match o with
  | .obj j => if (D.isKey i && D.bel j v && Nat.ble l.length 16777215) = true then .ok () (M.set j (.dct (dsetD i v l))) else .bad
  | _ => .bad
def setD (o i v : D) (M : Mem) : Res Unit := match dctD M o with
  | some l => setK o i v l M
  | none => setS o i v M
theorem storedH_len (xs : List (NestedKey × Addr × Value)) (k : NestedKey) (a : Addr) (v : Value) : (storedH xs k a v).length ≤ xs.length + 1 := by
  unfold storedH
  split <;> simp
theorem paired_len {α β : Type} {F : α → β → Prop} {l : List α} {m : List β} (h : Paired F l m) : l.length = m.length := by
  induction h with
  | nil => rfl
  | cons _ _ ih => simp [ih]
theorem bels_set {n : Nat} {d : D} (hd : D.bel n d = true) : ∀ {l : List D} (i : Nat), D.bels n l = true → D.bels n (l.set i d) = true
  | [], _, h => h
  | e :: es, 0, h => by
    simp only [List.set_cons_zero, D.bels, Bool.and_eq_true] at h ⊢
    exact ⟨hd, h.2⟩
  | e :: es, i + 1, h => by
    simp only [List.set_cons_succ, D.bels, Bool.and_eq_true] at h ⊢
    exact ⟨h.1, bels_set hd i h.2⟩
theorem bels_app {n : Nat} : ∀ {l l' : List D}, D.bels n l = true → D.bels n l' = true → D.bels n (l ++ l') = true
  | [], _, _, h => h
  | e :: es, l', h, h' => by
    simp only [List.cons_append, D.bels, Bool.and_eq_true] at h ⊢
    exact ⟨h.1, bels_app h.2 h'⟩
def rSetD (K : Kb) : V → V → V → Hp → (Hp → Prop) → Prop := fun o i v H Q => ∃ mu M d1 d2 d3, MRel K ⟨H, mu⟩ M ∧ DRel K ⟨H, mu⟩ d1 o ∧ DRel K ⟨H, mu⟩ d2 i ∧ DRel K ⟨H, mu⟩ d3 v ∧ Sat K.no ⟨H, mu⟩ (setD d1 d2 d3 M) (fun _ _ W => Q W.H)
theorem set_d {X : Cx} (hu : X.A.units + 65 < cLine) : PSet X (rSetD (kb X)) := by
  intro pins s σ H o i v ov iv u Q I ro ri rv h
  obtain ⟨mu, M, d1, d2, d3, mr, h1, h2, h3, sat⟩ := h
  unfold setD at sat
  split at sat
  · rename_i l e
    obtain ⟨j, rfl, ej⟩ := dctD_obj e
    obtain ⟨hk, sat⟩ := sat_ite sat
    simp only [Bool.and_eq_true] at hk
    obtain ⟨⟨hk, hb⟩, hn⟩ := hk
    have hn := Nat.le_of_ble_eq_true hn
    simp only [DRel] at h1
    obtain ⟨a, rfl, ha⟩ := h1
    cases ro
    obtain ⟨ka, rfl, rfl, hki⟩ := isKey_is I hk h2 ri
    obtain ⟨xs, g1, hd, g3, g4, g5⟩ := dct_at I mr ha ej
    have hl := paired_len g5
    refine wpAny_setItem_heap (room_k hu) hki hd (fun h' d' sb => ?_) g3
    have nd := d'.nodup
    have hz : (storedH xs (D.toK d2) ka u).length ≤ sizeLine := by
      have := storedH_len xs (D.toK d2) ka u
      rw [sizeLine_eq]; omega
    obtain ⟨l1, m1⟩ := mr.wroteO ha (DctO X.prog X.w a (storedH xs (D.toK d2) ka u)) (.dct (dsetD d2 d3 l)) fun W' lk eW => ⟨_, eW, nd, hz, g4, Paired.mapP (dset_rel hk h2 h3 rv hb g5) fun _ _ q => q.lk lk⟩
    exact ⟨upd H a (DctO X.prog X.w a (storedH xs (D.toK d2) ka u)), d_write I (by rw [g1]; exact True.intro) sb (let ⟨q, _, _, hq, _⟩ := d'; ⟨q, hq⟩) (dct_new d'), sat _ l1 m1⟩
  unfold setS at sat
  split at sat
  · rename_i j k _
    split at sat
    · rename_i l e
      split at sat
      · rename_i p ep
        obtain ⟨b, sat⟩ := sat_ite sat
        simp only [DRel] at h1
        obtain ⟨a, rfl, ha⟩ := h1
        cases (show i = _ from h2)
        obtain ⟨xs, eh, dr, bl⟩ := mr.obj j a _ ha e
        refine set_list pins s σ H _ _ v ov iv u Q I ro ri rv ⟨a, xs, k, p, rfl, rfl, eh, by rw [← dr.length]; exact ep, ?_⟩
        obtain ⟨l1, m1⟩ := mr.wrote ha (DRels.set h3 p dr) (bels_set b p bl)
        exact sat _ l1 m1
      · exact sat.elim
    · exact sat.elim
  · exact sat.elim
def gSb (mo mi : ME) : MG := fun F d r M => (mo F r M).bind fun o M1 => (mi F r M1).bind fun i M2 => (setD o i d M2).bind fun _ M3 => .ok r M3
theorem noSlice_as {i o : Expr} {pos : Pos} {env : Env} (h : noSlice i = true) : ∀ v, assign (.Subscript o i pos) env v = (do
      let ov ← holding [v] (eval o env)
      let iv ← holding [v, ov] (eval i env)
      standAt pos
      holding [v, ov, iv] (setItem ov iv v)
      release [v, ov, iv] []) := by
  intro v
  cases i <;> first | rfl | cases h
theorem ok_gsub {o i : Expr} {pos : Pos} {mo mi : ME} (hs : noSlice i = true) (ho : OkE T C o mo) (hi : OkE T C i mi) : OkG T C (.Subscript o i pos) (gSb mo mi) := by
  intro n X wx h
  refine PG.of (pg_sub (ho n X wx h) (hi n X wx h) (set_d (by have := h.room.un; omega)) (noSlice_as hs)) fun v s H Q q => ?_
  obtain ⟨mu, M, r, mr, sr, d, dv, sat⟩ := q
  refine ⟨mu, M, r, mr, sr, (Sat.up (K := (kx X wx).at s) sat.bind).imp fun x M1 W1 l1 m1 s1 xv dx => ?_⟩
  refine ⟨W1.mu, M1, r, m1, sr.le l1, (Sat.up (K := (kx X wx).at s) s1.bind).imp fun y M2 W2 l2 m2 s2 yv dy => ?_⟩
  refine ⟨W2.mu, M2, x, y, d, m2, DRel.le l2 x xv dx, dy, DRel.le (l1.trans l2) d v dv, s2.bind.imp fun _ M3 W3 l3 m3 s3 => ?_⟩
  exact s3.ok m3 s (sr.le ((l1.trans l2).trans l3))
/-! ### assignments -/
def mAsg (m : ME) (g : MG) : MS := fun F r M => (m F r M).toS r fun d M1 => (g F d r M1).bind fun r1 M2 => .ok (.next r1) M2
theorem asg_of {K : Kx} {F : FT} {m : ME} {g : MG} {Dn : Ends} {s : L2.St} {H : Hp} (q : rdS K F (mAsg m g) Dn s H) : tAsg (rdE K F m) (rdG K F g) Dn s H := by
  obtain ⟨mu, M, r, mr, sr, sat⟩ := q
  refine ⟨mu, M, r, mr, sr, (Sat.toS sat sr).imp fun d M1 W1 l1 m1 s1 v dv => ?_⟩
  exact ⟨W1.mu, M1, r, m1, sr.le l1, d, dv, s1.bind.imp fun r1 M2 W2 l2 m2 s2 s' sr' => s2.ok m2 s' sr'⟩
theorem ok_asg {tg e : Expr} {pos} {m : ME} {g : MG} (hn : noComp e = true) (hw : ∀ env : Env, env.scope = C.sc → swappedStores [tg] e env = pure none) (hs : noStarT tg = true) (he : OkE T C e m) (hg : OkG T C tg g) : OkS T C (.Assign [tg] e pos) (mAsg m g) := by
  intro n X wx h
  exact PS.of (ps_asg (he n X wx h) (hg n X wx h) (by show swapsWith e (some tg) _ _ = _; exact noComp_sw hn) (hw X.env h.sc) (by rw [noStarT_each hs]; rfl)) fun _ _ _ q => asg_of q
theorem ok_set {i : Nat} {x : Str} {e : Expr} {pos pos'} {m : ME} (hn : noComp e = true) (hi : C.N[i]? = some x) (hl : C.sc.names.lookup x = some .local ∨ (C.sc.names.lookup x = some .cell ∧ C.fn x = true)) (he : OkE T C e m) : OkS T C (.Assign [.Name x pos'] e pos) (mAsg m (gN i)) := by
  intro n X wx h
  obtain ⟨h1, h2⟩ := loc_of h hl
  refine PS.of (ps_set h.nd (by rw [h.N]; exact hi) h1 (he n X wx h) (noComp_sw hn) h2) fun Dn s H q => ?_
  obtain ⟨mu, M, r, mr, sr, sat⟩ := asg_of q
  refine ⟨mu, M, r, mr, sr, sat.imp fun d M1 W1 l1 m1 s1 v dv => ?_⟩
  obtain ⟨mu2, M2, r2, mr2, sr2, d2, dv2, sat2⟩ := s1 v dv
  exact sat2.ok mr2 _ (sr2.set dv2 i)
/-- a, b = x, y -/
def mPar (i j : Nat) (ms : MA) : MS := fun F r M => (ms F r M).toS r fun ds M1 => match ds with
  | [v, w] => .ok (.next ((r.set i (some v)).set j (some w))) M1
  | _ => .bad
theorem ok_par {i j : Nat} {x y : Str} {a b : Expr} {ms : MA} {px py pt pos : Pos} {kt k2 pt2} (hi : C.N[i]? = some x) (hj : C.N[j]? = some y) (hij : i ≠ j)
    (hx : C.sc.names.lookup x = some .local) (hy : C.sc.names.lookup y = some .local) (ha : OkA T C [a, b] ms)
    (hw : ∀ env : Env, env.scope = C.sc → swappedStores [.Tuple [.Name x px, .Name y py] kt pt] (.Tuple [a, b] k2 pt2) env = pure (some [x, y])) :
    OkS T C (.Assign [.Tuple [.Name x px, .Name y py] kt pt] (.Tuple [a, b] k2 pt2) pos) (mPar i j ms) := by
  intro n X wx h
  refine PS.of (ps_par h.calm h.nd (by rw [h.N]; exact hi) (by rw [h.N]; exact hj) hij (by rw [h.sc]; exact hx) (by rw [h.sc]; exact hy) (ha n X wx h) (hw X.env h.sc) (by rfl)) fun Dn s H q => ?_
  obtain ⟨mu, M, r, mr, sr, sat⟩ := q
  refine ⟨mu, M, r, mr, sr, (Sat.toS sat sr).imp fun ds M1 W1 l1 m1 s1 vs dvs => ?_⟩
  split at s1
  · obtain ⟨v, w, rfl, d1, d2⟩ := rels2 dvs
    exact ⟨v, w, rfl, s1.ok m1 _ (((sr.le l1).set d1 i).set d2 j)⟩
  · exact s1.elim
/-- x op= e, by the operator's function on data -/
def mAug (i : Nat) (f : D → D → Mem → Res D) (m : ME) : MS := fun F r M => match r[i]? with
  | some (some d) => (m F r M).toS r fun e M1 => (f d e M1).noX.bind fun z M2 => .ok (.next (r.set i (some z))) M2
  | _ => .bad
theorem ok_aug {i : Nat} {x : Str} {e : Expr} {op : Operator} {pos pos'} {f : D → D → Mem → Res D} {m : ME} (hi : C.N[i]? = some x) (hl : C.sc.names.lookup x = some .local ∨ (C.sc.names.lookup x = some .cell ∧ C.fn x = true)) (ho : ∀ n X wx, CxOk T n C X wx → OpR X (inplaceOp op) (rB (kb X) f)) (he : OkE T C e m) : OkS T C (.AugAssign (.Name x pos') op e pos) (mAug i f m) := by
  intro n X wx h
  obtain ⟨h1, h2⟩ := loc_of h hl
  refine PS.of (ps_aug (ti := rB (kb X) f) h.nd (by rw [h.N]; exact hi) h1 (he n X wx h) (ho n X wx h) h2) fun Dn s H q => ?_
  obtain ⟨mu, M, r, mr, sr, sat⟩ := q
  unfold mAug at sat
  split at sat
  · rename_i d e
    obtain ⟨v, ev, dv⟩ := sr.get i d e
    refine ⟨v, ev, mu, M, r, mr, sr, (Sat.toS sat sr).imp fun y M1 W1 l1 m1 s1 u du => ?_⟩
    refine ⟨W1.mu, M1, d, y, m1, DRel.le l1 d v dv, du, s1.bind.noX.imp fun z M2 W2 l2 m2 s2 zv dz => ?_⟩
    exact s2.ok m2 _ ((sr.le (l1.trans l2)).set dz i)
  · exact sat.elim
theorem or_iadd {X : Cx} : OpR X (inplaceOp .Add) (rB (kb X) (intD (fun _ _ => true) fun i j => .int (i + j))) := or_int0 iop_add fun _ _ _ _ => rfl
theorem or_isub {X : Cx} : OpR X (inplaceOp .Sub) (rB (kb X) (intD (fun _ _ => true) fun i j => .int (i - j))) := or_int0 iop_sub fun _ _ _ _ => rfl
/-! ### while -/
def whileN (c : MT) (b : MS) (F : FT) : Nat → EV → Mem → Res Fl
  | 0, _, _ => .bad
  | n + 1, r, M => (c F r M).toS r fun k M1 => if k then (b F r M1).bind fun f M2 => match f with
      | .next r1 => whileN c b F n r1 M2
      | .cont r1 => whileN c b F n r1 M2
      | .brk r1 => .ok (.next r1) M2
      | .ret d => .ok (.ret d) M2
      | .rse x r1 => .ok (.rse x r1) M2
    else .ok (.next r) M1
abbrev FUEL : Nat := 1000000000
def mWhl (c : MT) (b : MS) : MS := fun F r M => whileN c b F FUEL r M
theorem ok_while {c : Expr} {body : List Stmt} {pos} {mc : MT} {mb : MS} (hc : OkT T C c mc) (hb : OkSs T C body mb) : OkS T C (.While c body [] pos) (mWhl mc mb) := by
  intro n X wx h
  refine PS.of (ps_while h.pas (hc n X wx h) (hb n X wx h)) fun Dn s H q => ?_
  refine ⟨fun m s H => At (kb X) s H fun mu r M => Sat (kb X).no ⟨H, mu⟩ (whileN mc mb (callF T n) m r M) (PF (kx X wx) Dn), ⟨FUEL, q⟩, fun m s H q => ?_⟩
  obtain ⟨mu, M, r, mr, sr, sat⟩ := q
  cases m with
  | zero => exact sat.elim
  | succ m =>
    refine ⟨mu, M, r, mr, sr, (Sat.toS (K := kx X wx) (show Sat (kb X).no ⟨H, mu⟩ ((mc (callF T n) r M).toS r _) _ from sat) sr).imp fun k M1 W1 l1 m1 s1 => ?_⟩
    cases k with
    | false => exact iteF (Sat.ok (show Sat _ _ (Res.ok (Fl.next r) M1) _ from s1) m1 s (sr.le l1))
    | true =>
      refine iteT ⟨fun s H => At (kb X) s H fun mu r M => Sat (kb X).no ⟨H, mu⟩ (whileN mc mb (callF T n) m r M) (PF (kx X wx) Dn), fun s' H' q' => ⟨m, Nat.lt_succ_self m, q'⟩, W1.mu, M1, r, m1, sr.le l1, ?_⟩
      refine (Sat.bind (show Sat (kb X).no W1 ((mb (callF T n) r M1).bind _) _ from s1)).imp fun f M2 W2 l2 m2 s2 => ?_
      cases f with
      | next r1 => exact fun s' sr' => ⟨W2.mu, M2, r1, m2, sr', s2⟩
      | cont r1 => exact fun s' sr' => ⟨W2.mu, M2, r1, m2, sr', s2⟩
      | brk r1 => exact Sat.ok (show Sat _ _ (Res.ok (Fl.next r1) M2) _ from s2) m2
      | ret d => exact Sat.ok (show Sat _ _ (Res.ok (Fl.ret d) M2) _ from s2) m2
      | rse x r1 => exact Sat.ok (show Sat _ _ (Res.ok (Fl.rse x r1) M2) _ from s2) m2
end RI

namespace RI
open PySem PySem.Spec PyProof.Rows L2
variable {T : Tb} {C : CC}

/-! ### what is walked -/
/-- a list that may change: it must not while it is walked -/
abbrev Gd := Option (Nat × List D)
def Gd.ok (g : Gd) (M : Mem) : Bool := match g with
  | none => true
  | some (j, l) => match M[j]? with
    | some (.lst l') => D.beqs l l'
    | _ => false
@[simp] theorem gd_none (M : Mem) : Gd.ok none M = true := rfl
abbrev MI := FT → EV → Mem → Res (List D × Gd)
structure WalkOk (K : Kb) (W : Wd) (g : Gd) (ds : List D) (J : It) : Prop where
  go : ∀ i W' M, Lk W W' → MRel K W' M → Gd.ok g M = true → i < ds.length → J.go i W'.H
  stop : ∀ W' M, Lk W W' → MRel K W' M → Gd.ok g M = true → J.stop ds.length W'.H
  yld : ∀ i d W' M x H', ds[i]? = some d → Lk W W' → MRel K W' M → Gd.ok g M = true → J.yld i W'.H x H' → ∃ W'', W''.H = H' ∧ Le W' W'' ∧ MRel K W'' M ∧ DRel K W'' d x
def rdI (K : Kx) (F : FT) (m : MI) : TI := fun s H R => At K s H fun mu r M => Sat (K.at s) ⟨H, mu⟩ (m F r M) (fun p _ W => ∀ J, WalkOk K W p.2 p.1 J → R J W.H)
def OkI (T : Tb) (C : CC) (tg e : Expr) (m : MI) : Prop := ∀ n X wx, CxOk T n C X wx → PI X tg e (rdI (kx X wx) (callF T n) m)
theorem PI.of {X : Cx} {tg e : Expr} {t t' : TI} (h : PI X tg e t) (f : ∀ s H R, t' s H R → t s H R) : PI X tg e t' := ⟨fun pins s σ H R I q => h.run pins s σ H R I (f σ H R q)⟩
theorem PI.or {X : Cx} {tg e : Expr} {t t' : TI} (h : PI X tg e t) (h' : PI X tg e t') : PI X tg e (fun s H R => t s H R ∨ t' s H R) := ⟨fun pins s σ H R I q => by
  rcases q with q | q
  · exact h.run pins s σ H R I q
  · exact h'.run pins s σ H R I q⟩
theorem walk_at {K : Kb} {W : Wd} {ds : List D} {xs : List V} {J : It} {G : Hp → Prop} (w : Walk J xs.length G (YAt xs)) (hG : ∀ W', Lk W W' → G W'.H) (r : DRels K W ds xs) : WalkOk K W none ds J where
  go := fun i W' M l m _ hi => w.goes i _ (by rw [← r.length]; exact hi) (hG W' l)
  stop := fun W' M l m _ => by rw [r.length]; exact w.stops _ (hG W' l)
  yld := fun i d W' M x H' e l m _ y => by
    obtain ⟨v, ev, dv⟩ := r.get e
    have hi : i < xs.length := by
      by_cases q : i < xs.length
      · exact q
      · rw [List.getElem?_eq_none (by omega)] at ev; cases ev
    obtain ⟨e1, e2⟩ := w.yields i _ x H' hi (hG W' l) y
    rw [ev] at e2; cases e2
    exact ⟨W', e1.symm, Le.refl _, m, DRel.lk l d _ dv⟩
/-- a list that is never changed, or a tuple -/
def mSeqI (m : ME) : MI := fun F r M => (m F r M).bind fun d M1 => match d with
  | .tup l => .ok (l, none) M1
  | .lst l => .ok (l, none) M1
  | .obj j => match M1[j]? with
    | some (.lst l) => .ok (l, some (j, l)) M1
    | _ => .bad
  | _ => .bad
theorem gd_at {j : Nat} {l : List D} {M : Mem} (h : Gd.ok (some (j, l)) M = true) : M[j]? = some (.lst l) := by
  simp only [Gd.ok] at h
  split at h
  · rename_i l' e; rw [e, D.of_beqs _ _ h]
  · cases h
/-- a list that may change -/
theorem walk_obj {K : Kb} {W : Wd} {j : Nat} {a : Addr} {l : List D} (ha : W.mu.l[j]? = some a) : WalkOk K W (some (j, l)) l (Itl K.K a) := by
  have key : ∀ W' M, Lk W W' → MRel K W' M → Gd.ok (some (j, l)) M = true → ∃ xs, SqL K.K W'.H a xs ∧ DRels K W' l xs := by
    intro W' M lk m h
    have h1 := DRel.lk (K := K) lk (.obj j) (.ref a) (by simp only [DRel]; exact ⟨a, rfl, ha⟩)
    simp only [DRel] at h1
    obtain ⟨b, e, hb⟩ := h1
    cases e
    obtain ⟨xs, e1, e2, _⟩ := m.obj j a _ hb (gd_at h)
    exact ⟨xs, SqL.of e1, e2⟩
  refine ⟨fun i W' M lk m h hi => ?_, fun W' M lk m h => ?_, fun i d W' M x H' e lk m h y => ?_⟩
  · obtain ⟨xs, q, dr⟩ := key W' M lk m h
    obtain ⟨v, ev, _⟩ := dr.get (List.getElem?_eq_getElem hi)
    exact ⟨xs, v, q, ev⟩
  · obtain ⟨xs, q, dr⟩ := key W' M lk m h
    exact ⟨xs, q, Nat.le_of_eq dr.length.symm⟩
  · obtain ⟨xs, q, dr⟩ := key W' M lk m h
    obtain ⟨v, ev, dv⟩ := dr.get e
    have e2 := y.2 xs q
    rw [ev] at e2
    cases e2
    exact ⟨W', y.1.symm, Le.refl _, m, dv⟩
theorem ok_iseq {tg e : Expr} {m : ME} (h : OkE T C e m) : OkI T C tg e (mSeqI m) := by
  intro n X wx q
  refine PI.of (PI.or (pi_list (h n X wx q)) (pi_tup (h n X wx q))) fun s H R w => ?_
  obtain ⟨mu, M, r, mr, sr, sat⟩ := w
  unfold mSeqI at sat
  cases e : m (callF T n) r M with
  | bad => rw [e] at sat; exact sat.elim
  | exc x M1 =>
    rw [e] at sat
    refine .inl ⟨mu, M, r, mr, sr, ?_⟩
    show Sat _ _ (m (callF T n) r M) _
    rw [e]
    exact sat
  | ok d M1 =>
    rw [e] at sat
    simp only [Res.bind_ok] at sat
    cases d with
    | tup l =>
      refine .inr ⟨mu, M, r, mr, sr, ?_⟩
      show Sat _ _ (m (callF T n) r M) _
      rw [e]
      intro W1 l1 m1 v dv
      simp only [DRel] at dv
      obtain ⟨a, xs, rfl, t, dr⟩ := dv
      exact ⟨a, rfl, ⟨xs, t.sq⟩, sat W1 l1 m1 _ (walk_at walk_tup (fun W' l' => (t.lk l').sq) dr)⟩
    | lst l =>
      refine .inl ⟨mu, M, r, mr, sr, ?_⟩
      show Sat _ _ (m (callF T n) r M) _
      rw [e]
      intro W1 l1 m1 v dv
      simp only [DRel] at dv
      obtain ⟨a, xs, rfl, t, dr⟩ := dv
      exact ⟨a, rfl, ⟨xs, t.sq⟩, sat W1 l1 m1 _ (walk_at walk_list (fun W' l' => (t.lk l').sq) dr)⟩
    | obj j =>
      refine .inl ⟨mu, M, r, mr, sr, ?_⟩
      show Sat _ _ (m (callF T n) r M) _
      rw [e]
      intro W1 l1 m1 v dv
      cases ej : M1[j]? with
      | none => simp only [ej] at sat; exact sat.elim
      | some o =>
        cases o with
        | dct l => simp only [ej] at sat; exact sat.elim
        | lst l =>
          simp only [ej] at sat
          simp only [DRel] at dv
          obtain ⟨a, rfl, ha⟩ := dv
          obtain ⟨xs, e3, r3, _⟩ := m1.obj j a _ ha ej
          exact ⟨a, rfl, ⟨xs, SqL.of e3⟩, sat W1 l1 m1 _ (walk_obj ha)⟩
    | _ => exact sat.elim
/-- range -/
def rngD (lo : Int) (n : Nat) : List D := (List.range n).map fun i => .int (lo + (i : Nat))
theorem rng_len {lo : Int} {n : Nat} : (rngD lo n).length = n := by simp [rngD]
theorem walk_rng {K : Kb} {W : Wd} {lo : Int} {n : Nat} : WalkOk K W none (rngD lo n) (Itr lo n) where
  go := fun i W' M _ _ _ hi => by rw [rng_len] at hi; exact hi
  stop := fun W' M _ _ _ => by rw [rng_len]; exact Nat.le_refl n
  yld := fun i d W' M x H' e _ m _ y => by
    obtain ⟨e1, e2⟩ := y
    subst e1 e2
    have hi : i < n := by
      by_cases q : i < n
      · exact q
      · rw [List.getElem?_eq_none (by rw [rng_len]; omega)] at e; cases e
    have : d = .int (lo + (i : Nat)) := by
      simp only [rngD, List.getElem?_map, List.getElem?_range hi, Option.map_some, Option.some.injEq] at e
      exact e.symm
    subst this
    exact ⟨W', rfl, Le.refl _, m, rfl⟩
def rngOk (j : Int) : Bool := Nat.ble j.natAbs 4611686018427387903
theorem rngOk_iff {j : Int} (h : rngOk j = true) : -(2 ^ 62) ≤ j ∧ j < 2 ^ 62 := by
  have e : (2 : Int) ^ 62 = 4611686018427387904 := by decide +kernel
  have h' := Nat.le_of_ble_eq_true h
  rw [e]
  omega
theorem rngOk_of {j : Int} (h0 : 0 ≤ j) (h1 : j ≤ 1000000) : rngOk j = true := Nat.ble_eq_true_of_le (by omega)
def mRng1 (ms : MA) : MI := fun F r M => (ms F r M).bind fun ds M1 => match ds with
  | [.int j] => if rngOk j = true then .ok (rngD 0 j.toNat, none) M1 else .bad
  | _ => .bad
def mRng2 (ms : MA) : MI := fun F r M => (ms F r M).bind fun ds M1 => match ds with
  | [.int i, .int j] => if (rngOk i && rngOk j) = true then .ok (rngD i (j - i).toNat, none) M1 else .bad
  | _ => .bad
theorem ok_irng1 {tg a : Expr} {p pos : Pos} {ms : MA} {x : Str} (hx' : x = "range") (hx : x ∈ T.blt) (hg : C.sc.names.lookup x = some .globalImplicit) (hs : noStar a = true) (h : OkA T C [a] ms) : OkI T C tg (.Call (.Name x p) [a] [] pos) (mRng1 ms) := by
  intro n X wx q
  subst hx'
  refine PI.of (pi_range1 (gl_of q hg) (q.blt _ hx) (h n X wx q) (noStar_each hs)) fun s H R w => ?_
  obtain ⟨mu, M, r, mr, sr, sat⟩ := w
  refine ⟨mu, M, r, mr, sr, sat.bind.imp fun ds M1 W1 l1 m1 s1 vs dvs => ?_⟩
  split at s1
  · rename_i j
    obtain ⟨hc, s1⟩ := sat_ite s1
    have hc := rngOk_iff hc
    obtain ⟨v, rfl, dv⟩ := rels1 dvs
    cases (show v = _ from dv)
    exact ⟨j, rfl, hc.1, hc.2, s1.ok m1 _ walk_rng⟩
  · exact s1.elim
theorem ok_irng2 {tg a b : Expr} {p pos : Pos} {ms : MA} {x : Str} (hx' : x = "range") (hx : x ∈ T.blt) (hg : C.sc.names.lookup x = some .globalImplicit) (hs : noStar a = true) (hs2 : noStar b = true) (h : OkA T C [a, b] ms) : OkI T C tg (.Call (.Name x p) [a, b] [] pos) (mRng2 ms) := by
  intro n X wx q
  subst hx'
  refine PI.of (pi_range2 (gl_of q hg) (q.blt _ hx) (h n X wx q) (by rw [noStar_each hs, noStar_each hs2]; rfl) (noStar_each hs2)) fun s H R w => ?_
  obtain ⟨mu, M, r, mr, sr, sat⟩ := w
  refine ⟨mu, M, r, mr, sr, sat.bind.imp fun ds M1 W1 l1 m1 s1 vs dvs => ?_⟩
  split at s1
  · rename_i i j
    obtain ⟨hc, s1⟩ := sat_ite s1
    rw [Bool.and_eq_true] at hc
    have hc1 := rngOk_iff hc.1
    have hc2 := rngOk_iff hc.2
    obtain ⟨v, u, rfl, dv, du⟩ := rels2 dvs
    cases (show v = _ from dv)
    cases (show u = _ from du)
    exact ⟨i, j, rfl, ⟨hc1.1, hc1.2, hc2.1, hc2.2⟩, s1.ok m1 _ walk_rng⟩
  · exact s1.elim
/-- pairs: enumerate, zip -/
theorem walk_pair {K : Kb} {W : Wd} {ds : List D} {n : Nat} {J : It} {G : Hp → Prop} {xs ys : Nat → Option V} (w : Walk J n G (YPair xs ys)) (hG : ∀ W', Lk W W' → G W'.H) (hn : ds.length = n)
    (r : ∀ i d v u, ds[i]? = some d → xs i = some v → ys i = some u → ∃ a b, d = .tup [a, b] ∧ DRel K W a v ∧ DRel K W b u) : WalkOk K W none ds J where
  go := fun i W' M l m _ hi => w.goes i _ (by rw [← hn]; exact hi) (hG W' l)
  stop := fun W' M l m _ => by rw [hn]; exact w.stops _ (hG W' l)
  yld := fun i d W' M x H' e l m _ y => by
    have hi : i < n := by
      by_cases q : i < n
      · exact q
      · rw [List.getElem?_eq_none (by omega)] at e; cases e
    obtain ⟨p, v, u, rfl, np, rfl, ev, eu⟩ := w.yields i _ x H' hi (hG W' l) y
    obtain ⟨a, b, rfl, da, db⟩ := r i d v u e ev eu
    obtain ⟨le, m'⟩ := m.laid np (.tup [v, u])
    refine ⟨_, rfl, le, m', ?_⟩
    simp only [DRel]
    refine ⟨p, [v, u], rfl, .inl ⟨.inl upd_same, m.fresh np⟩, ?_⟩
    simp only [DRels]
    exact ⟨v, [u], rfl, DRel.lk (l.trans le.toLk) a v da, u, [], rfl, DRel.lk (l.trans le.toLk) b u db, rfl⟩
def enumD : Nat → List D → List D
  | _, [] => []
  | k, d :: ds => .tup [.int (k : Nat), d] :: enumD (k + 1) ds
theorem enumD_len : ∀ (k : Nat) (ds : List D), (enumD k ds).length = ds.length
  | _, [] => rfl
  | k, d :: ds => by simp [enumD, enumD_len (k + 1) ds]
theorem enumD_get : ∀ (k : Nat) (ds : List D) (i : Nat) (e : D), (enumD k ds)[i]? = some e → ∃ d, ds[i]? = some d ∧ e = .tup [.int ((k + i : Nat) : Int), d]
  | _, [], _, _, h => by simp [enumD] at h
  | k, d :: ds, 0, e, h => by simp [enumD] at h; exact ⟨d, rfl, h.symm⟩
  | k, d :: ds, i + 1, e, h => by
    obtain ⟨d', h1, h2⟩ := enumD_get (k + 1) ds i e (by simpa [enumD] using h)
    refine ⟨d', by simpa using h1, ?_⟩
    rw [h2]
    have : k + 1 + i = k + (i + 1) := by omega
    rw [this]

/-! ### for -/
def forG (gd : Gd) (g : MG) (b : MS) (F : FT) : List D → EV → Mem → Res Fl
  | [], r, M => if Gd.ok gd M = true then .ok (.next r) M else .bad
  | d :: ds, r, M => if Gd.ok gd M = true then (g F d r M).bind fun r1 M1 => (b F r1 M1).bind fun f M2 => match f with
    | .next r2 => forG gd g b F ds r2 M2
    | .cont r2 => forG gd g b F ds r2 M2
    | .brk r2 => .ok (.next r2) M2
    | .ret d => .ok (.ret d) M2
    | .rse x r2 => .ok (.rse x r2) M2 else .bad
def mFor (mi : MI) (g : MG) (b : MS) : MS := fun F r M => (mi F r M).toS r fun p M1 => forG p.2 g b F p.1 r M1
def noSet : Expr → Bool
  | .Set .. => false
  | _ => true
theorem noSet_it {e : Expr} {env : Env} (h : noSet e = true) : ∀ x, foldedSetIterable e env x = pure x := by
  intro x
  cases e <;> first | rfl | cases h
theorem drop_cons {α : Type} {l : List α} {i : Nat} (h : i < l.length) : l.drop i = l[i] :: l.drop (i + 1) := List.drop_eq_getElem_cons h
theorem ok_for {tg iter : Expr} {body : List Stmt} {pos} {mi : MI} {g : MG} {mb : MS} (hs : noSet iter = true) (hi : OkI T C tg iter mi) (hg : OkG T C tg g) (hb : OkSs T C body mb) : OkS T C (.For tg iter body [] pos) (mFor mi g mb) := by
  intro n X wx h
  refine PS.of (ps_for h.pas h.calm (hi n X wx h) (hg n X wx h) (hb n X wx h) (noSet_it hs)) fun Dn s H q => ?_
  obtain ⟨mu, M, r, mr, sr, sat⟩ := q
  refine ⟨mu, M, r, mr, sr, (Sat.toS sat sr).imp fun p M1 W1 l1 m1 s1 J wk => ?_⟩
  obtain ⟨ds, gd⟩ := p
  refine ⟨fun i m s H => m = ds.length - i ∧ i ≤ ds.length ∧ At (kb X) s H fun mu r M => Lk W1 ⟨H, mu⟩ ∧ Sat (kb X).no ⟨H, mu⟩ (forG gd g mb (callF T n) (ds.drop i) r M) (PF (kx X wx) Dn),
    ⟨ds.length, by simp, Nat.zero_le _, W1.mu, M1, r, m1, sr.le l1, Lk.refl _, s1⟩, ?_⟩
  rintro i m s2 H2 ⟨rfl, hle, mu2, M2, r2, mr2, sr2, lk2, sat2⟩
  by_cases hlt : i < ds.length
  · rw [drop_cons hlt] at sat2
    obtain ⟨hgd, sat2⟩ := sat_ite sat2
    refine .inr ⟨wk.go i _ _ lk2 mr2 hgd hlt, fun s H => (i + 1 ≤ ds.length ∧ At (kb X) s H fun mu r M => Lk W1 ⟨H, mu⟩ ∧ Sat (kb X).no ⟨H, mu⟩ (forG gd g mb (callF T n) (ds.drop (i + 1)) r M) (PF (kx X wx) Dn)), fun s' H' q' => ⟨ds.length - (i + 1), by omega, rfl, q'.1, q'.2⟩, fun x H' y => ?_⟩
    obtain ⟨W3, rfl, le3, mr3, dx⟩ := wk.yld i ds[i] _ M2 x H' (List.getElem?_eq_getElem hlt) lk2 mr2 hgd y
    refine ⟨W3.mu, M2, r2, mr3, sr2.le le3, ds[i], dx, (Sat.bind (Sat.le sat2 le3)).imp fun r4 M4 W4 l4 m4 s4 s' sr' => ?_⟩
    refine ⟨W4.mu, M4, r4, m4, sr', (Sat.bind s4).imp fun f M5 W5 l5 m5 s5 => ?_⟩
    have lk5 : Lk W1 W5 := lk2.trans ((le3.trans (l4.trans l5)).toLk)
    cases f with
    | next r5 => exact fun s' sr' => ⟨hlt, W5.mu, M5, r5, m5, sr', lk5, s5⟩
    | cont r5 => exact fun s' sr' => ⟨hlt, W5.mu, M5, r5, m5, sr', lk5, s5⟩
    | brk r5 => exact Sat.ok (show Sat _ _ (Res.ok (Fl.next r5) M5) _ from s5) m5
    | ret d => exact Sat.ok (show Sat _ _ (Res.ok (Fl.ret d) M5) _ from s5) m5
    | rse x r5 => exact Sat.ok (show Sat _ _ (Res.ok (Fl.rse x r5) M5) _ from s5) m5
  · have e : i = ds.length := by omega
    subst e
    rw [List.drop_length] at sat2
    obtain ⟨hgd, sat2⟩ := sat_ite sat2
    refine .inl ⟨wk.stop _ _ lk2 mr2 hgd, ?_⟩
    exact Sat.ok (show Sat _ _ (Res.ok (Fl.next r2) M2) _ from sat2) mr2 s2 sr2
end RI

namespace PySem
open Sem (wp)
open AutoSeq1 (wpAny_loadPart')
theorem meets_enumerate_newT (l : Addr) (items : Array Value) (n : Nat) (dct : Option Addr) (sl : Array (Option Value)) :
    Meets (Builtin.«enumerate.__new__» ⟨[.type "enumerate", .ref l], []⟩) (fun _ R s => s.heap.get? l = some { cls := .type "tuple", dict := dct, data := .seq items n, slots := sl } ∧
      R (.ok (.ret (.ref (s.heap.push { cls := .type "tuple_iterator", data := .fields #[.ref l, .int 0 0] }).objs.size)))
        { s with heap := (s.heap.push { cls := .type "tuple_iterator", data := .fields #[.ref l, .int 0 0] }).push { cls := .type "enumerate", data := .fields #[.none, .bool false, .ref s.heap.objs.size, rawInt 0, .none, .none] } }) :=
  .of_wp fun prog w A R s h => by
    obtain ⟨hp, g, d, tk, os⟩ := s; obtain ⟨hl, h⟩ := h
    have hsub := sub_enumerate
    have hL : Heap.IsTuple (Shared.heap ⟨hp, g, d, tk, os⟩) l items := ⟨_, hl, rfl, n, rfl⟩
    wp_walk using wpAny_loadPart' hl
    refine wpAny_stack_any fun st => wpAny_pure ?_
    split
    · rename_i c _ _ _ _ _
      cases (c == Value.type "enumerate")
      · wp_walk using wpAny_loadPart' hl, wpAny_pyIter_tuple hL
        exact ⟨_, rfl, h⟩
      · wp_walk using wpAny_loadPart' hl, wpAny_pyIter_tuple hL
        exact ⟨_, rfl, h⟩
    · wp_walk using wpAny_loadPart' hl, wpAny_pyIter_tuple hL
      exact ⟨_, rfl, h⟩
theorem wpAny_pyNext_enum_endT {prog : Program} {w : World} {A : Around} {E : Value → Shared → Prop} {s : Shared} {e it l : Addr} {i : Nat} {items : Array Value} {old : Value} {Q : Option Value → Shared → Prop} (hh : A.handled = none)
    (he : IsEnum s.heap e it i old) (hit : s.heap.IsTupleIter it l i) (hl : s.heap.IsTuple l items) (hx : items[i]? = none)
    (hQ : ∀ h', Heap.ExtBut it s.heap h' → Q none { s with heap := h' }) : wpAny (model prog w) A (pyNext (.ref e)) Q E s := by
  have hT : s.TypeIs (.ref e) "enumerate" := ⟨_, he, rfl⟩
  unfold pyNext
  refine wpAny_bind (wpAny_attempt (wpAny_callSpecial?_slot (name := Str.ofString "__next__") hT F.slot_enumerate_next
    (wpAny_call_entry F.slot_enumerate_next hT F.entry_enumerate_next ?_ (F.args_enumerate_next_1 _))))
  show wpAny _ _ (field (.ref e) 2 >>= _) _ _ _
  refine wpAny_bind (wpAny_field he rfl (x := .ref it) rfl ?_)
  refine wpAny_bind (wpAny_nextOf_tuple_end hh hit hl hx fun h' x he' hx' => ?_)
  obtain ⟨o, ho, hc⟩ := hx'
  refine wpAny_bind (wpAny_isInstance (T := "StopIteration") (b := true) ⟨o, ho, hc⟩ isSubtype_stop ?_)
  exact wpAny_pure (hQ _ he')
theorem call_enumerate_tuple {prog : Program} {w : World} {A : Around} {E : Value → Shared → Prop} {s : Shared} {l : Addr} {items : Array Value} {Q : Value → Shared → Prop} (hL : s.heap.IsTuple l items)
    (h : ∀ h', IsEnum h' (s.heap.objs.size + 1) s.heap.objs.size 0 .none → h'.IsTupleIter s.heap.objs.size l 0 → h'.objs.size = s.heap.objs.size + 2 →
      (∀ b o, s.heap.get? b = some o → h'.get? b = some o) → Q (.ref (s.heap.objs.size + 1)) { s with heap := h' }) :
    wpAny (model prog w) A (call (.type "enumerate") [.ref l]) Q E s := by
  obtain ⟨⟨c, dct, dt, sl⟩, hl, hc, n, hd⟩ := hL
  replace hc : c = .type "tuple" := hc
  replace hd : dt = .seq items n := hd
  subst hc hd
  refine callType_new F.called_enumerate (by decide) (F.typeCall_enumerate_1 _) (F.newCall_enumerate_1 _) (fun obj => F.args_object_init_2 obj _) F.entry_enumerate_new
    (meets_enumerate_newT l items n dct sl) ⟨hl, ?_⟩
  have hz : (s.heap.push { cls := .type "tuple_iterator", data := .fields #[.ref l, .int 0 0] }).objs.size = s.heap.objs.size + 1 := Heap.size_push ..
  show _ ∧ _
  rw [hz]
  have he : IsEnum ((s.heap.push { cls := .type "tuple_iterator", data := .fields #[.ref l, .int 0 0] }).push
      { cls := .type "enumerate", data := .fields #[.none, .bool false, .ref s.heap.objs.size, rawInt 0, .none, .none] }) (s.heap.objs.size + 1) s.heap.objs.size 0 .none := by
    have := Heap.get?_push_size (s.heap.push { cls := .type "tuple_iterator", data := .fields #[.ref l, .int 0 0] }) (o := { cls := .type "enumerate", data := .fields #[.none, .bool false, .ref s.heap.objs.size, rawInt 0, .none, .none] }) rfl
    rw [hz] at this; exact this
  refine ⟨⟨_, he, rfl⟩, h _ he ⟨_, Heap.get?_push_of_some _ (Heap.get?_push_size _ rfl), rfl, rfl⟩ (by rw [Heap.size_push, hz]) fun b o x => Heap.get?_push_of_some _ (Heap.get?_push_of_some _ x)⟩
end PySem
namespace RI
open PySem PySem.Spec PyProof.Rows L2
variable {T : Tb} {C : CC}
def IteT (K : PySem.W.Frag) (a : Addr) : It :=
  ⟨fun i H => ∃ (xs : List V) (x : V), SqT K H a xs ∧ xs[i]? = some x, fun i H v H' => ∃ T x, v = .ref T ∧ H T = none ∧ H' = upd H T (.tup [.int (i : Nat), x]) ∧ ∀ xs, SqT K H a xs → xs[i]? = some x, fun i H => ∃ xs : List V, SqT K H a xs ∧ xs.length ≤ i⟩
theorem enum_ne {h : Heap} {e it a : Addr} {k : Int} {old : Value} {its : Array Value} (he : IsEnum h e it k old) (p : h.IsTuple a its) : e ≠ a := by
  rintro rfl
  obtain ⟨o, ho, hc, _⟩ := p
  have he : h.get? e = some _ := he
  rw [he] at ho
  cases ho
  injection hc with hc
  exact absurd hc (by decide)
theorem turn_enumT {P : Program} {w : World} {K : PySem.W.Frag} {elts : List Expr} {kk : Nat} {tpos : Pos} (a e it : Addr) :
    Turn P w K (.Tuple elts kk tpos) (IteT K a) [e, it] e (fun i h => (∃ old, IsEnum h e it ((i : Nat) : Int) old) ∧ h.IsTupleIter it a i ∧ e ≠ it) where
  mem := by simp
  obj := fun i h st b hb => by
    obtain ⟨⟨old, he⟩, ⟨o, ho, hc, hd⟩, _⟩ := st
    have e' : b = e ∨ b = it := by simpa using hb
    rcases e' with z | z
    · rw [z]; exact ⟨_, he, fun v q => nomatch q⟩
    · rw [z]; exact ⟨o, ho, fun v q => by rw [hd] at q; cases q⟩
  keep := fun i h h' st k => let ⟨⟨old, he⟩, hi, hne⟩ := st; ⟨⟨old, k e (by simp) _ he⟩, hi.at fun o q => k it (by simp) o q, hne⟩
  item := by
    intro X hP hw hK hc i pins s σ H E I hf st hg
    subst hP hw hK
    obtain ⟨⟨old, he⟩, hit, hne⟩ := st
    obtain ⟨xs, x, hq, hx⟩ := hg
    obtain ⟨its, rv, p, hz⟩ := I.tuple hq
    obtain ⟨u, hu, ru⟩ := rv.get hx
    have hT : s.heap.IsTuple a its.toArray := p
    have hel : e < s.heap.objs.size := Heap.lt_size he
    have hil : it < s.heap.objs.size := by obtain ⟨_, q, _⟩ := hit; exact Heap.lt_size q
    have nai : a ≠ it := by
      rintro rfl
      obtain ⟨o, ho, hc1, _⟩ := hT
      obtain ⟨o', ho', hc2, _⟩ := hit
      rw [ho] at ho'; cases ho'; rw [hc1] at hc2; injection hc2 with hc2; exact absurd hc2 (by decide)
    have ili : i < its.toArray.size := by
      have hl := rv.length
      have : i < xs.length := by
        by_cases q : i < xs.length
        · exact q
        · rw [List.getElem?_eq_none (by omega)] at hx; cases hx
      simp only [List.size_toArray]; omega
    refine wpAny_pyNext_enum_itemD (Draws.tuple (prog := X.prog) (w := X.w) (A := X.A.in1) (I.ok.hd hc) it a nai its.toArray) he ⟨hit, hT⟩ ili hne (by simp only [List.mem_cons, List.not_mem_nil, or_false, not_or]; exact ⟨hne, enum_ne he hT⟩) fun u' h' tk hP ho hst' hT' hsz hk => ?_
    have hu' : u' = u := by
      have hP : its.toArray[i]? = some u' := hP
      rw [List.getElem?_toArray, hu] at hP
      exact (Option.some.inj hP).symm
    subst hu'
    refine ⟨_, rfl, wpAny_letOwnedTupleGo_enum (s := { s with heap := h', toks := tk + 1 }) ho fun h'' he' sb => ?_⟩
    have hT2 : h''.get? s.heap.objs.size = some { cls := .type "tuple", data := .seq #[.int i tk, u'] } := (sb.2 _ (Nat.ne_of_gt hel)).trans hT'
    have new : ObjOk X.prog X.w (upd H s.heap.objs.size (.tup [.int (i : Nat), x])) h'' s.heap.objs.size (.tup [.int (i : Nat), x]) :=
      ⟨by show 2 ≤ sizeLine; decide, [.int i tk, u'], .cons ⟨_, rfl⟩ (.cons ru .nil), ⟨_, hT2, rfl, _, rfl⟩⟩
    have I1 : Inv X pins σ (upd H s.heap.objs.size (.tup [.int (i : Nat), x])) { s with heap := h'', toks := tk + 1 } :=
      I.turnedNew (ch := [e, it]) (fun b ob hb q => (sb.2 b (fun z => hb (by simp [z]))).trans (hk b ob (fun z => hb (by simp [z])) (fun z => hb (by simp [z])) q)) hf (Nat.le_refl _) new
    refine ⟨.ref s.heap.objs.size, _, I1, rfl, ⟨_, x, rfl, I.hok.fresh (Nat.le_refl _), rfl, fun ys hy => by rw [I.tuple_inj hy hq]; exact hx⟩, ⟨⟨u', ?_⟩, hst'.1.at fun o q => (sb.2 it (Ne.symm hne)).trans q, hne⟩, fun b hb => ?_⟩
    · have e1 : ((i + 1 : Nat) : Int) = (i : Int) + 1 := by omega
      rw [e1]; exact he'
    · have hb' : b < s.heap.objs.size := by
        have e' : b = e ∨ b = it := by simpa using hb
        rcases e' with z | z
        · rw [z]; exact hel
        · rw [z]; exact hil
      rw [upd_ne (Nat.ne_of_lt hb')]
      exact (hf b hb).1
  done := by
    intro X hP hw hK hc i pins s σ H E I hf st hg
    subst hP hw hK
    obtain ⟨⟨old, he⟩, hit, hne⟩ := st
    obtain ⟨xs, hq, hx⟩ := hg
    obtain ⟨its, rv, p, hz⟩ := I.tuple hq
    have hT : s.heap.IsTuple a its.toArray := p
    obtain ⟨f0, f1, f2, f3, f4, f5⟩ := hf it (by simp)
    have hl := rv.length
    exact wpAny_pyNext_enum_endT (I.ok.hd hc) he hit hT (by simp; omega) fun h' eb => ⟨rfl, I.turned (t' := s.toks) (fun b o hb q => eb b o hb q) f0 f1 f3 f4 f5⟩
  self := fun A i s Q E st h => let ⟨⟨_, he⟩, _⟩ := st; wpAny_pyIter_enum he h
def iEnumT (K : PySem.W.Frag) (ta : TA) : TI := fun σ H R => ta σ H fun vs H1 => ∃ a xs, vs = [.ref a] ∧ SqT K H1 a xs ∧ R (IteT K a) H1
theorem pi_enumT {X : Cx} {e : Expr} {ta : TA} {p pos tpos : Pos} {elts : List Expr} {kk : Nat} (hg : Gl X "enumerate") (hm : X.mg "enumerate" = none) (ha : PA X [e] ta) (hs : starEach [e] X.env = [(false, eval e X.env)]) :
    PI X (.Tuple elts kk tpos) (.Call (.Name "enumerate" p) [e] [] pos) (iEnumT X.K ta) := by
  refine ⟨fun pins s σ H R I h => ?_⟩
  refine Call_ (ld_blt I hg hm boot_enumerate (PyProof.Rows.callWith_type1 (thn (ha.run pos pins s σ H _ I h) fun us s1 ⟨vs, H1, I1, r1, q1⟩ => ?_) hs rfl))
  obtain ⟨a, xs, ex, hq, q⟩ := q1
  subst ex
  cases r1 with
  | cons r rr =>
    cases rr
    cases r
    obtain ⟨its, rv, p', hz⟩ := I1.tuple hq
    refine call_enumerate_tuple p' fun h' he hit hsz hk => wpAny_pyIter_enum he ?_
    have I2 : Inv X pins σ H1 { s1 with heap := h' } := I1.kept (t' := s1.toks) hk
    refine ⟨s1.heap.objs.size + 1, [s1.heap.objs.size + 1, s1.heap.objs.size], _, _, H1, rfl, I2, turn_enumT a (s1.heap.objs.size + 1) s1.heap.objs.size, ⟨⟨.none, he⟩, hit, Nat.succ_ne_self _⟩, fun b hb => ?_, q⟩
    have e' : b = s1.heap.objs.size + 1 ∨ b = s1.heap.objs.size := by simpa using hb
    have hle : s1.heap.objs.size ≤ b := by
      rcases e' with z | z
      · rw [z]; exact Nat.le_add_right _ _
      · rw [z]; exact Nat.le_refl _
    exact I1.fpOk hle (I1.hok.fresh hle)
theorem walk_enumT {K : PySem.W.Frag} {a : Addr} {xs : List V} : Walk (IteT K a) xs.length (fun H => SqT K H a xs) (YPair (fun i => some (.int (i : Nat))) (fun i => xs[i]?)) := by
  refine ⟨fun i _ hi q => ⟨xs, xs[i], q, by simp [hi]⟩, fun _ q => ⟨xs, q, Nat.le_refl _⟩, fun i H x H' hi q y => ?_⟩
  obtain ⟨T, v, e1, e2, e3, e4⟩ := y
  exact ⟨T, _, v, e1, e2, e3, rfl, e4 xs q⟩
def mEnum (ms : MA) : MI := fun F r M => (ms F r M).bind fun ds M1 => match ds with
  | [.tup l] => .ok (enumD 0 l, none) M1
  | [.lst l] => .ok (enumD 0 l, none) M1
  | _ => .bad
theorem enum_pairs {K : Kb} {W : Wd} {l : List D} {xs : List V} (dr : DRels K W l xs) : ∀ i d v u, (enumD 0 l)[i]? = some d → (some (V.int (i : Nat))) = some v → xs[i]? = some u → ∃ a b, d = .tup [a, b] ∧ DRel K W a v ∧ DRel K W b u := by
  intro i d v u e ev eu
  obtain ⟨d', h1, h2⟩ := enumD_get 0 l i d e
  obtain ⟨w, ew, dw⟩ := dr.get h1
  rw [eu] at ew; cases ew
  cases ev
  refine ⟨_, _, h2, ?_, dw⟩
  show V.int _ = V.int _
  simp
theorem ok_ienum {elts : List Expr} {kk : Nat} {tpos p pos : Pos} {e : Expr} {ms : MA} {x : Str} (hx' : x = "enumerate") (hx : x ∈ T.blt) (hg : C.sc.names.lookup x = some .globalImplicit) (hs : noStar e = true) (h : OkA T C [e] ms) : OkI T C (.Tuple elts kk tpos) (.Call (.Name x p) [e] [] pos) (mEnum ms) := by
  intro n X wx q
  subst hx'
  refine PI.of (PI.or (pi_enum (gl_of q hg) (q.blt _ hx) (h n X wx q) (noStar_each hs)) (pi_enumT (gl_of q hg) (q.blt _ hx) (h n X wx q) (noStar_each hs))) fun s H R w => ?_
  obtain ⟨mu, M, r, mr, sr, sat⟩ := w
  unfold mEnum at sat
  cases e : ms (callF T n) r M with
  | bad => rw [e] at sat; exact sat.elim
  | exc x M1 =>
    rw [e] at sat
    refine .inl ⟨mu, M, r, mr, sr, ?_⟩
    show Sat _ _ (ms (callF T n) r M) _
    rw [e]
    exact sat
  | ok ds M1 =>
    rw [e] at sat
    simp only [Res.bind_ok] at sat
    split at sat
    · rename_i l
      refine .inr ⟨mu, M, r, mr, sr, ?_⟩
      show Sat _ _ (ms (callF T n) r M) _
      rw [e]
      intro W1 l1 m1 vs dvs
      obtain ⟨v, rfl, dv⟩ := rels1 dvs
      simp only [DRel] at dv
      obtain ⟨a, xs, rfl, t, dr⟩ := dv
      exact ⟨a, xs, rfl, t.sq, sat W1 l1 m1 _ (walk_pair walk_enumT (fun W' l' => (t.lk l').sq) (by rw [enumD_len, dr.length]) (enum_pairs dr))⟩
    · rename_i l
      refine .inl ⟨mu, M, r, mr, sr, ?_⟩
      show Sat _ _ (ms (callF T n) r M) _
      rw [e]
      intro W1 l1 m1 vs dvs
      obtain ⟨v, rfl, dv⟩ := rels1 dvs
      simp only [DRel] at dv
      obtain ⟨a, xs, rfl, t, dr⟩ := dv
      exact ⟨a, xs, rfl, t.sq, sat W1 l1 m1 _ (walk_pair walk_enum (fun W' l' => (t.lk l').sq) (by rw [enumD_len, dr.length]) (enum_pairs dr))⟩
    · exact sat.elim
end RI

namespace RI
open PySem PySem.Spec PyProof.Rows L2
variable {T : Tb} {C : CC}

/-! ### append -/
def appD (o v : D) (M : Mem) : Res D := match o with
  | .obj j => match M[j]? with
    | some (.lst l) => if l.length < LIM ∧ D.bel j v = true then .ok .non (M.set j (.lst (l ++ [v]))) else .bad
    | _ => .bad
  | _ => .bad
def mApp (mo mv : ME) : ME := fun F r M => (mo F r M).bind fun o M1 => match o with
  | .obj j => match M1[j]? with
    | some (.lst _) => (mv F r M1).bind fun v M2 => (appD o v M2).noX
    | _ => .bad
  | _ => .bad
def noSuper : Expr → Bool
  | .Call .. => false
  | _ => true
theorem noSuper_base {o : Expr} {a : Str} {env : Env} {w : Sem Value} (h : noSuper o = true) : attributeBase o a env w = w := by
  cases o <;> first | rfl | cases h
theorem few_of {env : Env} {cpos : Pos} {e : Expr} (hs : noStar e = true) : ((backTo cpos (starEach [e] env)).all (fun x => !x.1) && (backToKw cpos (keywordEach [] env)).all (fun x => x.1.isSome)
      && decide (([e] : List Expr).length + ([] : List Keyword).length + (if ([] : List Keyword).isEmpty then 0 else 1) < 30)) = true := by
  rw [noStar_each hs]; rfl
theorem ok_append {o e : Expr} {name : Str} {apos cpos : Pos} {mo mv : ME} (hn : name = "append") (hb : noSuper o = true) (hl : (apos.endLine == cpos.line) = true) (hs : noStar e = true) (ho : OkE T C o mo) (he : OkE T C e mv) : OkE T C (.Call (.Attribute o name apos) [e] [] cpos) (mApp mo mv) := by
  intro n X wx h
  subst hn
  refine PE.of (pe_bm PySem.F.plainAttrs_list PySem.F.slot_list_append PySem.F.type_list_append mt_append (ho n X wx h) (pa_cons (he n X wx h) pa_nil (noStar_each hs)) (noSuper_base hb) (few_of hs) hl (noStar_each hs) (by rfl)) fun s H Q q => ?_
  obtain ⟨mu, M, r, mr, sr, sat⟩ := q
  refine ⟨mu, M, r, mr, sr, sat.bind.imp fun d M1 W1 l1 m1 s1 v dv => ?_⟩
  cases d with
  | obj j =>
    simp only [DRel] at dv
    obtain ⟨a, rfl, ha⟩ := dv
    cases e1 : M1[j]? with
    | none => simp only [e1] at s1; exact s1.elim
    | some o1 =>
    cases o1 with
    | dct l0 => simp only [e1] at s1; exact s1.elim
    | lst l0 =>
      simp only [e1] at s1
      obtain ⟨xs0, eh0, _, _⟩ := m1.obj j a _ ha e1
      refine ⟨.inl ⟨rfl, xs0, SqL.of eh0⟩, W1.mu, M1, r, m1, sr.le l1, (Sat.bind s1).imp fun w M2 W2 l2 m2 s2 wv dw => ?_⟩
      have s2 := s2.noX
      unfold appD at s2
      simp only at s2
      split at s2
      · rename_i l e2
        obtain ⟨⟨hz, hb⟩, s2⟩ := sat_ite s2
        have ha2 : W2.mu.l[j]? = some a := by
          have := DRel.le (K := kb X) l2 (.obj j) (.ref a) (by simp only [DRel]; exact ⟨a, rfl, ha⟩)
          simp only [DRel] at this
          obtain ⟨b, eb, hb⟩ := this
          cases eb; exact hb
        obtain ⟨xs, eh, dr, bl⟩ := m2.obj j a _ ha2 e2
        refine ⟨a, xs, wv, rfl, rfl, eh, by rw [← dr.length, ← lim_eq]; exact hz, ?_⟩
        obtain ⟨l3, m3⟩ := m2.wrote ha2 (DRels.append dr (show DRels (kb X) W2 [w] [wv] from ⟨wv, [], rfl, dw, rfl⟩)) (bels_app bl (by simp [D.bels, hb]))
        exact s2 _ l3 m3 .non rfl
      · exact s2.elim
  | _ => exact s1.elim

/-! ### list comprehensions -/
def wipeE (r : EV) : List Nat → EV
  | [] => r
  | v :: vs => (wipeE r vs).set v none
theorem wipeE_len (r : EV) : ∀ vs, (wipeE r vs).length = r.length
  | [] => rfl
  | v :: vs => by unfold wipeE; rw [List.length_set, wipeE_len r vs]
theorem SRel.wipe {K : Kb} {W : Wd} {s : L2.St} {r : EV} (h : SRel K W s r) : ∀ vs, SRel K W (wipe s vs) (wipeE r vs)
  | [] => h
  | v :: vs => by
    have ih := SRel.wipe h vs
    unfold wipeE L2.wipe
    refine ⟨by simp [ih.len], fun j e hj => ?_⟩
    by_cases hij : v = j
    · subst hij
      by_cases hv : v < (wipeE r vs).length
      · rw [List.getElem?_set_self hv] at hj; cases hj
      · rw [List.getElem?_eq_none (by simpa using hv)] at hj; cases hj
    · rw [List.getElem?_set_ne hij] at hj ⊢
      exact ih.get j e hj
theorem wipe_set (s : L2.St) (i : Nat) (x : Option V) : ∀ vs, i ∈ vs → wipe (s.set i x) vs = wipe s vs
  | [], h => by cases h
  | v :: vs, h => by
    unfold L2.wipe
    by_cases hi : i ∈ vs
    · rw [wipe_set s i x vs hi]
    · have e : i = v := by
        rcases List.mem_cons.mp h with h | h
        · exact h
        · exact absurd h hi
      subst e
      have key : ∀ us : List Nat, i ∉ us → wipe (s.set i x) us = (wipe s us).set i x := by
        intro us
        induction us with
        | nil => intro _; rfl
        | cons u us ih =>
          intro hu
          simp only [List.mem_cons, not_or] at hu
          unfold L2.wipe
          rw [ih hu.2, List.set_comm _ _ hu.1]
      rw [key vs hi, List.set_set]
theorem wipe_wipe (s : L2.St) (vs : List Nat) : wipe (wipe s vs) vs = wipe s vs := by
  have key : ∀ us : List Nat, (∀ u ∈ us, u ∈ vs) → wipe (wipe s us) vs = wipe s vs := by
    intro us
    induction us with
    | nil => intro _; rfl
    | cons u us ih =>
      intro h
      conv => lhs; arg 1; unfold L2.wipe
      rw [wipe_set _ u none vs (h u List.mem_cons_self)]
      exact ih fun w hw => h w (List.mem_cons_of_mem _ hw)
  exact key vs fun u hu => hu
/-- targets that store in vs alone -/
def rdGc (K : Kx) (F : FT) (vs : List Nat) (m : MG) : TG := fun v s H Q => At K s H fun mu r M => ∃ d, DRel K ⟨H, mu⟩ d v ∧ Sat K.b.no ⟨H, mu⟩ (m F d r M) (fun r' _ W => ∀ s', SRel K W s' r' → wipe s' vs = wipe s vs → Q s' W.H)
def rdGsc (K : Kx) (F : FT) (vs : List Nat) (m : MGs) : TGs := fun v s H Q => At K s H fun mu r M => ∃ d, DRels K ⟨H, mu⟩ d v ∧ Sat K.b.no ⟨H, mu⟩ (m F d r M) (fun r' _ W => ∀ s', SRel K W s' r' → wipe s' vs = wipe s vs → Q s' W.H)
def OkGc (T : Tb) (C : CC) (vs : List Nat) (e : Expr) (m : MG) : Prop := ∀ n X wx, CxOk T n C X wx → PG X e (rdGc (kx X wx) (callF T n) vs m)
def OkGsc (T : Tb) (C : CC) (vs : List Nat) (es : List Expr) (m : MGs) : Prop := ∀ n X wx, CxOk T n C X wx → PGs X es (rdGsc (kx X wx) (callF T n) vs m)
theorem ok_gcname {i : Nat} {x : Str} {pos : Pos} {vs : List Nat} (hv : i ∈ vs) (hi : C.N[i]? = some x) (hl : C.sc.names.lookup x = some .local ∨ (C.sc.names.lookup x = some .cell ∧ C.fn x = true)) : OkGc T C vs (.Name x pos) (gN i) := by
  intro n X wx h
  obtain ⟨h1, h2⟩ := loc_of h hl
  refine PG.of (pg_name h.nd (by rw [h.N]; exact hi) h1 h2) fun v s H Q q => ?_
  obtain ⟨mu, M, r, mr, sr, d, dv, sat⟩ := q
  exact sat.ok mr _ (sr.set dv i) (wipe_set s i (some v) vs hv)
theorem ok_gscnil {vs : List Nat} : OkGsc T C vs [] gsNil := by
  intro n X wx h
  refine PGs.of pgs_nil fun v s H Q q => ?_
  obtain ⟨mu, M, r, mr, sr, ds, dv, sat⟩ := q
  cases ds with
  | nil => exact ⟨dv, sat.ok mr s sr rfl⟩
  | cons _ _ => exact sat.elim
theorem ok_gsccons {vs : List Nat} {e : Expr} {es : List Expr} {g : MG} {gs : MGs} (hs : noStarT e = true) (h1 : OkGc T C vs e g) (h2 : OkGsc T C vs es gs) : OkGsc T C vs (e :: es) (gsCons g gs) := by
  intro n X wx h
  refine PGs.of (pgs_cons (h1 n X wx h) (h2 n X wx h) (by rw [noStarT_each hs]; rfl)) fun v s H Q q => ?_
  obtain ⟨mu, M, r, mr, sr, ds, dv, sat⟩ := q
  cases ds with
  | nil => exact sat.elim
  | cons d rest =>
    simp only [DRels] at dv
    obtain ⟨v1, vr, rfl, d1, d2⟩ := dv
    refine ⟨v1, vr, rfl, mu, M, r, mr, sr, d, d1, sat.bind.imp fun r1 M1 W1 l1 m1 s1 s' sr' e1 => ?_⟩
    exact ⟨W1.mu, M1, r1, m1, sr', rest, DRels.le l1 rest vr d2, s1.imp fun r2 M2 W2 l2 m2 q2 s2 sr2 e2 => q2 s2 sr2 (e2.trans e1)⟩
theorem ok_gctup {vs : List Nat} {es : List Expr} {k pos} {gs : MGs} {m : Nat} (hs : es.all noStarT = true) (hm : es.length = m) (h : OkGsc T C vs es gs) : OkGc T C vs (.Tuple es k pos) (gTp m gs) := by
  intro n X wx q
  obtain ⟨a1, a2⟩ := noStarsT (env := X.env) hs
  refine PG.of (PG.or (pg_tup q.calm (h n X wx q) (a1.trans hm) a2) (pg_unl q.calm (h n X wx q) (a1.trans hm) a2)) fun v s H Q w => ?_
  obtain ⟨mu, M, r, mr, sr, d, dv, sat⟩ := w
  unfold gTp at sat
  split at sat
  · rename_i l e
    obtain ⟨hl, sat⟩ := sat_ite sat
    obtain ⟨a, xs, rfl, hq, dr⟩ := seqD_at mr e dv
    rcases hq with hq | hq
    · exact .inr ⟨a, xs, rfl, hq, by rw [← dr.length]; exact hl, mu, M, r, mr, sr, l, dr, sat⟩
    · exact .inl ⟨a, xs, rfl, hq, by rw [← dr.length]; exact hl, mu, M, r, mr, sr, l, dr, sat⟩
  · exact sat.elim
def OkTs (T : Tb) (C : CC) (es : List Expr) (m : MT) : Prop := ∀ n X wx, CxOk T n C X wx → PTs X es (rdT (kx X wx) (callF T n) m)
theorem PTs.of {X : Cx} {e : List Expr} {t t' : TT} (h : PTs X e t) (f : ∀ s H Q, t' s H Q → t s H Q) : PTs X e t' := ⟨fun pins s σ H Q I q => h.run pins s σ H Q I (f σ H Q q)⟩
def mYes : MT := fun _ _ M => .ok true M
theorem ok_tsnil : OkTs T C [] mYes := by
  intro n X wx h
  refine PTs.of pts_nil fun s H Q q => ?_
  obtain ⟨mu, M, r, mr, sr, sat⟩ := q
  exact sat.ok mr
theorem ok_tsone {e : Expr} {m : MT} (h : OkT T C e m) : OkTs T C [e] m := fun n X wx q => pts_one (h n X wx q)
/-- the block -/
def CC.blk (C : CC) (scope : Scope) : CC := { C with sc := relS scope C.sc, fn := fun x => scope.names.lookup x == some .cell }
theorem CxOk.blk {n : Nat} {X : Cx} {wx : Ex → L2.St → Wd → Prop} (h : CxOk T n C X wx) {scope : Scope} (hk : scope.kind = .function) (s : Shared) (H : Hp) (Ca : Addr) (cl : List (Str × Addr)) (fp : List Addr) : CxOk T n (C.blk scope) (X.blk s H scope (compEnvC scope cl Ca X.env) fp) (fun _ _ _ => False) where
  sc := by
    show (compEnvC scope cl Ca X.env).scope = relS scope C.sc
    rw [← h.sc]; rfl
  N := h.N
  nd := h.nd
  fn := rfl
  kind := hk
  calm := h.calm
  room := h.room
  pas := PassesOwn.never
  tk := Takes.imp takes0 fun _ _ _ _ q => by
    obtain ⟨_, _, _, z⟩ := q
    exact z
  con := h.con
  blt := h.blt
  fns := h.fns
def lcG (gd : Gd) (g : MG) (mt : MT) (me : ME) (F : FT) (r : EV) : List D → Mem → Res (List D)
  | [], M => if Gd.ok gd M = true then .ok [] M else .bad
  | d :: ds, M => if Gd.ok gd M = true then (g F d r M).bind fun r1 M1 => (mt F r1 M1).bind fun k M2 =>
    if k then (me F r1 M2).bind fun y M3 => (lcG gd g mt me F r ds M3).bind fun ys M4 => .ok (y :: ys) M4 else lcG gd g mt me F r ds M2 else .bad
def mLc (mi : MI) (g : MG) (mt : MT) (me : ME) (vs : List Nat) : ME := fun F r M => (mi F r M).bind fun p M1 => if p.1.length ≤ LIM then (lcG p.2 g mt me F (wipeE r vs) p.1 M1).noX.bind fun ys M2 => .ok (.lst ys) M2 else .bad
theorem Sat.eq {A : Type} {K : Kx} {W : Wd} {r r' : Res A} {P : A → Mem → Wd → Prop} (h : Sat K W r P) (e : r = r') : Sat K W r' P := e ▸ h
theorem bind_assoc {A B C : Type} (r : Res A) (f : A → Mem → Res B) (g : B → Mem → Res C) : (r.bind f).bind g = r.bind fun a M => (f a M).bind g := by
  cases r <;> rfl
/-- a list that is being made becomes one that stands -/
theorem tLc_of {K : Kx} {F : FT} {mi : MI} {g : MG} {mt : MT} {me : ME} {vs : List Nat} {s : L2.St} {H : Hp} {Q : VK} (q : rdE K F (mLc mi g mt me vs) s H Q) :
    tLc (rdI K F mi) (rdGc K.b.no F vs g) (rdT K.b.no F mt) (rdE K.b.no F me) vs s H Q := by
  obtain ⟨mu, M, r, mr, sr, sat⟩ := q
  refine ⟨mu, M, r, mr, sr, sat.bind.imp fun p M1 W1 l1 m1 s1 J wk Dl hD => ?_⟩
  obtain ⟨ds, gd⟩ := p
  obtain ⟨hlim, s1⟩ := sat_ite s1
  have hlim : ds.length ≤ LIM := hlim
  have fz := m1.fresh hD
  have sr1 : SRel K W1 s r := sr.le l1
  -- the world with the list that is made
  have inv : ∃ Pv : Nat → Hp → Prop, Pv 0 (upd W1.H Dl (.lst [])) ∧ (∀ i H2, i ≤ ds.length → Pv i H2 →
      (i = ds.length → J.stop i H2 ∧ Q (.ref Dl) H2) ∧ (i < ds.length → J.go i H2 ∧ ∀ x H', J.yld i H2 x H' → rdGc K.b.no F vs g x (wipe s vs) H' fun s2 H3 => wipe s2 vs = wipe s vs ∧ rdT K.b.no F mt s2 H3 fun b H4 =>
        if b = true then rdE K.b.no F me s2 H4 fun y H5 => ∃ acc, H5 Dl = some (.lst acc) ∧ acc.length < sizeLine ∧ Pv (i + 1) (upd H5 Dl (.lst (acc ++ [y]))) else Pv (i + 1) H4)) := by
    refine ⟨fun i H2 => ∃ mu2 M2 acc xs, MRel K ⟨H2, mu2⟩ M2 ∧ Lk W1 ⟨H2, mu2⟩ ∧ mu2.p = Dl :: W1.mu.p ∧ (∀ a, a ∈ W1.mu.p → H2 a = W1.H a) ∧ H2 Dl = some (.lst xs) ∧ DRels K ⟨H2, mu2⟩ acc xs ∧ acc.length ≤ i ∧
        Sat (K.at s) W1 ((lcG gd g mt me F (wipeE r vs) (ds.drop i) M2).noX.bind fun ys M3 => .ok (.lst (acc ++ ys)) M3) (PV K Q), ?_, ?_⟩
    · have ne : ∀ {a : Addr} {u : HO}, W1.H a = some u → upd W1.H Dl (.lst []) a = some u := fun {a u} h => by
        rw [upd_ne (ne_of_none h hD)]; exact h
      have lk : Lk W1 ⟨upd W1.H Dl (.lst []), ⟨W1.mu.l, Dl :: W1.mu.p⟩⟩ := ⟨⟨[], by simp⟩, fun a o h nf => ⟨ne h, nf.1, by
        show a ∉ Dl :: W1.mu.p
        simp only [List.mem_cons, not_or]
        exact ⟨ne_of_none h hD, nf.2⟩⟩⟩
      refine ⟨⟨W1.mu.l, Dl :: W1.mu.p⟩, M1, [], [], m1.lk lk rfl (fun a ha => ?_) (fun a ha => ?_), lk, rfl, fun a ha => ?_, upd_same, rfl, Nat.zero_le _, s1⟩
      · obtain ⟨u, e⟩ := m1.there ha
        rw [e]; exact ne e
      · rcases List.mem_cons.mp ha with rfl | ha
        · exact ⟨⟨_, upd_same⟩, fz.1⟩
        · obtain ⟨⟨u, e⟩, q⟩ := m1.pv a ha
          exact ⟨⟨u, ne e⟩, q⟩
      · obtain ⟨⟨u, e⟩, q⟩ := m1.pv a ha
        rw [e]; exact ne e
    · rintro i H2 hle ⟨mu2, M2, acc, xs, mr2, lk2, ep, hpv, hDl, dacc, hacc, sat2⟩
      constructor
      · rintro rfl
        rw [List.drop_length] at sat2
        simp only [lcG] at sat2
        by_cases hgd : Gd.ok gd M2 = true
        case neg => rw [if_neg hgd] at sat2; exact sat2.elim
        rw [if_pos hgd] at sat2
        refine ⟨wk.stop _ _ lk2 mr2 hgd, ?_⟩
        simp only [Res.noX_ok, Res.bind_ok, List.append_nil] at sat2
        -- leave: the list stands
        have nDl : Dl ∉ mu2.l := (mr2.pv Dl (by rw [ep]; exact List.mem_cons_self)).2
        have lk3 : Lk ⟨H2, mu2⟩ ⟨H2, ⟨mu2.l, W1.mu.p⟩⟩ := ⟨⟨[], by simp⟩, fun a o h nf => ⟨h, nf.1, fun z => nf.2 (by show a ∈ mu2.p; rw [ep]; exact List.mem_cons_of_mem _ z)⟩⟩
        have mr3 : MRel K ⟨H2, ⟨mu2.l, W1.mu.p⟩⟩ M2 := mr2.lk lk3 rfl (fun _ _ => rfl) fun a ha => mr2.pv a (by rw [ep]; exact List.mem_cons_of_mem _ ha)
        have le3 : Le W1 ⟨H2, ⟨mu2.l, W1.mu.p⟩⟩ := ⟨lk2.trans lk3, rfl, fun a ha => hpv a ha⟩
        refine sat2 _ le3 mr3 (.ref Dl) ?_
        simp only [DRel]
        exact ⟨Dl, xs, rfl, .inl ⟨.inl hDl, nDl, fz.2⟩, DRels.lk lk3 acc xs dacc⟩
      · intro hlt
        rw [drop_cons hlt] at sat2
        simp only [lcG] at sat2
        by_cases hgd : Gd.ok gd M2 = true
        case neg => rw [if_neg hgd] at sat2; exact sat2.elim
        rw [if_pos hgd] at sat2
        refine ⟨wk.go i _ _ lk2 mr2 hgd hlt, fun x H' y => ?_⟩
        obtain ⟨W3, rfl, le3, mr3, dx⟩ := wk.yld i ds[i] _ M2 x H' (List.getElem?_eq_getElem hlt) lk2 mr2 hgd y
        -- facts that go on
        have base : ∀ W, Le W3 W → Lk W1 W ∧ W.mu.p = Dl :: W1.mu.p ∧ (∀ a, a ∈ W1.mu.p → W.H a = W1.H a) ∧ W.H Dl = some (.lst xs) ∧ DRels K W acc xs := fun W l => by
          have l' := le3.trans l
          have e : W.mu.p = Dl :: W1.mu.p := l'.pv.trans ep
          refine ⟨lk2.trans l'.toLk, e, fun a ha => ?_, ?_, DRels.le l' acc xs dacc⟩
          · rw [l'.pvk a (by show a ∈ mu2.p; rw [ep]; exact List.mem_cons_of_mem _ ha)]; exact hpv a ha
          · rw [l'.pvk Dl (by show Dl ∈ mu2.p; rw [ep]; exact List.mem_cons_self)]; exact hDl
        have srw : SRel K W3 (wipe s vs) (wipeE r vs) := (sr1.wipe vs).lk (lk2.trans le3.toLk)
        refine ⟨W3.mu, M2, wipeE r vs, mr3, srw, ds[i], dx, ?_⟩
        -- the meaning from W1 on, walked from W3 on
        cases e1 : g F ds[i] (wipeE r vs) M2 with
        | bad => rw [e1] at sat2; exact sat2.elim
        | exc _ _ => rw [e1] at sat2; exact sat2.elim
        | ok r4 M4 =>
          rw [e1] at sat2
          simp only [Res.bind_ok] at sat2
          intro W4 l4 m4 s4 sr4 es4
          refine ⟨es4.trans (wipe_wipe s vs), W4.mu, M4, r4, m4, sr4, ?_⟩
          cases e2 : mt F r4 M4 with
          | bad => rw [e2] at sat2; exact sat2.elim
          | exc _ _ => rw [e2] at sat2; exact sat2.elim
          | ok k M5 =>
            rw [e2] at sat2
            simp only [Res.bind_ok] at sat2
            show Sat (K.b.no.at s4) W4 (mt F r4 M4) _
            rw [e2]
            intro W5 l5 m5
            cases k with
            | false =>
              refine iteF ?_
              simp only [Bool.false_eq_true, if_false] at sat2
              obtain ⟨b1, b2, b3, b4, b5⟩ := base W5 (l4.trans l5)
              exact ⟨W5.mu, M5, acc, xs, m5, b1, b2, b3, b4, b5, by omega, sat2⟩
            | true =>
              refine iteT ⟨W5.mu, M5, r4, m5, sr4.le l5, ?_⟩
              simp only [if_true] at sat2
              cases e3 : me F r4 M5 with
              | bad => rw [e3] at sat2; exact sat2.elim
              | exc _ _ => rw [e3] at sat2; exact sat2.elim
              | ok yd M6 =>
                rw [e3] at sat2
                simp only [Res.bind_ok] at sat2
                show Sat (K.b.no.at s4) W5 (me F r4 M5) _
                rw [e3]
                intro W6 l6 m6 yv dy
                obtain ⟨b1, b2, b3, b4, b5⟩ := base W6 ((l4.trans l5).trans l6)
                refine ⟨xs, b4, by rw [← b5.length, ← lim_eq]; omega, ?_⟩
                have hDp : Dl ∈ W6.mu.p := by rw [b2]; exact List.mem_cons_self
                have nDl : Dl ∉ W6.mu.l := (m6.pv Dl hDp).2
                have lk7 : Lk W6 ⟨upd W6.H Dl (.lst (xs ++ [yv])), W6.mu⟩ := ⟨⟨[], by simp⟩, fun a o h nf => ⟨by
                  show upd W6.H Dl _ a = _
                  rw [upd_ne (by rintro rfl; exact nf.2 hDp)]; exact h, nf⟩⟩
                refine ⟨W6.mu, M6, acc ++ [yd], xs ++ [yv], m6.lk lk7 rfl (fun a ha => upd_ne (by rintro rfl; exact nDl ha)) (fun a ha => ?_), b1.trans lk7, b2, fun a ha => ?_, upd_same,
                  DRels.lk lk7 _ _ (DRels.append b5 (show DRels K W6 [yd] [yv] from ⟨yv, [], rfl, dy, rfl⟩)), by simp; omega, ?_⟩
                · by_cases ea : a = Dl
                  · subst ea
                    exact ⟨⟨_, upd_same⟩, nDl⟩
                  · obtain ⟨⟨u, e⟩, q⟩ := m6.pv a ha
                    exact ⟨⟨u, by show upd W6.H Dl _ a = _; rw [upd_ne ea]; exact e⟩, q⟩
                · have ea : a ≠ Dl := by rintro rfl; exact fz.2 ha
                  rw [upd_ne ea]; exact b3 a ha
                · refine Sat.eq sat2 ?_
                  cases lcG gd g mt me F (wipeE r vs) (ds.drop (i + 1)) M6 with
                  | ok ys M7 => simp [Res.bind, Res.noX]
                  | exc _ _ => rfl
                  | bad => rfl
  obtain ⟨Pv, p0, step⟩ := inv
  refine ⟨fun i m H2 => m = ds.length - i ∧ i ≤ ds.length ∧ Pv i H2, ⟨ds.length, by simp, Nat.zero_le _, p0⟩, ?_⟩
  rintro i m H2 ⟨rfl, hle, p⟩
  obtain ⟨h1, h2⟩ := step i H2 hle p
  by_cases hlt : i < ds.length
  · obtain ⟨go, st⟩ := h2 hlt
    exact .inr ⟨go, Pv (i + 1), fun H' p' => ⟨ds.length - (i + 1), by omega, rfl, hlt, p'⟩, st⟩
  · exact .inl (h1 (by omega))
theorem ok_lc {elt tg iter : Expr} {ifs : List Expr} {scope : Scope} {own : List (Str × Nat)} {pos : Pos} {mi : MI} {g : MG} {mt : MT} {me : ME} {vs : List Nat} (hv : own.map (·.2) = vs) (hs : noSet iter = true) (ok : blkC C.N C.sc scope own = true) (hi : OkI T C tg iter mi)
    (hg : OkGc T (C.blk scope) vs tg g) (ht : OkTs T (C.blk scope) ifs mt) (he : OkE T (C.blk scope) elt me) : OkE T C (.ListComp elt [⟨tg, iter, ifs, 0⟩] scope pos) (mLc mi g mt me vs) := by
  intro n X wx h
  have bo : BlkOk X.N X.env.scope scope own := by rw [h.N, h.sc]; exact blkOk_by ok
  subst hv
  exact PE.of (pe_lc (g := rdGc (kb X).no (callF T n) (own.map (·.2)) g) (tt := rdT (kb X).no (callF T n) mt) (te := rdE (kb X).no (callF T n) me) h.calm h.nd (hi n X wx h) bo (fun s H Ca cl fp => hg n _ _ (h.blk bo.kind s H Ca cl fp)) (fun s H Ca cl fp => ht n _ _ (h.blk bo.kind s H Ca cl fp)) (fun s H Ca cl fp => he n _ _ (h.blk bo.kind s H Ca cl fp)) (noSet_it hs)) fun s H Q q => tLc_of q
/-- y = [..] on one line -/
theorem ok_setlc {i : Nat} {y : Str} {py spos : Pos} {elt tg iter : Expr} {ifs : List Expr} {scope : Scope} {own : List (Str × Nat)} {pos : Pos} {mi : MI} {g : MG} {mt : MT} {me : ME} {vs : List Nat} (hv : own.map (·.2) = vs) (hs : noSet iter = true) (ok : blkC C.N C.sc scope own = true)
    (hy : C.N[i]? = some y) (hyl : C.sc.names.lookup y = some .local) (hline : (py.line == pos.line) = true) (hany : (scope.names.any fun (n, k) => n == y && (k == .local || k == .cell)) = false) (hi : OkI T C tg iter mi)
    (hg : OkGc T (C.blk scope) vs tg g) (ht : OkTs T (C.blk scope) ifs mt) (he : OkE T (C.blk scope) elt me) : OkS T C (.Assign [.Name y py] (.ListComp elt [⟨tg, iter, ifs, 0⟩] scope pos) spos) (mAsg (mLc mi g mt me vs) (gN i)) := by
  intro n X wx h
  have bo : BlkOk X.N X.env.scope scope own := by rw [h.N, h.sc]; exact blkOk_by ok
  subst hv
  have hk : X.env.scope.kind = .function := by rw [h.sc]; exact h.kind
  refine PS.of (ps_setLc (g := rdGc (kb X).no (callF T n) (own.map (·.2)) g) (tt := rdT (kb X).no (callF T n) mt) (te := rdE (kb X).no (callF T n) me) h.calm h.nd (by rw [h.N]; exact hy) (by rw [h.sc]; exact hyl) (sw_true hk (by rw [h.sc]; exact hyl) hline hany) (hi n X wx h) bo (fun s H Ca cl fp => hg n _ _ (h.blk bo.kind s H Ca cl fp)) (fun s H Ca cl fp => ht n _ _ (h.blk bo.kind s H Ca cl fp)) (fun s H Ca cl fp => he n _ _ (h.blk bo.kind s H Ca cl fp)) (noSet_it hs)) fun Dn s H q => ?_
  refine tLc_of ?_
  obtain ⟨mu, M, r, mr, sr, sat⟩ := asg_of q
  refine ⟨mu, M, r, mr, sr, sat.imp fun d M1 W1 l1 m1 s1 v dv => ?_⟩
  obtain ⟨mu2, M2, r2, mr2, sr2, d2, dv2, sat2⟩ := s1 v dv
  exact sat2.ok mr2 _ (sr2.set dv2 i)
end RI

namespace RI
open PySem PySem.Spec PyProof.Rows L2
variable {T : Tb} {C : CC}

/-! ### things being made -/
abbrev Wd.priv (W : Wd) (p : Addr) (o : HO) : Wd := ⟨upd W.H p o, ⟨W.mu.l, p :: W.mu.p⟩⟩
theorem priv_in {K : Kb} {W : Wd} {M : Mem} (m : MRel K W M) {p : Addr} (hp : W.H p = none) (o : HO) : Lk W (W.priv p o) ∧ MRel K (W.priv p o) M := by
  have fz := m.fresh hp
  have ne : ∀ {a : Addr} {u : HO}, W.H a = some u → upd W.H p o a = some u := fun {a u} h => by
    rw [upd_ne (ne_of_none h hp)]; exact h
  have lk : Lk W (W.priv p o) := ⟨⟨[], by simp⟩, fun a u h nf => ⟨ne h, nf.1, by
    show a ∉ p :: W.mu.p
    simp only [List.mem_cons, not_or]
    exact ⟨ne_of_none h hp, nf.2⟩⟩⟩
  refine ⟨lk, m.lk lk rfl (fun a ha => ?_) (fun a ha => ?_)⟩
  · obtain ⟨u, e⟩ := m.there ha
    rw [e]; exact ne e
  · rcases List.mem_cons.mp ha with rfl | ha
    · exact ⟨⟨_, upd_same⟩, fz.1⟩
    · obtain ⟨⟨u, e⟩, q⟩ := m.pv a ha
      exact ⟨⟨u, ne e⟩, q⟩
theorem priv_out {K : Kb} {W W3 : Wd} {M M3 : Mem} (m : MRel K W M) {p : Addr} (hp : W.H p = none) {o : HO} (l : Le (W.priv p o) W3) (m3 : MRel K W3 M3) (o' : HO) (mo : MO) (new : ∀ W', Lk W3 W' → W'.H p = some o' → ORel K W' M3.length p mo) :
    Le W ⟨upd W3.H p o', ⟨W3.mu.l ++ [p], W.mu.p⟩⟩ ∧ MRel K ⟨upd W3.H p o', ⟨W3.mu.l ++ [p], W.mu.p⟩⟩ (M3 ++ [mo]) := by
  have ep : W3.mu.p = p :: W.mu.p := l.pv
  have npl : p ∉ W3.mu.l := (m3.pv p (by rw [ep]; exact List.mem_cons_self)).2
  have npp : p ∉ W.mu.p := (m.fresh hp).2
  have lk : Lk W3 ⟨upd W3.H p o', ⟨W3.mu.l ++ [p], W.mu.p⟩⟩ := ⟨⟨[p], rfl⟩, fun a u h nf => by
    have hne : a ≠ p := by rintro rfl; exact nf.2 (by rw [ep]; exact List.mem_cons_self)
    refine ⟨by show upd W3.H p o' a = _; rw [upd_ne hne]; exact h, ?_, ?_⟩
    · show a ∉ W3.mu.l ++ [p]
      simp only [List.mem_append, List.mem_singleton, not_or]
      exact ⟨nf.1, hne⟩
    · show a ∉ W.mu.p
      intro z
      exact nf.2 (by rw [ep]; exact List.mem_cons_of_mem _ z)⟩
  refine ⟨⟨((priv_in m hp o).1.trans l.toLk).trans lk, rfl, fun a ha => ?_⟩, by simp [m3.len], ?_, fun i a u h1 h2 => ?_, fun a ha => ?_⟩
  · have hne : a ≠ p := by rintro rfl; exact npp ha
    show upd W3.H p o' a = W.H a
    rw [upd_ne hne, l.pvk a (List.mem_cons_of_mem _ ha)]
    show upd W.H p o a = W.H a
    rw [upd_ne hne]
  · show (W3.mu.l ++ [p]).Nodup
    rw [List.nodup_append]
    refine ⟨m3.nd, by simp, ?_⟩
    intro x hx y hy e
    simp only [List.mem_singleton] at hy
    subst hy; subst e; exact npl hx
  · have h1 : (W3.mu.l ++ [p])[i]? = some a := h1
    by_cases hi : i < W3.mu.l.length
    · rw [List.getElem?_append_left hi] at h1
      rw [List.getElem?_append_left (by rw [← m3.len]; exact hi)] at h2
      have hm : a ∈ W3.mu.l := List.mem_of_getElem? h1
      refine (m3.obj i a u h1 h2).lk lk ?_
      show upd W3.H p o' a = _
      rw [upd_ne (by rintro rfl; exact npl hm)]
    · have e : i = W3.mu.l.length := by
        have : i < (W3.mu.l ++ [p]).length := by
          by_cases q : i < (W3.mu.l ++ [p]).length
          · exact q
          · rw [List.getElem?_eq_none (by omega)] at h1; cases h1
        simp at this
        omega
      subst e
      rw [List.getElem?_append_right (Nat.le_refl _)] at h1
      rw [m3.len, List.getElem?_append_right (Nat.le_refl _)] at h2
      simp at h1 h2
      subst h1; subst h2
      rw [m3.len]
      exact new _ lk upd_same
  · obtain ⟨⟨u, e⟩, q⟩ := m3.pv a (by rw [ep]; exact List.mem_cons_of_mem _ ha)
    have hne : a ≠ p := by rintro rfl; exact npp ha
    refine ⟨⟨u, by show upd W3.H p o' a = _; rw [upd_ne hne]; exact e⟩, ?_⟩
    show a ∉ W3.mu.l ++ [p]
    simp only [List.mem_append, List.mem_singleton, not_or]
    exact ⟨q, hne⟩

/-! ### {} and {k: v}, keys tuples -/
def mDct0 : ME := fun _ _ M => .ok (.obj M.length) (M ++ [.dct []])
def tDct0 (P : Program) (w : World) : TE := fun _ H Q => ∀ p, H p = none → (p == sysModules) = false → Q (.ref p) (upd H p (DctO P w p []))
theorem pe_dct0 {X : Cx} {pos : Pos} : PE X (.Dict [] [] pos) (tDct0 X.prog X.w) := ⟨fun pins s σ H Q I h =>
  wpAny_Dict_empty ⟨.ref s.heap.objs.size, _, I.laid (a := s.heap.objs.size) (o := DctO X.prog X.w s.heap.objs.size []) (t' := s.toks) (fun _ _ q => Heap.get?_push_of_some _ q) (Nat.le_refl _) (dct_new (Heap.DictOfH.new s.heap)), rfl,
    h _ (I.hok.fresh (Nat.le_refl _)) (beq_eq_false_iff_ne.mpr (Ne.symm (Nat.ne_of_lt I.big)))⟩⟩
theorem ok_dct0 {pos : Pos} : OkE T C (.Dict [] [] pos) mDct0 := by
  intro n X wx h
  refine PE.of pe_dct0 fun s H Q q => ?_
  obtain ⟨mu, M, r, mr, sr, sat⟩ := q
  intro p hp hs
  obtain ⟨l1, m1⟩ := mr.bornO hp (DctO X.prog X.w p []) (.dct []) fun W' lk e => ⟨[], e, List.nodup_nil, Nat.zero_le _, hs, .nil⟩
  refine sat _ l1 m1 (.ref p) ?_
  simp only [DRel]
  refine ⟨p, rfl, ?_⟩
  show (mu.l ++ [p])[M.length]? = some p
  rw [← mr.len, List.getElem?_append_right (Nat.le_refl _)]
  simp
theorem wpAny_Dict_rawH {prog : Program} {w : World} {A : Around} {E : Value → Shared → Prop} {s : Shared} {env : Env} {keys : List (Option Expr)} {values : List Expr} {pos : Pos} {pairs : List (Sem Value × Sem Value)} {Q : Value → Shared → Prop} (hu : (nestedKind prog w).room A)
    (hshape : (evalEachOpt keys env).zip ((evalEach values env).map fun v => do let x ← v; standAt pos; pure x) = pairs.map fun p => (some p.1, p.2)) (h0 : pairs ≠ []) (hlen : pairs.length ≤ 15)
    (h : wpAny (model prog w) A (evalPairs pairs) (fun vs s₁ => ∃ ps, CarriesH (nestedKind prog w) s₁.heap vs ps ∧ s₁.heap.DictOfH (nestedKind prog w) s.heap.objs.size [] ∧
      ∀ h' tk, h'.DictOfH (nestedKind prog w) s.heap.objs.size (storedAllH [] ps) → Heap.SameBut s.heap.objs.size s₁.heap h' → Q (.ref s.heap.objs.size) { s₁ with heap := h', toks := tk }) E
      { s with heap := s.heap.push { cls := .type "dict", data := .dict #[] } }) :
    wpAny (model prog w) A (eval (.Dict keys values pos) env) Q E s := by
  rw [arm_eval_Dict, hshape, dictDisplay_pairs pairs h0 (by omega)]
  exact wpAny_bind (wpAny_standAt (wpAny_bind (wpAny_subDictH (knd := nestedKind prog w) (Q := fun d s' => wpAny (model prog w) A (pure (Value.ref d)) Q E s') hu hlen
    (wpAny_mono h (fun vs s₁ h₁ => by obtain ⟨ps, hc, hm, hq⟩ := h₁; exact ⟨ps, hc, hm, fun h' tk a b => wpAny_pure (hq h' tk a b)⟩) fun _ _ e => e))))
/-- {k: v}: the new dict stands empty while the pair is made -/
def qDct1 (X : Cx) (p : Addr) (σ : L2.St) (Q : VK) : List (V × V) → Hp → Prop := fun ps H2 => ∃ x y k ka, ps = [(x, y)] ∧ x = .ref ka ∧ H2 p = some (DctO X.prog X.w p []) ∧ (∀ (pins : List (Addr × Obj)) (s : Shared), Inv X pins σ H2 s → (nestedKind X.prog X.w).is s.heap k ka) ∧ ∀ u, RelV y u → Q (.ref p) (upd H2 p (DctO X.prog X.w p [(k, ka, u)]))
def tDct1 (X : Cx) (tk tv : TE) : TE := fun σ H Q => ∀ p, H p = none → (p == sysModules) = false → tk σ (upd H p (DctO X.prog X.w p [])) fun x H1 => tv σ H1 fun y H2 => qDct1 X p σ Q [(x, y)] H2
theorem pe_dct1 {X : Cx} {pos : Pos} {k v : Expr} {tk tv : TE} (hu : X.A.units + 65 < cLine) (hk : PE X k tk) (hv : PE X v tv) : PE X (.Dict [some k] [v] pos) (tDct1 X tk tv) := by
  refine ⟨fun pins s σ H Q I q => ?_⟩
  have hn := I.hok.fresh (Nat.le_refl s.heap.objs.size)
  have hs : (s.heap.objs.size == sysModules) = false := beq_eq_false_iff_ne.mpr (Ne.symm (Nat.ne_of_lt I.big))
  have I1 := I.laid (a := s.heap.objs.size) (o := DctO X.prog X.w s.heap.objs.size []) (h' := s.heap.push { cls := .type "dict", data := .dict #[] }) (t' := s.toks) (fun _ _ q => Heap.get?_push_of_some _ q) (Nat.le_refl _) (dct_new (Heap.DictOfH.new s.heap))
  refine wpAny_Dict_rawH (pairs := pairTrees [some k] [v] X.env pos) (by show X.A.units + 8 < cLine; omega) (by rfl) (by intro z; cases z) (by show 1 ≤ 15; omega) ?_
  refine thn ((pps_cons hk hv pps_nil).run pins _ σ _ (qDct1 X s.heap.objs.size σ Q) I1 (q _ hn hs)) fun ws s2 ⟨ps, H2, I2, rel, x, y, kk, ka, ep, ex, e, hki, q2⟩ => ?_
  subst ep ex
  · obtain ⟨b, rfl, r⟩ : ∃ b, ws = [b] ∧ (RelV (.ref ka) b.1 ∧ RelV y b.2) := by
      cases rel with
      | cons r rr => cases rr; exact ⟨_, rfl, r⟩
    obtain ⟨u1, u2⟩ := b
    obtain ⟨r1, r2⟩ := r
    cases (show u1 = _ from r1)
    have hd : s2.heap.DictOfH (nestedKind X.prog X.w) s.heap.objs.size [] := by
      obtain ⟨o, es, ep, g1, g2, g3, g4⟩ := (I2.hok _ _ e).1
      exact ⟨o, es, ep, g1, g2, g3, g4, (fun x hx => by cases hx), List.nodup_nil⟩
    exact ⟨[(kk, ka, u2)], ⟨rfl, rfl, hki pins s2 I2, trivial⟩, hd, fun h' tk' d' sb => ⟨.ref s.heap.objs.size, _, d_write I2 (by rw [e]; exact True.intro) sb (let ⟨q, _, _, hq, _⟩ := d'; ⟨q, hq⟩) (dct_new d'), rfl, q2 u2 r2⟩⟩
def mDct1 (mk mv : ME) : ME := fun F r M => (mk F r M).noX.bind fun k M1 => (mv F r M1).noX.bind fun v M2 => if (D.isKey k && D.bel M2.length v) = true then .ok (.obj M2.length) (M2 ++ [.dct [(k, v)]]) else .bad
theorem ok_dct1 {k v : Expr} {pos : Pos} {mk mv : ME} (hk : OkE T C k mk) (hv : OkE T C v mv) : OkE T C (.Dict [some k] [v] pos) (mDct1 mk mv) := by
  intro n X wx h
  refine PE.of (pe_dct1 (by have := h.room.un; omega) (hk n X wx h) (hv n X wx h)) fun s H Q q => ?_
  obtain ⟨mu, M, r, mr, sr, sat⟩ := q
  intro p hp hs
  obtain ⟨lk1, m1⟩ := priv_in mr hp (DctO X.prog X.w p [])
  have npv : H p = none := hp
  unfold mDct1 at sat
  cases e1 : mk (callF T n) r M with
  | bad => rw [e1] at sat; exact sat.elim
  | exc _ _ => rw [e1] at sat; exact sat.elim
  | ok kd M1 =>
    rw [e1] at sat
    simp only [Res.noX_ok, Res.bind_ok] at sat
    refine ⟨_, M, r, m1, sr.lk lk1, ?_⟩
    show Sat _ _ (mk (callF T n) r M) _
    rw [e1]
    intro W2 l2 m2 x dx
    cases e2 : mv (callF T n) r M1 with
    | bad => rw [e2] at sat; exact sat.elim
    | exc _ _ => rw [e2] at sat; exact sat.elim
    | ok vd M2 =>
      rw [e2] at sat
      simp only [Res.noX_ok, Res.bind_ok] at sat
      refine ⟨W2.mu, M1, r, m2, (sr.lk lk1).le l2, ?_⟩
      show Sat _ _ (mv (callF T n) r M1) _
      rw [e2]
      intro W3 l3 m3 y dy
      obtain ⟨hc, sat⟩ := sat_ite sat
      simp only [Bool.and_eq_true] at hc
      have l13 := l2.trans l3
      have dx3 := DRel.le l3 kd x dx
      have e3 : W3.H p = some (DctO X.prog X.w p []) := by rw [l13.pvk p List.mem_cons_self]; exact upd_same
      have hx : ∃ ka, x = .ref ka := by
        cases kd with
        | tup l => simp only [DRel] at dx; obtain ⟨a, xs, rfl, _⟩ := dx; exact ⟨a, rfl⟩
        | _ => simp [D.isKey] at hc
      obtain ⟨ka, rfl⟩ := hx
      refine ⟨_, y, D.toK kd, ka, rfl, rfl, e3, fun pins' s' I' => ?_, fun u ru => ?_⟩
      · obtain ⟨b, e1', e2', e3'⟩ := isKey_is (mu := W3.mu) I' hc.1 dx3 (u := .ref ka) rfl
        cases e1'
        exact e3'
      · obtain ⟨l4, m4⟩ := priv_out mr hp l13 m3 (DctO X.prog X.w p [(D.toK kd, ka, u)]) (.dct [(kd, vd)]) fun W' lk e => ⟨_, e, (by simp), (by show 1 ≤ sizeLine; rw [sizeLine_eq]; omega), hs, .cons ⟨hc.1, rfl, DRel.lk lk _ _ dx3, ⟨y, DRel.lk lk _ _ dy, ru⟩, hc.2⟩ .nil⟩
        refine sat _ l4 m4 (.ref p) ?_
        simp only [DRel]
        refine ⟨p, rfl, ?_⟩
        show (W3.mu.l ++ [p])[M2.length]? = some p
        rw [← m3.len, List.getElem?_append_right (Nat.le_refl _)]
        simp
end RI

namespace RI
open PySem PySem.Spec PyProof.Rows L2

/-! ### what a call hands back -/
section
variable {K : Kb} {W W' : Wd} {M' : Mem} {mark : Nat}
abbrev cutW (W' : Wd) (mark : Nat) : Wd := ⟨W'.H, ⟨W'.mu.l.take mark, W'.mu.p⟩⟩
theorem fz_cut {a : Addr} (h : Fz W' a) : Fz (cutW W' mark) a := ⟨fun z => h.1 (List.mem_of_mem_take z), h.2⟩
mutual
theorem frz_rel {g : Nat → D} (hg : ∀ i v, DRel K W' (.obj i) v → D.bel mark (g i) = true → DRel K (cutW W' mark) (g i) v) : ∀ (d : D) (v : V), DRel K W' d v → D.bel mark (D.frz g d) = true → DRel K (cutW W' mark) (D.frz g d) v
  | .non, _, h, _ => h
  | .bl _, _, h, _ => h
  | .int _, _, h, _ => h
  | .str _, _, h, _ => h
  | .obj i, v, h, b => hg i v h b
  | .tup l, v, h, b => by
    simp only [D.frz, DRel, D.bel] at h b ⊢
    obtain ⟨a, xs, e, t, r⟩ := h
    refine ⟨a, xs, e, ?_, frzs_rel hg l xs r b⟩
    rcases t with t | t
    · exact .inl ⟨t.1, fz_cut t.2⟩
    · exact .inr t
  | .lst l, v, h, b => by
    simp only [D.frz, DRel, D.bel] at h b ⊢
    obtain ⟨a, xs, e, t, r⟩ := h
    refine ⟨a, xs, e, ?_, frzs_rel hg l xs r b⟩
    rcases t with t | t
    · exact .inl ⟨t.1, fz_cut t.2⟩
    · exact .inr t
theorem frzs_rel {g : Nat → D} (hg : ∀ i v, DRel K W' (.obj i) v → D.bel mark (g i) = true → DRel K (cutW W' mark) (g i) v) : ∀ (ds : List D) (vs : List V), DRels K W' ds vs → D.bels mark (D.frzs g ds) = true → DRels K (cutW W' mark) (D.frzs g ds) vs
  | [], _, h, _ => h
  | d :: ds, _, h, b => by
    simp only [D.frzs, DRels, D.bels, Bool.and_eq_true] at h b ⊢
    obtain ⟨v, r, e, h1, h2⟩ := h
    exact ⟨v, r, e, frz_rel hg d v h1 b.1, frzs_rel hg ds r h2 b.2⟩
end
theorem frzM_rel (m : MRel K W' M') : ∀ (n i : Nat) (v : V), DRel K W' (.obj i) v → D.bel mark (frzM M' mark n i) = true → DRel K (cutW W' mark) (frzM M' mark n i) v := by
  have low : ∀ (i : Nat) (v : V), DRel K W' (.obj i) v → i < mark → DRel K (cutW W' mark) (.obj i) v := fun i v h hi => by
    simp only [DRel] at h ⊢
    obtain ⟨a, e, q⟩ := h
    refine ⟨a, e, ?_⟩
    show (W'.mu.l.take mark)[i]? = some a
    rw [List.getElem?_take_of_lt hi]; exact q
  intro n
  induction n with
  | zero =>
    intro i v h b
    simp only [frzM, D.bel, decide_eq_true_eq] at b ⊢
    exact low i v h b
  | succ n ih =>
    intro i v h b
    simp only [frzM] at b ⊢
    by_cases hi : i < mark
    · rw [if_pos hi]; exact low i v h hi
    · rw [if_neg hi] at b ⊢
      cases e : M'[i]? with
      | none =>
        rw [e] at b
        simp only [D.bel, decide_eq_true_eq] at b
        exact absurd b hi
      | some o =>
        rw [e] at b
        cases o with
        | lst l =>
          simp only [D.bel] at b
          have h' := h
          simp only [DRel] at h' ⊢
          obtain ⟨a, rfl, q⟩ := h'
          obtain ⟨xs, eh, dr, _⟩ := m.obj i a _ q e
          refine ⟨a, xs, rfl, .inl ⟨.inl eh, ?_, fun z => (m.pv a z).2 (List.mem_of_getElem? q)⟩, frzs_rel ih l xs dr b⟩
          intro z
          obtain ⟨j, hj⟩ := List.getElem?_of_mem z
          have hjm : j < mark := by
            by_cases q2 : j < mark
            · exact q2
            · have : (W'.mu.l.take mark).length ≤ j := by rw [List.length_take]; omega
              have hj : (W'.mu.l.take mark)[j]? = some a := hj
              rw [List.getElem?_eq_none this] at hj; cases hj
          have hj : (W'.mu.l.take mark)[j]? = some a := hj
          rw [List.getElem?_take_of_lt hjm] at hj
          have hjl : j < W'.mu.l.length := by
            by_cases q2 : j < W'.mu.l.length
            · exact q2
            · rw [List.getElem?_eq_none (by omega)] at hj; cases hj
          have := (List.getElem?_inj hjl m.nd).mp (hj.trans q.symm)
          omega
        | dct l =>
          simp only [D.bel, decide_eq_true_eq] at b
          exact absurd b hi
mutual
theorem keyly_bel (n : Nat) : ∀ d : D, D.keyly d = true → D.bel n d = true
  | .non, _ => rfl
  | .bl _, _ => rfl
  | .int _, _ => rfl
  | .str _, _ => rfl
  | .tup l, h => by simp only [D.keyly] at h; simp only [D.bel]; exact keylys_bel n l h
  | .lst _, h => by simp [D.keyly] at h
  | .obj _, h => by simp [D.keyly] at h
theorem keylys_bel (n : Nat) : ∀ ds : List D, D.keylys ds = true → D.bels n ds = true
  | [], _ => rfl
  | d :: ds, h => by
    simp only [D.keylys, Bool.and_eq_true] at h
    simp only [D.bels, keyly_bel n d h.1, keylys_bel n ds h.2, Bool.and_self]
end
theorem isKey_keyly {d : D} (h : D.isKey d = true) : D.keyly d = true := by
  cases d with
  | tup l => simp only [D.isKey, Bool.and_eq_true] at h; exact h.1
  | _ => simp [D.isKey] at h
theorem KVR.lo {i : Nat} (l : Lo i W W') {p : D × D} {x : NestedKey × Addr × Value} (h : KVR K W i p x) : KVR K W' i p x := by
  obtain ⟨h1, h2, h3, ⟨v, h4, h5⟩, h6⟩ := h
  exact ⟨h1, h2, DRel.lo l _ _ (keyly_bel i _ (isKey_keyly h1)) h3, ⟨v, DRel.lo l _ _ h6 h4, h5⟩, h6⟩
theorem ORel.lo {i : Nat} (l : Lo i W W') {a : Addr} (e : W'.H a = W.H a) : ∀ {o : MO}, ORel K W i a o → ORel K W' i a o
  | .lst l', ⟨xs, h1, h2, h3⟩ => ⟨xs, e.trans h1, DRels.lo l l' xs h3 h2, h3⟩
  | .dct l', ⟨xs, h1, h2, h3, h4, h5⟩ => ⟨xs, e.trans h1, h2, h3, h4, Paired.mapP h5 fun _ _ q => q.lo l⟩
theorem cut_mrel (m : MRel K W' M') : MRel K (cutW W' mark) (M'.take mark) := by
  refine ⟨by show (W'.mu.l.take mark).length = _; rw [List.length_take, List.length_take, m.len], m.nd.sublist (List.take_sublist _ _), fun i a o h1 h2 => ?_, fun a ha => ⟨(m.pv a ha).1, fun z => (m.pv a ha).2 (List.mem_of_mem_take z)⟩⟩
  have h1 : (W'.mu.l.take mark)[i]? = some a := h1
  have hi : i < mark := by
    by_cases q2 : i < mark
    · exact q2
    · have : (W'.mu.l.take mark).length ≤ i := by rw [List.length_take]; omega
      rw [List.getElem?_eq_none this] at h1; cases h1
  rw [List.getElem?_take_of_lt hi] at h1 h2
  exact (m.obj i a o h1 h2).lo (W := W') (W' := cutW W' mark) ⟨fun j hj => by show (W'.mu.l.take mark)[j]? = _; rw [List.getElem?_take_of_lt (by omega)], fun a o h nf => ⟨h, fz_cut nf⟩⟩ rfl
theorem cut_le {M : Mem} (m : MRel K W M) (l : Le W W') : Le W (cutW W' M.length) := by
  obtain ⟨t, e⟩ := l.pre
  refine ⟨⟨⟨[], ?_⟩, fun a o h nf => ⟨(l.keep a o h nf).1, fz_cut (l.keep a o h nf).2⟩⟩, l.pv, l.pvk⟩
  show W'.mu.l.take M.length = _
  rw [e, ← m.len, List.take_left, List.append_nil]
theorem fin_of {M : Mem} {keep : Bool} {d : D} {Q : VK} {xw : Ex → L2.St → Wd → Prop} (m : MRel K W M) (h : Sat ⟨K, xw, []⟩ W (fin keep M.length d M') (PV K Q)) (l : Le W W') (m' : MRel K W' M') {v : V} (dv : DRel K W' d v) : Q v W'.H := by
  unfold fin at h
  by_cases hk : keep = true
  · rw [if_pos hk] at h
    exact h W' l m' v dv
  · rw [if_neg hk] at h
    obtain ⟨b, h⟩ := sat_ite h
    exact h (cutW W' M.length) (cut_le m l) (cut_mrel m') v (frz_rel (frzM_rel m' 3) d v dv b)
theorem fields_rel {g : Nat → D} (hg : ∀ i v, DRel K W' (.obj i) v → D.bel mark (g i) = true → DRel K (cutW W' mark) (g i) v) : ∀ {fs : List (Str × D)} {vs : List (Str × V)}, Paired (FRel K W') fs vs → D.bels mark (D.frzs g (fs.map (·.2))) = true →
    Paired (FRel K (cutW W' mark)) (fs.map fun p => (p.1, D.frz g p.2)) vs
  | _, _, .nil, _ => .nil
  | _, _, .cons r t, b => by
    simp only [List.map_cons, D.frzs, D.bels, Bool.and_eq_true] at b
    exact .cons ⟨r.1, frz_rel hg _ _ r.2 b.1⟩ (fields_rel hg t b.2)
theorem finX_of {M : Mem} {x : Ex} {E : XK} (m : MRel K W M) (P : D → Mem → Wd → Prop) (h : Sat ⟨K, xwOf K E, []⟩ W (finX M.length x M') P) (l : Le W W') (m' : MRel K W' M') (s : L2.St) : xwOf K E x s W' := by
  unfold finX at h
  obtain ⟨b, h⟩ := sat_ite h
  intro cls d er
  refine h (cutW W' M.length) (cut_le m l) (cut_mrel m') cls d ⟨er.1, ?_⟩
  have er2 := er.2
  cases d with
  | none =>
    show List.map _ _ = []
    have e : x.fs = [] := er2
    rw [e]; rfl
  | some dx =>
    obtain ⟨fz, fs, e, r⟩ := er2
    exact ⟨fz_cut fz, fs, e, fields_rel (frzM_rel m' 3) r b⟩
theorem ret_of {M : Mem} {keep : Bool} {r : Res Fl} {Q : VK} {E : XK} (m : MRel K W M) (h : Sat ⟨K, xwOf K E, []⟩ W (retOf keep M.length r) (PV K Q)) : Sat K.no W r (PF ⟨K, xwOf K E, []⟩ { nx := fun _ H' => Q .non H', rt := Q }) := by
  cases r with
  | bad => exact h.elim
  | exc _ _ => exact h.elim
  | ok f M' =>
    cases f with
    | ret d => exact fun W' l m' v dv => fin_of m h l m' dv
    | next r1 => exact fun W' l m' s _ => fin_of (d := .non) m h l m' rfl
    | brk r1 => exact h.elim
    | cont r1 => exact h.elim
    | rse x r1 => exact fun W' l m' s _ => finX_of m _ h l m' s
end
theorem start_rel {K : Kb} {W : Wd} {N : List Str} {ds : List D} {vs : List V} (r : DRels K W ds vs) : SRel K W (L2.start N vs) (startE N ds) := by
  have hl := r.length
  refine ⟨by unfold L2.start startE; simp [hl], fun i d h => ?_⟩
  unfold startE at h
  have hi : i < ds.length := by
    by_cases q : i < ds.length
    · exact q
    · rw [List.getElem?_append_right (by simpa using q), List.getElem?_replicate] at h
      split at h <;> cases h
  rw [List.getElem?_append_left (by simpa using hi), List.getElem?_map] at h
  have e : ds[i]? = some d := by
    cases e : ds[i]? with
    | none => rw [e] at h; cases h
    | some x => rw [e] at h; cases h; rfl
  obtain ⟨v, ev, dv⟩ := r.get e
  refine ⟨v, ?_, dv⟩
  unfold L2.start
  rw [List.getElem?_append_left (by simpa [← hl] using hi), List.getElem?_map, ev]
  rfl

/-! ### the defs of the text -/
structure FnAt (T : Tb) (K : PySem.W.Frag) (mg : Str → Option Value) (f : Fn) : Prop where
  ex : ∃ (a : Addr) (fd : FuncData) (st : Stmt) (qual x : Str) (mt : List (Nat × Nat)), Fun K x qual st a fd ∧ FnScope f.N f.ps (defScope st) ∧ mg f.name = some (.ref a) ∧ Binds K fd f.ps [] ∧ OkSs T ⟨defScope st, f.N, fun _ => true, mt⟩ (defBody st) f.body
structure TbAt (T : Tb) (K : PySem.W.Frag) (mg : Str → Option Value) (P : Program) (w : World) : Prop where
  fns : ∀ (k : Nat) (f : Fn), T.fns[k]? = some f → FnAt T K mg f
  con : ∀ x d, T.con.lookup x = some d → ∃ u v, mg x = some u ∧ RelV v u ∧ KRel ⟨K, P, w, mg⟩ d v
  blt : ∀ x, x ∈ T.blt → mg x = none
theorem all_ok {P : Program} {w : World} {K : PySem.W.Frag} {mg : Str → Option Value} {base : Heap} {T : Tb} (A : TbAt T K mg P w) : ∀ (n k : Nat) (f : Fn), T.fns[k]? = some f → ∀ (a : Addr) (fd : FuncData), (∃ (st : Stmt) (qual x : Str) (mt : List (Nat × Nat)), Fun K x qual st a fd ∧ FnScope f.N f.ps (defScope st) ∧ OkSs T ⟨defScope st, f.N, fun _ => true, mt⟩ (defBody st) f.body) →
    FnOk P w K mg base (L2.CX P w) n a fd f.ps (spF T ⟨K, P, w, mg⟩ f.ps n k) := by
  intro n
  induction n with
  | zero =>
    intro k f hf a fd _
    refine ⟨fun vs H Q E h => h.1, fun A' outer s H args us vs Q E hr e0 hb hv hs => ?_⟩
    obtain ⟨_, mu, M, ds, _, _, sat⟩ := hs
    exact sat.elim
  | succ n ih =>
    rintro k f hf a fd ⟨st, qual, x, mt, F, S, ok⟩
    refine F.okX S (fun vs H Q E h => h.1) fun cdv A' outer s H vs Q E hr hsp => ?_
    obtain ⟨hl, mu, M, ds, mr, dr, sat⟩ := hsp
    refine ⟨_, ok n _ (xwOf ⟨K, P, w, mg⟩ E) ⟨rfl, rfl, S.nd, rfl, S.kind, rfl, hr, passes_of rfl, Takes.imp (takes_of rfl rfl rfl rfl) (fun cls d σ H q => let ⟨x, mu, er, z⟩ := q; z cls d er), A.con, A.blt, fun k' f' hf' => ?_⟩, ?_⟩
    · obtain ⟨a', fd', st', qual', x', mt', F', S', m', b', ok'⟩ := (A.fns k' f' hf').ex
      exact ⟨a', fd', m', F'.kp, b', ih k' f' hf' a' fd' ⟨st', qual', x', mt', F', S', ok'⟩⟩
    · refine ⟨mu, M, startE f.N ds, mr, start_rel dr, ?_⟩
      simp only [callF, hf] at sat
      obtain ⟨_, sat⟩ := sat_ite sat
      exact ret_of mr sat
end RI

namespace RI
open PySem PySem.Spec PyProof.Rows L2
section
variable {T : Tb} {C : CC}
def mChain (f g : D → D → Mem → Res D) (a b c : ME) : ME := fun F r M => (a F r M).bind fun x M1 => (b F r M1).bind fun y M2 => (f x y M2).noX.bind fun z M3 => match z with
  | .bl true => (c F r M3).bind fun w M4 => (g y w M4).noX
  | .bl false => .ok (.bl false) M3
  | _ => .bad
theorem chain_of {K : Kx} {F : FT} {f g : D → D → Mem → Res D} {a b c : ME} {s : L2.St} {H : Hp} {Q : VK} (q : rdE K F (mChain f g a b c) s H Q) : tChain (rB K.b f) (rB K.b g) (rdE K F a) (rdE K F b) (rdE K F c) s H Q := by
  obtain ⟨mu, M, r, mr, sr, sat⟩ := q
  refine ⟨mu, M, r, mr, sr, sat.bind.imp fun x M1 W1 l1 m1 s1 v dv => ?_⟩
  refine ⟨W1.mu, M1, r, m1, sr.le l1, s1.bind.imp fun y M2 W2 l2 m2 s2 u du => ?_⟩
  refine ⟨W2.mu, M2, x, y, m2, DRel.le l2 x v dv, du, s2.bind.noX.imp fun z M3 W3 l3 m3 s3 zv dz => ?_⟩
  cases z with
  | bl k =>
    cases (show zv = _ from dz)
    refine ⟨k, rfl, ?_⟩
    cases k with
    | true =>
      refine iteT ⟨W3.mu, M3, r, m3, sr.le ((l1.trans l2).trans l3), s3.bind.imp fun w M4 W4 l4 m4 s4 wv dw => ?_⟩
      exact ⟨W4.mu, M4, y, w, m4, DRel.le (l3.trans l4) y u du, dw, s4.noX⟩
    | false => exact iteF (Sat.ok (show Sat _ _ (Res.ok (D.bl false) M3) _ from s3) m3 _ rfl)
  | _ => exact s3.elim
theorem ok_chain {a b c : Expr} {op op' : CmpOp} {pos : Pos} {f g : D → D → Mem → Res D} {ma mb mc : ME} (ho : ∀ n X wx, CxOk T n C X wx → OpR X (compareOp op) (rB (kb X) f)) (ho' : ∀ n X wx, CxOk T n C X wx → OpR X (compareOp op') (rB (kb X) g)) (ha : OkE T C a ma) (hb : OkE T C b mb) (hc : OkE T C c mc) (hm : lastMarks [op, op'] [b, c] = false) : OkE T C (.Compare a [op, op'] [b, c] pos) (mChain f g ma mb mc) := by
  intro n X wx h
  exact PE.of (pe_chain (ho n X wx h) (ho' n X wx h) (ha n X wx h) (hb n X wx h) (hc n X wx h) hm) fun s H Q q => chain_of q
theorem ok_tchain {a b c : Expr} {op op' : CmpOp} {pos : Pos} {f g : D → D → Mem → Res D} {ma mb mc : ME} (ho : ∀ n X wx, CxOk T n C X wx → OpR X (compareOp op) (rB (kb X) f)) (ho' : ∀ n X wx, CxOk T n C X wx → OpR X (compareOp op') (rB (kb X) g)) (ha : OkE T C a ma) (hb : OkE T C b mb) (hc : OkE T C c mc) (hm : lastMarks [op, op'] [b, c] = false) : OkT T C (.Compare a [op, op'] [b, c] pos) (mTB (mChain f g ma mb mc)) := by
  intro n X wx h
  refine PT.of (pt_chain (ho n X wx h) (ho' n X wx h) (ha n X wx h) (hb n X wx h) (hc n X wx h) hm) fun s H Q q => ?_
  obtain ⟨mu, M, r, mr, sr, sat⟩ := tB_of q
  exact chain_of ⟨mu, M, r, mr, sr, sat⟩
/-- - n, written -/
def mNeg (m : ME) : ME := fun F r M => (m F r M).bind fun d M1 => match d with
  | .int i => .ok (.int (-i)) M1
  | _ => .bad
theorem ok_neg {a : Expr} {pos : Pos} {m : ME} (h : OkE T C a m) : OkE T C (.UnaryOp .USub a pos) (mNeg m) := by
  intro n X wx q
  refine PE.of (pe_un un_neg (h n X wx q)) fun s H Q w => ?_
  obtain ⟨mu, M, r, mr, sr, sat⟩ := w
  refine ⟨mu, M, r, mr, sr, sat.bind.imp fun d M1 W1 l1 m1 s1 v dv => ?_⟩
  cases d with
  | int i => cases (show v = _ from dv); exact ⟨i, rfl, s1.ok m1 _ rfl⟩
  | _ => exact s1.elim
theorem swap_none {tg e : Expr} {env : Env} (h : (match e with | .Tuple .. => false | _ => true) = true) : swappedStores [tg] e env = pure none := by
  cases e <;> first | (cases tg <;> rfl) | cases h
theorem swap_none_name {x : Str} {p : Pos} {e : Expr} {env : Env} : swappedStores [.Name x p] e env = pure none := by
  cases e <;> rfl
theorem swap_none_sub {a b : Expr} {p : Pos} {e : Expr} {env : Env} : swappedStores [.Subscript a b p] e env = pure none := by
  cases e <;> rfl
theorem swap_two {x y : Str} {px py pt pt2 : Pos} {kt k2 : Nat} {a b : Expr} {env : Env} {sc : Scope} (hsc : env.scope = sc) (hk : sc.kind = .function) (hx : sc.names.lookup x = some .local) (hy : sc.names.lookup y = some .local) (hl : (py.line == px.line) = true) (hxy : [x, y].eraseDups.length = 2)
    (ha : noStar a = true) (hb : noStar b = true) (hf : [a, b].all (foldedForSure 8) = false) (hc : [a, b].all (constantsAlone 8) = false) :
    swappedStores [.Tuple [.Name x px, .Name y py] kt pt] (.Tuple [a, b] k2 pt2) env = pure (some [x, y]) := by
  subst hsc
  have kx : env.kindOf x = some .local := hx
  have ky : env.kindOf y = some .local := hy
  have hb' : env.blockKind = .function := by unfold Env.blockKind; rw [hk]; rfl
  have h1 : (Pos.line px == Pos.line px) = true := by simp
  unfold swappedStores
  simp only [List.length_cons, List.length_nil, hb', List.head?_cons, Option.map_some, Option.getD_some, Expr.pos, List.filterMap_cons, List.filterMap_nil, kx, ky, h1, hl, hf, hc]
  simp [hxy]
  intro h
  exfalso
  rcases h with h | h
  · cases a <;> first | cases ha; done | cases h; done
  · cases b <;> first | cases hb; done | cases h; done
end

/-! ### the certifying compile -/
section
variable (T : Tb)
instance visDec (sc : Scope) (x : Str) : Decidable (Vis sc x) := inferInstanceAs (Decidable (_ ∨ _ ∨ _))
abbrev RE (C : CC) (e : Expr) := Option { m : ME // OkE T C e m }
abbrev RT (C : CC) (e : Expr) := Option { m : MT // OkT T C e m }
def ixOf : (N : List Str) → (x : Str) → Option { i : Nat // N[i]? = some x }
  | [], _ => none
  | y :: ys, x => if h : y = x then some ⟨0, by simp [h]⟩ else match ixOf ys x with
    | some ⟨i, p⟩ => some ⟨i + 1, by simpa using p⟩
    | none => none
def fnIx : (fs : List Fn) → (x : Str) → Option { k : Nat // ∃ f, fs[k]? = some f ∧ f.name = x }
  | [], _ => none
  | f :: fs, x => if h : f.name = x then some ⟨0, f, rfl, h⟩ else match fnIx fs x with
    | some ⟨i, p⟩ => some ⟨i + 1, by simpa using p⟩
    | none => none
def locOf (C : CC) (x : Str) : Option (PLift (C.sc.names.lookup x = some .local ∨ (C.sc.names.lookup x = some .cell ∧ C.fn x = true))) :=
  if h : C.sc.names.lookup x = some .local then some ⟨.inl h⟩ else
    if h : C.sc.names.lookup x = some .cell ∧ C.fn x = true then some ⟨.inr h⟩ else none
def opOf (C : CC) : (op : Operator) → Option { f : D → D → Mem → Res D // ∀ n X wx, CxOk T n C X wx → OpR X (binaryOp op) (rB (kb X) f) }
  | .Add => some ⟨addD, fun _ _ _ _ => or_add⟩
  | .Sub => some ⟨subD, fun _ _ _ _ => or_sub⟩
  | .Mult => some ⟨mulD, fun _ _ _ _ => or_mul⟩
  | .FloorDiv => some ⟨fdivD, fun _ _ _ _ => or_fdiv⟩
  | .Mod => some ⟨modD, fun _ _ _ _ => or_mod⟩
  | .Pow => some ⟨powD, fun _ _ _ _ => or_pow⟩
  | _ => none
def cmpOf (C : CC) : (op : CmpOp) → Option { f : D → D → Mem → Res D // ∀ n X wx, CxOk T n C X wx → OpR X (compareOp op) (rB (kb X) f) }
  | .Eq => some ⟨eqD false, fun _ _ _ h => or_eq h.room.units⟩
  | .NotEq => some ⟨eqD true, fun _ _ _ h => or_ne h.room.units⟩
  | .Lt => some ⟨ltD, fun _ _ _ _ => or_lt⟩
  | .LtE => some ⟨leD, fun _ _ _ _ => or_le⟩
  | .Gt => some ⟨gtD, fun _ _ _ _ => or_gt⟩
  | .GtE => some ⟨geD, fun _ _ _ _ => or_ge⟩
  | .Is => some ⟨isD false, fun _ _ _ _ => or_is⟩
  | .IsNot => some ⟨isD true, fun _ _ _ _ => or_isnot⟩
  | .In => some ⟨inD false, fun _ _ _ h => or_in (by have := h.room.un; omega)⟩
  | .NotIn => some ⟨inD true, fun _ _ _ h => or_notin (by have := h.room.un; omega)⟩
def tyOf (y : Str) : Option { t : Ty // y = (t.nm : Str) ∧ bootBuiltins y = some (.type t.nm) } :=
  if h : y = "int" then some ⟨.int, h, by rw [h]; exact boot_int⟩
  else if h : y = "bool" then some ⟨.bool, h, by rw [h]; exact boot_bool⟩
  else if h : y = "str" then some ⟨.str, h, by rw [h]; exact boot_str⟩
  else if h : y = "tuple" then some ⟨.tuple, h, by rw [h]; exact boot_tuple⟩
  else if h : y = "list" then some ⟨.list, h, by rw [h]; exact boot_list⟩
  else if h : y = "dict" then some ⟨.dict, h, by rw [h]; exact boot_dict⟩
  else none
def ownOf (N : List Str) (scope : Scope) : List (Str × Nat) := scope.names.filterMap fun (n, k) => if (k == .local || k == .cell) then (match ixOf N n with | some ⟨i, _⟩ => some (n, i) | none => none) else none
mutual
def cE : Nat → (C : CC) → (e : Expr) → RE T C e
  | 0, _, _ => none
  | n + 1, C, e => match e with
    | .Constant (.int i) j pos => some ⟨mC (.int i), ok_int⟩
    | .Constant (.bool i) j pos => some ⟨mC (.bl i), ok_bl⟩
    | .Constant .none j pos => some ⟨mC .non, ok_non⟩
    | .Constant (.str x) j pos => some ⟨mC (.str x.cps.toList), ok_str⟩
    | .Name x pos =>
      if hg : C.sc.names.lookup x = some .globalImplicit then
        match hc : T.con.lookup x with
        | some d => if hd : (x == ("__debug__" : Str)) = false then some ⟨mC d, ok_con hc hg hd⟩ else none
        | none => none
      else if hv : Vis C.sc x ∧ (x == ("__debug__" : Str)) = false ∧ (x == ("__classdict__" : Str)) = false then
        match ixOf C.N x with
        | some ⟨i, hi⟩ => some ⟨mVar i, ok_var hi hv.1 hv.2.1 hv.2.2⟩
        | none => none
      else none
    | .Tuple es k pos => match cA n C es with
      | some ⟨ms, h, _⟩ => some ⟨mTup ms, ok_tup h⟩
      | none => none
    | .List es pos => match cA n C es with
      | some ⟨ms, h, _⟩ => if C.mt.contains (pos.line, pos.col) then some ⟨mLstM ms, ok_lstM h⟩ else some ⟨mLst ms, ok_lst h⟩
      | none => none
    | .Dict [] [] pos => some ⟨mDct0, ok_dct0⟩
    | .Dict [some a] [b] pos => match cE n C a, cE n C b with
      | some ⟨ma, ha⟩, some ⟨mb, hb⟩ => some ⟨mDct1 ma mb, ok_dct1 ha hb⟩
      | _, _ => none
    | .BinOp a op b pos => match opOf T C op, cE n C a, cE n C b with
      | some ⟨f, hf⟩, some ⟨ma, ha⟩, some ⟨mb, hb⟩ => some ⟨mB f ma mb, ok_bin hf ha hb⟩
      | _, _, _ => none
    | .Compare a [op] [b] pos => match cmpOf T C op, cE n C a, cE n C b with
      | some ⟨f, hf⟩, some ⟨ma, ha⟩, some ⟨mb, hb⟩ => if hm : behindInMarks op b = false then some ⟨mB f ma mb, ok_cmp hf ha hb hm⟩ else none
      | _, _, _ => none
    | .Compare a [op, op'] [b, c] pos => match cmpOf T C op, cmpOf T C op', cE n C a, cE n C b, cE n C c with
      | some ⟨f, hf⟩, some ⟨g, hg⟩, some ⟨ma, ha⟩, some ⟨mb, hb⟩, some ⟨mc, hc⟩ => if hm : lastMarks [op, op'] [b, c] = false then some ⟨mChain f g ma mb mc, ok_chain hf hg ha hb hc hm⟩ else none
      | _, _, _, _, _ => none
    | .BoolOp op [a] pos => match cE n C a with
      | some ⟨m, h⟩ => some ⟨m, ok_one h⟩
      | none => none
    | .BoolOp .And (a :: b :: r) pos => match cE n C a, cE n C (.BoolOp .And (b :: r) pos) with
      | some ⟨m, h⟩, some ⟨m', h'⟩ => some ⟨mAndV m m', ok_andV h h'⟩
      | _, _ => none
    | .BoolOp .Or (a :: b :: r) pos => match cE n C a, cE n C (.BoolOp .Or (b :: r) pos) with
      | some ⟨m, h⟩, some ⟨m', h'⟩ => some ⟨mOrV m m', ok_orV h h'⟩
      | _, _ => none
    | .UnaryOp .Not a pos => match cE n C a with
      | some ⟨m, h⟩ => some ⟨mNotV m, ok_notV h⟩
      | none => none
    | .UnaryOp .USub a pos => match cE n C a with
      | some ⟨m, h⟩ => some ⟨mNeg m, ok_neg h⟩
      | none => none
    | .IfExp c a b pos => match cT n C c, cE n C a, cE n C b with
      | some ⟨mc, hc⟩, some ⟨ma, ha⟩, some ⟨mb, hb⟩ => some ⟨mIf mc ma mb, ok_if hc ha hb⟩
      | _, _, _ => none
    | .Subscript a (.Slice lo hi none p2) pos => match cE n C a, cO n C lo, cO n C hi with
      | some ⟨m, h⟩, some ⟨ml, hl⟩, some ⟨mh, hh⟩ => some ⟨mSl m ml mh, ok_slice h hl hh⟩
      | _, _, _ => none
    | .Subscript a b pos => match cE n C a, cE n C b with
      | some ⟨ma, ha⟩, some ⟨mb, hb⟩ => if hs : noSlice b = true then some ⟨mB ixD ma mb, ok_ix hs ha hb⟩ else none
      | _, _ => none
    | .Call (.Name x p) [] [] pos =>
      if hg : C.sc.names.lookup x = some .globalImplicit ∧ (x == ("__debug__" : Str)) = false then
        match fnIx T.fns x with
        | some ⟨k, hk⟩ => some ⟨mCall k mNil, by obtain ⟨f, h1, h2⟩ := hk; exact ok_call0 h1 h2 hg.1 hg.2⟩
        | none => none
      else none
    | .Call (.Name x p) [a, .Name y p2] [] pos =>
      if hx : x = "isinstance" ∧ x ∈ T.blt ∧ C.sc.names.lookup x = some .globalImplicit ∧ y ∈ T.blt ∧ C.sc.names.lookup y = some .globalImplicit ∧ y ≠ "__name__" ∧ (y == ("__debug__" : Str)) = false ∧ noStar a = true then
        match tyOf y, cE n C a with
        | some ⟨t, ht⟩, some ⟨m, h⟩ => some ⟨mIsi t m, ok_isi hx.2.1 hx.1 hx.2.2.1 hx.2.2.2.1 ht.1 ht.2 hx.2.2.2.2.1 hx.2.2.2.2.2.1 hx.2.2.2.2.2.2.1 hx.2.2.2.2.2.2.2 h⟩
        | _, _ => none
      else cCall n C x p a [.Name y p2] pos
    | .Call (.Name x p) (a :: es) [] pos => cCall n C x p a es pos
    | .Call (.Attribute o name apos) [a] [] cpos =>
      if h : name = "append" ∧ noSuper o = true ∧ (apos.endLine == cpos.line) = true ∧ noStar a = true then
        match cE n C o, cE n C a with
        | some ⟨mo, ho⟩, some ⟨ma, ha⟩ => some ⟨mApp mo ma, ok_append h.1 h.2.1 h.2.2.1 h.2.2.2 ho ha⟩
        | _, _ => none
      else none
    | .ListComp elt [⟨tg, iter, ifs, 0⟩] scope pos =>
      if h : noSet iter = true ∧ blkC C.N C.sc scope (ownOf C.N scope) = true then
        match cI n C tg iter, cGc n (C.blk scope) ((ownOf C.N scope).map (·.2)) tg, cTs n (C.blk scope) ifs, cE n (C.blk scope) elt with
        | some ⟨mi, hi⟩, some ⟨g, hg⟩, some ⟨mt, ht⟩, some ⟨me, he⟩ => some ⟨mLc mi g mt me ((ownOf C.N scope).map (·.2)), ok_lc rfl h.1 h.2 hi hg ht he⟩
        | _, _, _, _ => none
      else none
    | _ => none
def cCall : Nat → (C : CC) → (x : Str) → (p : Pos) → (a : Expr) → (es : List Expr) → (pos : Pos) → RE T C (.Call (.Name x p) (a :: es) [] pos)
  | 0, _, _, _, _, _, _ => none
  | n + 1, C, x, p, a, es, pos =>
    if hg : C.sc.names.lookup x = some .globalImplicit ∧ (x == ("__debug__" : Str)) = false ∧ x ≠ "__name__" then
      match cA n C (a :: es) with
      | none => none
      | some ⟨ms, hm, hs⟩ =>
        match fnIx T.fns x with
        | some ⟨k, hk⟩ => some ⟨mCall k ms, by obtain ⟨f, h1, h2⟩ := hk; exact ok_call h1 h2 hg.1 hg.2.1 hs hm⟩
        | none =>
          if hb : x ∈ T.blt then
            if h : x = "len" then some ⟨mBl lenD ms, ok_blt (id := "len") (fun _ _ _ _ => cr_len) hb hg.1 (by rw [h]; exact PySem.boot_len) hg.2.2 hg.2.1 hs hm⟩
            else if h : x = "int" then some ⟨mBl toIntD ms, ok_bty (id := "int") (fun _ _ _ _ => cr_int) hb hg.1 (by rw [h]; exact boot_int) hg.2.2 hg.2.1 hs hm⟩
            else if h : x = "tuple" then some ⟨mBl toTupD ms, ok_bty (id := "tuple") (fun _ _ _ _ => cr_tuple) hb hg.1 (by rw [h]; exact boot_tuple) hg.2.2 hg.2.1 hs hm⟩
            else if h : x = "list" then some ⟨mBl (toLstD (C.mt.contains (pos.line, pos.col))) ms, ok_bty (id := "list") (fun _ _ _ _ => cr_list) hb hg.1 (by rw [h]; exact boot_list) hg.2.2 hg.2.1 hs hm⟩
            else if h : x = "max" then some ⟨mBl max2D ms, ok_blt (id := "max") (fun _ _ _ q => cr_max2 q.calm) hb hg.1 (by rw [h]; exact boot_max) hg.2.2 hg.2.1 hs hm⟩
            else if h : x = "min" then some ⟨mBl min2D ms, ok_blt (id := "min") (fun _ _ _ q => cr_min2 q.calm) hb hg.1 (by rw [h]; exact boot_min) hg.2.2 hg.2.1 hs hm⟩
            else none
          else none
    else none
def cA : Nat → (C : CC) → (es : List Expr) → Option { m : MA // OkA T C es m ∧ es.all noStar = true }
  | 0, _, _ => none
  | n + 1, C, es => match es with
    | [] => some ⟨mNil, ok_anil, rfl⟩
    | e :: r => match cE n C e, cA n C r with
      | some ⟨m, h⟩, some ⟨ms, hm, hs⟩ => if hn : noStar e = true then some ⟨mCons m ms, ok_acons hn h hm, by rw [List.all_cons, hn, hs]; rfl⟩ else none
      | _, _ => none
def cO : Nat → (C : CC) → (e : Option Expr) → Option { m : MO' // OkO T C e m }
  | 0, _, _ => none
  | n + 1, C, e => match e with
    | none => some ⟨mNoPart, ok_nopart⟩
    | some e => match cE n C e with
      | some ⟨m, h⟩ => some ⟨mPart m, ok_part h⟩
      | none => none
def cT : Nat → (C : CC) → (e : Expr) → RT T C e
  | 0, _, _ => none
  | n + 1, C, e => match e with
    | .Compare a [op] [b] pos => match cmpOf T C op, cE n C a, cE n C b with
      | some ⟨f, hf⟩, some ⟨ma, ha⟩, some ⟨mb, hb⟩ => if hm : behindInMarks op b = false then some ⟨mTB (mB f ma mb), ok_tcmp hf ha hb hm⟩ else none
      | _, _, _ => none
    | .Compare a [op, op'] [b, c] pos => match cmpOf T C op, cmpOf T C op', cE n C a, cE n C b, cE n C c with
      | some ⟨f, hf⟩, some ⟨g, hg⟩, some ⟨ma, ha⟩, some ⟨mb, hb⟩, some ⟨mc, hc⟩ => if hm : lastMarks [op, op'] [b, c] = false then some ⟨mTB (mChain f g ma mb mc), ok_tchain hf hg ha hb hc hm⟩ else none
      | _, _, _, _, _ => none
    | .BoolOp op vs pos => match cW n C (.BoolOp op vs pos) with
      | some ⟨m, h⟩ => some ⟨m, ok_wt h⟩
      | none => none
    | .UnaryOp .Not a pos => match cT n C a with
      | some ⟨m, h⟩ => some ⟨mNot m, ok_tnot h⟩
      | none => none
    | e => if hp : plainTest e = true then (match cE n C e with
        | some ⟨m, h⟩ => some ⟨mTru m, ok_tru hp h⟩
        | none => none) else none
def cW : Nat → (C : CC) → (e : Expr) → Option { m : MT // OkW T C e m }
  | 0, _, _ => none
  | n + 1, C, e => match e with
    | .BoolOp .And [a] pos => match cT n C a with
      | some ⟨m, h⟩ => some ⟨m, ok_and1 h⟩
      | none => none
    | .BoolOp .Or [a] pos => match cT n C a with
      | some ⟨m, h⟩ => some ⟨m, ok_or1 h⟩
      | none => none
    | .BoolOp .And (a :: b :: r) pos => match cT n C a, cW n C (.BoolOp .And (b :: r) pos) with
      | some ⟨m, h⟩, some ⟨m', h'⟩ => some ⟨mAnd m m', ok_and h h'⟩
      | _, _ => none
    | .BoolOp .Or (a :: b :: r) pos => match cT n C a, cW n C (.BoolOp .Or (b :: r) pos) with
      | some ⟨m, h⟩, some ⟨m', h'⟩ => some ⟨mOr m m', ok_or h h'⟩
      | _, _ => none
    | _ => none
def cTs : Nat → (C : CC) → (es : List Expr) → Option { m : MT // OkTs T C es m }
  | 0, _, _ => none
  | n + 1, C, es => match es with
    | [] => some ⟨mYes, ok_tsnil⟩
    | [e] => match cT n C e with
      | some ⟨m, h⟩ => some ⟨m, ok_tsone h⟩
      | none => none
    | _ => none
def cI : Nat → (C : CC) → (tg e : Expr) → Option { m : MI // OkI T C tg e m }
  | 0, _, _, _ => none
  | n + 1, C, tg, e => match tg, e with
    | .Tuple elts kk tpos, .Call (.Name x p) [a] [] pos =>
      if h : x = "enumerate" ∧ x ∈ T.blt ∧ C.sc.names.lookup x = some .globalImplicit ∧ noStar a = true then
        match cA n C [a] with
        | some ⟨ms, hm, _⟩ => some ⟨mEnum ms, ok_ienum h.1 h.2.1 h.2.2.1 h.2.2.2 hm⟩
        | none => none
      else match cE n C (.Call (.Name x p) [a] [] pos) with
        | some ⟨m, h⟩ => some ⟨mSeqI m, ok_iseq h⟩
        | none => none
    | tg, .Call (.Name x p) [a] [] pos =>
      if h : x = "range" ∧ x ∈ T.blt ∧ C.sc.names.lookup x = some .globalImplicit ∧ noStar a = true then
        match cA n C [a] with
        | some ⟨ms, hm, _⟩ => some ⟨mRng1 ms, ok_irng1 h.1 h.2.1 h.2.2.1 h.2.2.2 hm⟩
        | none => none
      else match cE n C (.Call (.Name x p) [a] [] pos) with
        | some ⟨m, h⟩ => some ⟨mSeqI m, ok_iseq h⟩
        | none => none
    | tg, .Call (.Name x p) [a, b] [] pos =>
      if h : x = "range" ∧ x ∈ T.blt ∧ C.sc.names.lookup x = some .globalImplicit ∧ noStar a = true ∧ noStar b = true then
        match cA n C [a, b] with
        | some ⟨ms, hm, _⟩ => some ⟨mRng2 ms, ok_irng2 h.1 h.2.1 h.2.2.1 h.2.2.2.1 h.2.2.2.2 hm⟩
        | none => none
      else match cE n C (.Call (.Name x p) [a, b] [] pos) with
        | some ⟨m, h⟩ => some ⟨mSeqI m, ok_iseq h⟩
        | none => none
    | tg, e => match cE n C e with
      | some ⟨m, h⟩ => some ⟨mSeqI m, ok_iseq h⟩
      | none => none
def cGc : Nat → (C : CC) → (vs : List Nat) → (e : Expr) → Option { m : MG // OkGc T C vs e m }
  | 0, _, _, _ => none
  | n + 1, C, vs, e => match e with
    | .Name x pos => match ixOf C.N x, locOf C x with
      | some ⟨i, hi⟩, some ⟨hl⟩ => if hv : i ∈ vs then some ⟨gN i, ok_gcname hv hi hl⟩ else none
      | _, _ => none
    | .Tuple es k pos => match cGsc n C vs es with
      | some ⟨gs, h, hs⟩ => some ⟨gTp es.length gs, ok_gctup hs rfl h⟩
      | none => none
    | _ => none
def cGsc : Nat → (C : CC) → (vs : List Nat) → (es : List Expr) → Option { m : MGs // OkGsc T C vs es m ∧ es.all noStarT = true }
  | 0, _, _, _ => none
  | n + 1, C, vs, es => match es with
    | [] => some ⟨gsNil, ok_gscnil, rfl⟩
    | e :: r => match cGc n C vs e, cGsc n C vs r with
      | some ⟨g, h⟩, some ⟨gs, hg, ha⟩ => if hs : noStarT e = true then some ⟨gsCons g gs, ok_gsccons hs h hg, by rw [List.all_cons, hs, ha]; rfl⟩ else none
      | _, _ => none
end
mutual
def cG : Nat → (C : CC) → (e : Expr) → Option { m : MG // OkG T C e m }
  | 0, _, _ => none
  | n + 1, C, e => match e with
    | .Name x pos => match ixOf C.N x, locOf C x with
      | some ⟨i, hi⟩, some ⟨hl⟩ => some ⟨gN i, ok_gname hi hl⟩
      | _, _ => none
    | .Tuple es k pos => match cGs n C es with
      | some ⟨gs, h, hs⟩ => some ⟨gTp es.length gs, ok_gtup hs rfl h⟩
      | none => none
    | .Subscript o i pos => match cE T n C o, cE T n C i with
      | some ⟨mo, ho⟩, some ⟨mi, hi⟩ => if hs : noSlice i = true then some ⟨gSb mo mi, ok_gsub hs ho hi⟩ else none
      | _, _ => none
    | _ => none
def cGs : Nat → (C : CC) → (es : List Expr) → Option { m : MGs // OkGs T C es m ∧ es.all noStarT = true }
  | 0, _, _ => none
  | n + 1, C, es => match es with
    | [] => some ⟨gsNil, ok_gsnil, rfl⟩
    | e :: r => match cG n C e, cGs n C r with
      | some ⟨g, h⟩, some ⟨gs, hg, ha⟩ => if hs : noStarT e = true then some ⟨gsCons g gs, ok_gscons hs h hg, by rw [List.all_cons, hs, ha]; rfl⟩ else none
      | _, _ => none
end
def isTup : Expr → Bool
  | .Tuple .. => false
  | _ => true
theorem isTup_swap {tg e : Expr} {env : Env} (h : isTup e = true) : swappedStores [tg] e env = pure none := by
  cases e <;> first | (cases tg <;> rfl) | cases h
mutual
def cS : Nat → (C : CC) → (st : Stmt) → Option { m : MS // OkS T C st m }
  | 0, _, _ => none
  | n + 1, C, st => match st with
    | .Pass pos => some ⟨mSkip, ok_pass⟩
    | .Break pos => some ⟨mBreak, ok_break⟩
    | .Continue pos => some ⟨mCont, ok_cont⟩
    | .Raise a b pos => some ⟨mNever, ok_never⟩
    | .Return none pos => some ⟨mRetN, ok_retN⟩
    | .Return (some e) pos => match cE T n C e with
      | some ⟨m, h⟩ => some ⟨mRet m, ok_ret h⟩
      | none => none
    | .Expr e pos => match cE T n C e with
      | some ⟨m, h⟩ => if hn : noComp e = true then some ⟨mDrop m, ok_expr hn h⟩ else none
      | none => none
    | .If c a b pos => match cT T n C c, cSs n C a, cSs n C b with
      | some ⟨mc, hc⟩, some ⟨ma, ha⟩, some ⟨mb, hb⟩ => some ⟨mIfS mc ma mb, ok_ifS hc ha hb⟩
      | _, _, _ => none
    | .While c b [] pos => match cT T n C c, cSs n C b with
      | some ⟨mc, hc⟩, some ⟨mb, hb⟩ => some ⟨mWhl mc mb, ok_while hc hb⟩
      | _, _ => none
    | .For tg iter b [] pos => match cI T n C tg iter, cG T n C tg, cSs n C b with
      | some ⟨mi, hi⟩, some ⟨g, hg⟩, some ⟨mb, hb⟩ => if hs : noSet iter = true then some ⟨mFor mi g mb, ok_for hs hi hg hb⟩ else none
      | _, _, _ => none
    | .AugAssign (.Name x p) .Add e pos => match ixOf C.N x, locOf C x, cE T n C e with
      | some ⟨i, hi⟩, some ⟨hl⟩, some ⟨m, h⟩ => some ⟨mAug i (intD (fun _ _ => true) fun i j => .int (i + j)) m, ok_aug hi hl (fun _ _ _ _ => or_iadd) h⟩
      | _, _, _ => none
    | .AugAssign (.Name x p) .Sub e pos => match ixOf C.N x, locOf C x, cE T n C e with
      | some ⟨i, hi⟩, some ⟨hl⟩, some ⟨m, h⟩ => some ⟨mAug i (intD (fun _ _ => true) fun i j => .int (i - j)) m, ok_aug hi hl (fun _ _ _ _ => or_isub) h⟩
      | _, _, _ => none
    | .Assign [.Name y py] (.ListComp elt [⟨tg, iter, ifs, 0⟩] scope pos) spos =>
      if h : (noSet iter = true ∧ blkC C.N C.sc scope (ownOf C.N scope) = true) ∧ C.sc.names.lookup y = some .local ∧ (py.line == pos.line) = true ∧ (scope.names.any fun (n, k) => n == y && (k == .local || k == .cell)) = false then
        match ixOf C.N y, cI T n C tg iter, cGc T n (C.blk scope) ((ownOf C.N scope).map (·.2)) tg, cTs T n (C.blk scope) ifs, cE T n (C.blk scope) elt with
        | some ⟨i, hi'⟩, some ⟨mi, hi⟩, some ⟨g, hg⟩, some ⟨mt, ht⟩, some ⟨me, he⟩ => some ⟨mAsg (mLc mi g mt me ((ownOf C.N scope).map (·.2))) (gN i), ok_setlc rfl h.1.1 h.1.2 hi' h.2.1 h.2.2.1 h.2.2.2 hi hg ht he⟩
        | _, _, _, _, _ => none
      else none
    | .Assign [.Name x p] e pos => match ixOf C.N x, locOf C x, cE T n C e with
      | some ⟨i, hi⟩, some ⟨hl⟩, some ⟨m, h⟩ => if hn : noComp e = true then some ⟨mAsg m (gN i), ok_set hn hi hl h⟩ else none
      | _, _, _ => none
    | .Assign [.Subscript o i p] e pos => match cE T n C e, cG T n C (.Subscript o i p) with
      | some ⟨m, h⟩, some ⟨g, hg⟩ => if hn : noComp e = true then some ⟨mAsg m g, ok_asg hn (fun env _ => swap_none_sub) rfl h hg⟩ else none
      | _, _ => none
    | .Assign [.Tuple [.Name x px, .Name y py] kt pt] (.Tuple [a, b] k2 pt2) pos =>
      match ixOf C.N x, ixOf C.N y, cA T n C [a, b] with
      | some ⟨i, hi⟩, some ⟨j, hj⟩, some ⟨ms, hm, hs⟩ =>
        if h : i ≠ j ∧ C.sc.kind = .function ∧ C.sc.names.lookup x = some .local ∧ C.sc.names.lookup y = some .local ∧ (py.line == px.line) = true ∧ [x, y].eraseDups.length = 2 ∧ noStar a = true ∧ noStar b = true ∧ [a, b].all (foldedForSure 8) = false ∧ [a, b].all (constantsAlone 8) = false then
          some ⟨mPar i j ms, ok_par hi hj h.1 h.2.2.1 h.2.2.2.1 hm fun env he => swap_two he h.2.1 h.2.2.1 h.2.2.2.1 h.2.2.2.2.1 h.2.2.2.2.2.1 h.2.2.2.2.2.2.1 h.2.2.2.2.2.2.2.1 h.2.2.2.2.2.2.2.2.1 h.2.2.2.2.2.2.2.2.2⟩
        else none
      | _, _, _ => none
    | .Assign [.Tuple es kt pt] e pos => match cE T n C e, cG T n C (.Tuple es kt pt) with
      | some ⟨m, h⟩, some ⟨g, hg⟩ => if hn : noComp e = true ∧ isTup e = true then some ⟨mAsg m g, ok_asg hn.1 (fun env _ => isTup_swap hn.2) rfl h hg⟩ else none
      | _, _ => none
    | _ => none
def cSs : Nat → (C : CC) → (sts : List Stmt) → Option { m : MS // OkSs T C sts m }
  | 0, _, _ => none
  | n + 1, C, sts => match sts with
    | [] => some ⟨mSkip, ok_snil⟩
    | [s] => match cS n C s with
      | some ⟨m, h⟩ => some ⟨m, ok_sone h⟩
      | none => none
    | s :: r => match cS n C s, cSs n C r with
      | some ⟨m, h⟩, some ⟨m', h'⟩ => some ⟨mSeq m m', ok_scons h h'⟩
      | _, _ => none
end
theorem cSs_ok {n : Nat} {C : CC} {sts : List Stmt} {m : MS} (h : (cSs T n C sts).map Subtype.val = some m) : OkSs T C sts m := by
  cases e : cSs T n C sts with
  | none => rw [e] at h; cases h
  | some x =>
    rw [e] at h
    cases h
    exact x.2
end
end RI

namespace RI
open PySem PySem.Spec PyProof.Rows L2
theorem ints_rel {K : Kb} {W : Wd} : ∀ ns : List Int, DRels K W (ns.map D.int) (ns.map V.int)
  | [] => rfl
  | n :: ns => ⟨.int n, _, rfl, rfl, ints_rel ns⟩
theorem sp_law {T : Tb} {K : Kb} {n k : Nat} {x : Str} {H : Hp} {a : Addr} {ns : List Int} {E : XK} (hS : SqL K.K H a (ns.map V.int)) (hc : ∃ M', callF T n k [.lst (ns.map .int)] [] = .ok (.bl true) M') : spF T K [x] n k [.ref a] H (fun v _ => v = .bl true) E := by
  obtain ⟨M', hc⟩ := hc
  refine ⟨rfl, ⟨[], []⟩, [], [.lst (ns.map .int)], ⟨rfl, List.nodup_nil, fun i a o h => by simp at h, fun a h => by simp at h⟩, ?_, ?_⟩
  · refine ⟨.ref a, [], rfl, ?_, rfl⟩
    simp only [DRel]
    refine ⟨a, _, rfl, ?_, ints_rel ns⟩
    rcases hS with hS | hS
    · exact .inl ⟨hS, by simp, by simp⟩
    · exact .inr hS
  · rw [hc]
    intro W' _ _ v dv
    exact dv
/-- whatever the globals are -/
def spL (T : Tb) (K : PySem.W.Frag) (P : Program) (w : World) (ps : List Str) (n k : Nat) : Sp := fun vs H Q E => ∀ mg, spF T ⟨K, P, w, mg⟩ ps n k vs H Q E
theorem sp_lawL {T : Tb} {K : PySem.W.Frag} {P : Program} {w : World} {n k : Nat} {x : Str} {H : Hp} {a : Addr} {ns : List Int} {E : XK} (hS : SqL K H a (ns.map V.int)) (hc : ∃ M', callF T n k [.lst (ns.map .int)] [] = .ok (.bl true) M') : spL T K P w [x] n k [.ref a] H (fun v _ => v = .bl true) E := fun mg => sp_law (K := ⟨K, P, w, mg⟩) hS hc
theorem cx_no {P : Program} {w : World} {l : List Env} {H : Hp} {s : Shared} {e : Value} {s' : Shared} (h : L2.CX P w l H s (fun _ _ _ => False) e s') : False := by
  obtain ⟨_, _, _, _, _, _, _, _, _, _, _, _, z⟩ := h
  exact z
section
variable {T : Tb} {K : PySem.W.Frag} {h : Heap} {mg : Str → Option Value}
theorem fnAt_mk (X : K.In h) (G : h.Ns mainGlobals mg) {fn : Fn} {st : Stmt} {f : Addr} {oc : Value} {od an : Option Addr} {osl : Array (Option Value)} {kV doc pm cdv ct : Value} {mt : List (Nat × Nat)}
    (a : PySem.W.nsIn K mainGlobals fn.name = some (some (.ref f)))
    (l : K.lookup f = some ⟨oc, od, .func (PySem.W.fnOf fn.name fn.name (defArgs st) (defBody st) (defScope st) .none kV doc pm an cdv ct), osl⟩)
    (c : PySem.W.codeIn K cdv fn.name = true) (k : PySem.W.keepIn K (.ref f) = true)
    (sc : FnScope fn.N fn.ps (defScope st)) (ok : OkSs T ⟨defScope st, fn.N, fun _ => true, mt⟩ (defBody st) fn.body)
    (hb : ∀ (kV doc pm : Value) (an : Option Addr) (cdv ct : Value) (us : List Value), us.length = fn.ps.length → bindArgs (PySem.W.fnOf fn.name fn.name (defArgs st) (defBody st) (defScope st) .none kV doc pm an cdv ct) ⟨us, []⟩ = pure (fn.ps.zip us)) : FnAt T K mg fn :=
  have F := fun_mk l c k
  ⟨f, _, st, fn.name, fn.name, mt, F, sc, PySem.W.mg_of X G a, F.binds hb, ok⟩
theorem con_mk {P : Program} {w : World} (X : K.In h) (G : h.Ns mainGlobals mg) {x : Str} {u : Value} {v : V} {d : D} (a : PySem.W.nsIn K mainGlobals x = some (some u)) (r : RelV v u) (k : KRel ⟨K, P, w, mg⟩ d v) : ∃ u v, mg x = some u ∧ RelV v u ∧ KRel ⟨K, P, w, mg⟩ d v := ⟨u, v, PySem.W.mg_of X G a, r, k⟩
theorem krel_tup {P : Program} {w : World} {a : Addr} {dd : Option Addr} {us : List Value} {n : Nat} {sl : Array (Option Value)} {ds : List D} {vs : List V} (l : K.lookup a = some ⟨.type "tuple", dd, .seq us.toArray n, sl⟩) (hz : us.length ≤ 1000) (hv : Vals vs us) (hd : ∀ W, DRels ⟨K, P, w, mg⟩ W ds vs) : KRel ⟨K, P, w, mg⟩ (.tup ds) (.ref a) := fun W => by
  simp only [DRel]
  exact ⟨a, vs, rfl, .inr ⟨_, us.toArray, n, l, rfl, rfl, by rw [List.size_toArray]; exact Nat.le_trans hz (by decide), by simpa using hv⟩, hd W⟩
theorem fns_at {fs : List Fn} (P : Fn → Prop) (h : ∀ f ∈ fs, P f) : ∀ (k : Nat) (f : Fn), fs[k]? = some f → P f := fun k f e => h f (List.mem_of_getElem? e)
theorem con_at {cs : List (Str × D)} {P : Str → D → Prop} (h : ∀ c ∈ cs, P c.1 c.2) : ∀ x d, cs.lookup x = some d → P x d := fun x d e => h (x, d) (PySem.mem_of_lookup e)
end
end RI

namespace RI
open PySem L2
/-! ### the meanings, applied -/
section
variable (F : FT) (r : EV) (M : Mem)
@[simp] theorem ap_var (i : Nat) : mVar i F r M = (match r[i]? with | some (some d) => .ok d M | _ => .bad) := (rfl)
@[simp] theorem ap_c (d : D) : mC d F r M = .ok d M := (rfl)
@[simp] theorem ap_nil : mNil F r M = .ok [] M := (rfl)
@[simp] theorem ap_cons (m : ME) (ms : MA) : mCons m ms F r M = (m F r M).bind fun d M1 => (ms F r M1).bind fun ds M2 => .ok (d :: ds) M2 := (rfl)
@[simp] theorem ap_tup (ms : MA) : mTup ms F r M = (ms F r M).bind fun ds M1 => if ds.length ≤ LIM then .ok (.tup ds) M1 else .bad := (rfl)
@[simp] theorem ap_lst (ms : MA) : mLst ms F r M = (ms F r M).bind fun ds M1 => if ds.length ≤ LIM then .ok (.lst ds) M1 else .bad := (rfl)
@[simp] theorem ap_lstM (ms : MA) : mLstM ms F r M = (ms F r M).bind fun ds M1 => if ds.length ≤ LIM then newO ds M1 else .bad := (rfl)
@[simp] theorem ap_B (f : D → D → Mem → Res D) (a b : ME) : mB f a b F r M = (a F r M).bind fun x M1 => (b F r M1).bind fun y M2 => (f x y M2).noX := (rfl)
@[simp] theorem ap_TB (m : ME) : mTB m F r M = (m F r M).bind fun d M1 => (match d with | .bl b => .ok b M1 | _ => .bad) := (rfl)
@[simp] theorem ap_noPart : mNoPart F r M = .ok none M := (rfl)
@[simp] theorem ap_part (m : ME) : mPart m F r M = (m F r M).bind fun d M1 => (match d with | .int i => .ok (some i) M1 | _ => .bad) := (rfl)
@[simp] theorem ap_sl (m : ME) (lo hi : MO') : mSl m lo hi F r M = (m F r M).bind fun x M1 => (lo F r M1).bind fun i M2 => (hi F r M2).bind fun j M3 => (slD x i j M3).noX := (rfl)
@[simp] theorem ap_and (a b : MT) : mAnd a b F r M = (a F r M).bind fun c M1 => if c then b F r M1 else .ok false M1 := (rfl)
@[simp] theorem ap_or (a b : MT) : mOr a b F r M = (a F r M).bind fun c M1 => if c then .ok true M1 else b F r M1 := (rfl)
@[simp] theorem ap_not (a : MT) : mNot a F r M = (a F r M).bind fun c M1 => .ok (!c) M1 := (rfl)
@[simp] theorem ap_andV (a b : ME) : mAndV a b F r M = (mTB a F r M).bind fun c M1 => if c then b F r M1 else .ok (.bl false) M1 := (rfl)
@[simp] theorem ap_orV (a b : ME) : mOrV a b F r M = (mTB a F r M).bind fun c M1 => if c then .ok (.bl true) M1 else b F r M1 := (rfl)
@[simp] theorem ap_notV (a : ME) : mNotV a F r M = (mTB a F r M).bind fun c M1 => .ok (.bl (!c)) M1 := (rfl)
@[simp] theorem ap_if (c : MT) (a b : ME) : mIf c a b F r M = (c F r M).bind fun k M1 => if k then a F r M1 else b F r M1 := (rfl)
@[simp] theorem ap_tru (m : ME) : mTru m F r M = (m F r M).bind fun d M1 => truD d M1 := (rfl)
@[simp] theorem ap_call (k : Nat) (ms : MA) : mCall k ms F r M = (ms F r M).bind fun ds M1 => F k ds M1 := (rfl)
@[simp] theorem ap_bl (f : List D → Mem → Res D) (ms : MA) : mBl f ms F r M = (ms F r M).bind fun ds M1 => (f ds M1).noX := (rfl)
@[simp] theorem ap_isi (t : Ty) (m : ME) : mIsi t m F r M = (m F r M).bind fun d M1 => (match d with | .obj i => (match M1[i]? with | some (.lst _) => .ok (.bl (isiB .list t)) M1 | _ => .bad) | d => .ok (.bl (isiB d.ty t)) M1) := (rfl)
@[simp] theorem ap_skip : mSkip F r M = .ok (.next r) M := (rfl)
@[simp] theorem ap_seq (a b : MS) : mSeq a b F r M = (a F r M).bind fun f M1 => (match f with | .next r1 => b F r1 M1 | f => .ok f M1) := (rfl)
@[simp] theorem ap_break : mBreak F r M = .ok (.brk r) M := (rfl)
@[simp] theorem ap_cont : mCont F r M = .ok (.cont r) M := (rfl)
@[simp] theorem ap_never : mNever F r M = .bad := (rfl)
@[simp] theorem ap_ret (m : ME) : mRet m F r M = (m F r M).toS r fun d M1 => .ok (.ret d) M1 := (rfl)
@[simp] theorem ap_retN : mRetN F r M = .ok (.ret .non) M := (rfl)
@[simp] theorem ap_drop (m : ME) : mDrop m F r M = (m F r M).toS r fun _ M1 => .ok (.next r) M1 := (rfl)
@[simp] theorem ap_ifS (c : MT) (a b : MS) : mIfS c a b F r M = (c F r M).toS r fun k M1 => if k then a F r M1 else b F r M1 := (rfl)
@[simp] theorem ap_gN (i : Nat) (d : D) : gN i F d r M = .ok (r.set i (some d)) M := (rfl)
@[simp] theorem ap_gsNil : gsNil F [] r M = .ok r M := (rfl)
@[simp] theorem ap_gsCons (g : MG) (gs : MGs) (d : D) (rest : List D) : gsCons g gs F (d :: rest) r M = (g F d r M).bind fun r1 M1 => gs F rest r1 M1 := (rfl)
@[simp] theorem ap_gTp (n : Nat) (gs : MGs) (d : D) : gTp n gs F d r M = (match seqD M d with | some l => if l.length = n then gs F l r M else .bad | none => .bad) := (rfl)
@[simp] theorem ap_gSb (mo mi : ME) (d : D) : gSb mo mi F d r M = (mo F r M).bind fun o M1 => (mi F r M1).bind fun i M2 => (setD o i d M2).bind fun _ M3 => .ok r M3 := (rfl)
@[simp] theorem ap_asg (m : ME) (g : MG) : mAsg m g F r M = (m F r M).toS r fun d M1 => (g F d r M1).bind fun r1 M2 => .ok (.next r1) M2 := (rfl)
@[simp] theorem ap_par (i j : Nat) (ms : MA) : mPar i j ms F r M = (ms F r M).toS r fun ds M1 => (match ds with | [v, w] => .ok (.next ((r.set i (some v)).set j (some w))) M1 | _ => .bad) := (rfl)
@[simp] theorem ap_aug (i : Nat) (f : D → D → Mem → Res D) (m : ME) : mAug i f m F r M = (match r[i]? with | some (some d) => (m F r M).toS r fun e M1 => (f d e M1).noX.bind fun z M2 => .ok (.next (r.set i (some z))) M2 | _ => .bad) := (rfl)
@[simp] theorem ap_whl (c : MT) (b : MS) : mWhl c b F r M = whileN c b F FUEL r M := (rfl)
@[simp] theorem ap_seqI (m : ME) : mSeqI m F r M = (m F r M).bind fun d M1 => (match d with | .tup l => .ok (l, none) M1 | .lst l => .ok (l, none) M1 | .obj j => (match M1[j]? with | some (.lst l) => .ok (l, some (j, l)) M1 | _ => .bad) | _ => .bad) := (rfl)
@[simp] theorem ap_rng1 (ms : MA) : mRng1 ms F r M = (ms F r M).bind fun ds M1 => (match ds with | [.int j] => if rngOk j = true then .ok (rngD 0 j.toNat, none) M1 else .bad | _ => .bad) := (rfl)
@[simp] theorem ap_enum (ms : MA) : mEnum ms F r M = (ms F r M).bind fun ds M1 => (match ds with | [.tup l] => .ok (enumD 0 l, none) M1 | [.lst l] => .ok (enumD 0 l, none) M1 | _ => .bad) := (rfl)
@[simp] theorem ap_for (mi : MI) (g : MG) (b : MS) : mFor mi g b F r M = (mi F r M).toS r fun p M1 => forG p.2 g b F p.1 r M1 := (rfl)
@[simp] theorem ap_app (mo mv : ME) : mApp mo mv F r M = (mo F r M).bind fun o M1 => (match o with | .obj j => (match M1[j]? with | some (.lst _) => (mv F r M1).bind fun v M2 => (appD o v M2).noX | _ => .bad) | _ => .bad) := (rfl)
@[simp] theorem ap_yes : mYes F r M = .ok true M := (rfl)
@[simp] theorem ap_lc (mi : MI) (g : MG) (mt : MT) (me : ME) (vs : List Nat) : mLc mi g mt me vs F r M = (mi F r M).bind fun p M1 => if p.1.length ≤ LIM then (lcG p.2 g mt me F (wipeE r vs) p.1 M1).noX.bind fun ys M2 => .ok (.lst ys) M2 else .bad := (rfl)
@[simp] theorem ap_chain (f g : D → D → Mem → Res D) (a b c : ME) : mChain f g a b c F r M = (a F r M).bind fun x M1 => (b F r M1).bind fun y M2 => (f x y M2).noX.bind fun z M3 => (match z with | .bl true => (c F r M3).bind fun w M4 => (g y w M4).noX | .bl false => .ok (.bl false) M3 | _ => .bad) := (rfl)
@[simp] theorem ap_neg (m : ME) : mNeg m F r M = (m F r M).bind fun d M1 => (match d with | .int i => .ok (.int (-i)) M1 | _ => .bad) := (rfl)
@[simp] theorem ap_dct0 : mDct0 F r M = .ok (.obj M.length) (M ++ [.dct []]) := (rfl)
@[simp] theorem ap_dct1 (mk mv : ME) : mDct1 mk mv F r M = (mk F r M).noX.bind fun k M1 => (mv F r M1).noX.bind fun v M2 => if (D.isKey k && D.bel M2.length v) = true then .ok (.obj M2.length) (M2 ++ [.dct [(k, v)]]) else .bad := (rfl)
end
@[simp] theorem noX_ite {A : Type} (c : Prop) [Decidable c] (a b : Res A) : (if c then a else b).noX = if c then a.noX else b.noX := by split <;> rfl
@[simp] theorem noX_exc {A : Type} (x : Ex) (M : Mem) : (Res.exc x M : Res A).noX = .bad := rfl
theorem ixD_S {M : Mem} {x y : D} (h : dctD M x = none) : ixD x y M = ixS x y M := by simp only [ixD, h]
theorem inD_S {M : Mem} {n : Bool} {x y : D} (h : dctD M y = none) : inD n x y M = inS n x y M := by simp only [inD, h]
theorem setD_S {M : Mem} {x y v : D} (h : dctD M x = none) : setD x y v M = setS x y v M := by simp only [setD, h]
@[simp] theorem dctD_lst (M : Mem) (l : List D) : dctD M (.lst l) = none := (rfl)
@[simp] theorem dctD_tup (M : Mem) (l : List D) : dctD M (.tup l) = none := (rfl)
/-! ### data -/
@[simp] theorem add_ii (i j : Int) (M : Mem) : addD (.int i) (.int j) M = .ok (.int (i + j)) M := (rfl)
@[simp] theorem intD_ii (c : Int → Int → Bool) (g : Int → Int → D) (i j : Int) (M : Mem) : intD c g (.int i) (.int j) M = if c i j then .ok (g i j) M else .bad := (rfl)
@[simp] theorem sub_ii (i j : Int) (M : Mem) : subD (.int i) (.int j) M = .ok (.int (i - j)) M := (rfl)
@[simp] theorem mod_ii (i j : Int) (M : Mem) : modD (.int i) (.int j) M = if 0 < j then .ok (.int (i % j)) M else .bad := by simp [modD]
@[simp] theorem fdiv_ii (i j : Int) (M : Mem) : fdivD (.int i) (.int j) M = if 0 < j ∧ j < 1073741824 then .ok (.int (i / j)) M else .bad := by simp [fdivD]
@[simp] theorem lt_ii (i j : Int) (M : Mem) : ltD (.int i) (.int j) M = .ok (.bl (decide (i < j))) M := (rfl)
@[simp] theorem le_ii (i j : Int) (M : Mem) : leD (.int i) (.int j) M = .ok (.bl (decide (i ≤ j))) M := (rfl)
@[simp] theorem gt_ii (i j : Int) (M : Mem) : gtD (.int i) (.int j) M = .ok (.bl (decide (j < i))) M := (rfl)
@[simp] theorem ge_ii (i j : Int) (M : Mem) : geD (.int i) (.int j) M = .ok (.bl (decide (j ≤ i))) M := (rfl)
theorem mul_ii {i j : Int} (h : cmul i j = true) (M : Mem) : mulD (.int i) (.int j) M = .ok (.int (i * j)) M := by simp [mulD, h]
/-! data without objects -/
mutual
theorem frz_pure (g : Nat → D) : ∀ d : D, D.noObj d = true → D.frz g d = d
  | .non, _ => rfl
  | .bl _, _ => rfl
  | .int _, _ => rfl
  | .str _, _ => rfl
  | .obj _, h => by simp [D.noObj] at h
  | .tup l, h => by simp only [D.noObj] at h; simp only [D.frz, frzs_pure g l h]
  | .lst l, h => by simp only [D.noObj] at h; simp only [D.frz, frzs_pure g l h]
theorem frzs_pure (g : Nat → D) : ∀ ds : List D, D.noObjs ds = true → D.frzs g ds = ds
  | [], _ => rfl
  | d :: ds, h => by
    simp only [D.noObjs, Bool.and_eq_true] at h
    simp only [D.frzs, frz_pure g d h.1, frzs_pure g ds h.2]
end
mutual
theorem bel_pure (n : Nat) : ∀ d : D, D.noObj d = true → D.bel n d = true
  | .non, _ => rfl
  | .bl _, _ => rfl
  | .int _, _ => rfl
  | .str _, _ => rfl
  | .obj _, h => by simp [D.noObj] at h
  | .tup l, h => by simp only [D.noObj] at h; simp only [D.bel, bels_pure n l h]
  | .lst l, h => by simp only [D.noObj] at h; simp only [D.bel, bels_pure n l h]
theorem bels_pure (n : Nat) : ∀ ds : List D, D.noObjs ds = true → D.bels n ds = true
  | [], _ => rfl
  | d :: ds, h => by
    simp only [D.noObjs, Bool.and_eq_true] at h
    simp only [D.bels, bel_pure n d h.1, bels_pure n ds h.2, Bool.and_self]
end
theorem noObjs_map {A : Type} (f : A → D) (h : ∀ a, D.noObj (f a) = true) : ∀ l : List A, D.noObjs (l.map f) = true
  | [] => rfl
  | a :: l => by simp only [List.map_cons, D.noObjs, h a, noObjs_map f h l, Bool.and_self]
@[simp] theorem noObjs_ints (l : List Int) : D.noObjs (l.map D.int) = true := noObjs_map _ (fun _ => rfl) l
@[simp] theorem noObj_int (i : Int) : D.noObj (.int i) = true := (rfl)
@[simp] theorem noObj_bl (i : Bool) : D.noObj (.bl i) = true := (rfl)
@[simp] theorem noObj_str (i : List Nat) : D.noObj (.str i) = true := (rfl)
@[simp] theorem noObj_non : D.noObj .non = true := (rfl)
@[simp] theorem noObj_tup (l : List D) : D.noObj (.tup l) = D.noObjs l := (rfl)
@[simp] theorem noObj_lst (l : List D) : D.noObj (.lst l) = D.noObjs l := (rfl)
@[simp] theorem noObjs_nil : D.noObjs [] = true := (rfl)
@[simp] theorem noObjs_cons (d : D) (ds : List D) : D.noObjs (d :: ds) = (D.noObj d && D.noObjs ds) := (rfl)
/-- a result without objects, the memory as it was (and what was made since) -/
theorem fin_pure {d : D} {M M' : Mem} (h : D.noObj d = true) (e : M'.take M.length = M) : fin false M.length d M' = .ok d M := by
  unfold fin
  rw [frz_pure _ d h, bel_pure _ d h, e]
  rfl
@[simp] theorem fin_same {d : D} {M : Mem} (h : D.noObj d = true) : fin false M.length d M = .ok d M := fin_pure h (by simp)
@[simp] theorem fin_more {d : D} {M X : Mem} (h : D.noObj d = true) : fin false M.length d (M ++ X) = .ok d M := fin_pure h (by simp)
@[simp] theorem fin_keep {d : D} {n : Nat} {M : Mem} : fin true n d M = .ok d M := (rfl)
@[simp] theorem retOf_ret (k : Bool) (n : Nat) (d : D) (M : Mem) : retOf k n (.ok (.ret d) M) = fin k n d M := (rfl)
@[simp] theorem retOf_next (k : Bool) (n : Nat) (r : EV) (M : Mem) : retOf k n (.ok (.next r) M) = fin k n .non M := (rfl)
@[simp] theorem lstD_lst (M : Mem) (l : List D) : lstD M (.lst l) = some l := (rfl)
@[simp] theorem seqD_lst (M : Mem) (l : List D) : seqD M (.lst l) = some l := (rfl)
@[simp] theorem seqD_tup (M : Mem) (l : List D) : seqD M (.tup l) = some l := (rfl)
/-- equality of flat things -/
theorem str_beq (s t : List Nat) : ((⟨s.toArray⟩ : Str) == ⟨t.toArray⟩) = decide (s = t) := by
  by_cases h : s = t
  · subst h; simp
  · have : (⟨s.toArray⟩ : Str) ≠ ⟨t.toArray⟩ := fun e => h (by injection e with e; simpa using e)
    simp [h, this]
@[simp] theorem eq_ii (n : Bool) (i j : Int) (M : Mem) : eqD n (.int i) (.int j) M = .ok (.bl (if n then !decide (i = j) else decide (i = j))) M := by
  have h : (PyData.eqv (.int i) (.int j)) = decide (i = j) := by
    simp only [PyData.eqv]
    by_cases e : i = j <;> simp [e]
  simp [eqD, derefD, D.toP, SeqAt.shaped, PyData.canLay0, PyData.depth, h]
theorem eq_ss {s t : List Nat} (hs : s.all (· < 1114112) = true) (ht : t.all (· < 1114112) = true) (n : Bool) (M : Mem) : eqD n (.str s) (.str t) M = .ok (.bl (if n then !decide (s = t) else decide (s = t))) M := by
  have h : (PyData.eqv (.str ⟨s.toArray⟩) (.str ⟨t.toArray⟩)) = decide (s = t) := by
    simp only [PyData.eqv, str_beq]
  have k : ∀ u : List Nat, u.all (· < 1114112) = true → PyData.canLay0 (.str ⟨u.toArray⟩) = true := fun u hu => by
    simp only [PyData.canLay0, PyData.strOk, List.all_toArray]; exact hu
  simp [eqD, derefD, D.toP, SeqAt.shaped, k s hs, k t ht, PyData.depth, h]
theorem toPs_map {A : Type} (f : A → D) : ∀ l : List A, D.toPs (l.map f) = l.map fun a => D.toP (f a)
  | [] => rfl
  | a :: l => by simp only [List.map_cons, D.toPs, toPs_map f l]
theorem canLay_map {A : Type} (g : A → PyData) (h : ∀ a, (g a).canLay0 = true) : ∀ l : List A, PyData.canLayAll0 (l.map g) = true
  | [] => rfl
  | a :: l => by simp only [List.map_cons, PyData.canLayAll0, h a, canLay_map g h l, Bool.and_self]
theorem depth_map {A : Type} (g : A → PyData) (n : Nat) (h : ∀ a, (g a).depth ≤ n) : ∀ l : List A, PyData.depthAll (l.map g) ≤ n
  | [] => Nat.zero_le _
  | a :: l => by
    simp only [List.map_cons, PyData.depthAll]
    exact Nat.max_le.mpr ⟨h a, depth_map g n h l⟩
/-- flat or nearly flat items -/
structure Nice {A : Type} (f : A → D) : Prop where
  no : ∀ a, D.noObj (f a) = true
  lay : ∀ a, (D.toP (f a)).canLay0 = true
  dep : ∀ a, (D.toP (f a)).depth ≤ 32
theorem nice_int : Nice D.int := ⟨fun _ => rfl, fun _ => rfl, fun _ => Nat.zero_le _⟩
theorem Nice.shT {A : Type} {f : A → D} (h : Nice f) (l : List A) : SeqAt.shaped (D.toP (.tup (l.map f))) = true := by
  have h1 := canLay_map _ h.lay l
  have h2 := depth_map _ 32 h.dep l
  simp only [D.toP, SeqAt.shaped, PyData.canLay0, PyData.depth, toPs_map, h1, Bool.true_and, decide_eq_true_eq]
  omega
theorem Nice.shL {A : Type} {f : A → D} (h : Nice f) (l : List A) : SeqAt.shaped (D.toP (.lst (l.map f))) = true := by
  have h1 := canLay_map _ h.lay l
  have h2 := depth_map _ 32 h.dep l
  simp only [D.toP, SeqAt.shaped, PyData.canLay0, PyData.depth, toPs_map, h1, Bool.true_and, decide_eq_true_eq]
  omega
theorem Nice.noL {A : Type} {f : A → D} (h : Nice f) (l : List A) : D.noObjs (l.map f) = true := noObjs_map f h.no l
theorem Nice.tup {A : Type} {f : A → D} (h : Nice f) (hd : ∀ a, (D.toP (f a)).depth ≤ 31) : Nice (fun l : List A => .tup (l.map f)) :=
  ⟨fun l => h.noL l, fun l => by
    simp only [D.toP, PyData.canLay0, toPs_map]; exact canLay_map _ h.lay l, fun l => by
    have := depth_map (fun a => D.toP (f a)) 31 hd l
    simp only [D.toP, PyData.depth, toPs_map]; omega⟩
/-- a list and [] -/
theorem eq_nil {A : Type} {f : A → D} (h : Nice f) (n : Bool) (l : List A) (M : Mem) : eqD n (.lst (l.map f)) (.lst []) M = .ok (.bl (if n then !l.isEmpty else l.isEmpty)) M := by
  have e : PyData.eqv (D.toP (.lst (l.map f))) (D.toP (.lst [])) = l.isEmpty := by
    cases l <;> simp [D.toP, D.toPs, PyData.eqv, PyData.eqvAll]
  simp only [eqD, derefD, noObj_lst, h.noL, noObjs_nil, h.shL, e]
  rfl
/-- alike -/
theorem eq_same {d : D} (h1 : D.noObj d = true) (h2 : SeqAt.shaped (D.toP d) = true) (n : Bool) (M : Mem) : eqD n d d M = .ok (.bl (!n)) M := by
  have e : derefD M d = d := by cases d <;> first | rfl | simp [D.noObj] at h1
  have r : PyData.eqv (D.toP d) (D.toP d) = true := SeqAt.eqv_refl _ (SeqAt.canLay_of_shaped h2)
  simp only [eqD, e, h1, h2, Bool.and_self, if_true, r]
  cases n <;> rfl
/-- membership among ints -/
theorem eqv_int (i j : Int) : PyData.eqv (.int i) (.int j) = decide (i = j) := by
  simp only [PyData.eqv]
  by_cases e : i = j <;> simp [e]
theorem any_ints (x : Int) : ∀ l : List Int, ((D.toPs (l.map D.int)).any fun z => PyData.eqv z (.int x)) = decide (x ∈ l)
  | [] => by simp [D.toPs]
  | a :: l => by
    simp only [List.map_cons, D.toPs, D.toP, List.any_cons, eqv_int, any_ints x l]
    by_cases h : a = x
    · simp [h]
    · have : x ≠ a := fun e => h e.symm
      simp [h, this]
theorem in_ints (n : Bool) (x : Int) (l : List Int) (M : Mem) {d : D} (h : seqD M d = some (l.map D.int)) : inD n (.int x) d M = .ok (.bl (if n then !decide (x ∈ l) else decide (x ∈ l))) M := by
  have hc : PyData.canLayAll0 (D.toPs (l.map D.int)) = true := by rw [toPs_map]; exact canLay_map _ (fun _ => rfl) l
  have hs : SeqAt.shaped (D.toP (.int x)) = true := by simp [D.toP, SeqAt.shaped, PyData.canLay0, PyData.depth]
  rw [inD_S (dctD_none h)]
  simp only [inS, h, noObj_int, noObjs_ints, hs, hc, Bool.and_self, if_true]
  simp only [D.toP, any_ints]
theorem at_nat {A : Type} {l : List A} {i : Int} (h0 : 0 ≤ i) (h1 : i < l.length) : atI l i = some (l[i.toNat]'(by omega)) := by
  have e : i = ((i.toNat : Nat) : Int) := by omega
  have := atI_nat (xs := l) (j := i.toNat) (List.getElem?_eq_getElem (by omega))
  rw [← e] at this
  exact this
end RI

namespace RI
open PySem L2
/-! ### lists, whether frozen or not -/
theorem lstD_cases {M : Mem} {d : D} {l : List D} (h : lstD M d = some l) : d = .lst l ∨ ∃ j, d = .obj j ∧ M[j]? = some (.lst l) := by
  cases d with
  | lst l' => simp only [lstD, Option.some.injEq] at h; exact .inl (by rw [h])
  | obj j =>
    simp only [lstD] at h
    cases e : M[j]? with
    | none => rw [e] at h; cases h
    | some o =>
      cases o with
      | dct l' => rw [e] at h; cases h
      | lst l' =>
        rw [e] at h
        simp only [Option.some.injEq] at h
        exact .inr ⟨j, rfl, by rw [e, h]⟩
  | _ => simp [lstD] at h
theorem seqD_of {M : Mem} {d : D} {l : List D} (h : lstD M d = some l) : seqD M d = some l := by
  rcases lstD_cases h with rfl | ⟨j, rfl, e⟩
  · rfl
  · simp [seqD, e]
theorem ix_seq {M : Mem} {d : D} {l : List D} {i : Int} (h : seqD M d = some l) : ixD d (.int i) M = (match atI l i with | some d => .ok d M | none => .bad) := by
  rw [ixD_S (dctD_none h)]
  simp only [ixS, h] <;> (cases atI l i <;> rfl)
theorem ix_get {M : Mem} {d x : D} {l : List D} {i : Int} (h : seqD M d = some l) (e : atI l i = some x) : ixD d (.int i) M = .ok x M := by
  rw [ix_seq h, e]
theorem at_0 {A : Type} (x : A) (l : List A) : atI (x :: l) 0 = some x := atI_nat (j := 0) rfl
theorem at_1 {A : Type} (x y : A) (l : List A) : atI (x :: y :: l) 1 = some y := atI_nat (j := 1) rfl
theorem at_2 {A : Type} (x y z : A) (l : List A) : atI (x :: y :: z :: l) 2 = some z := atI_nat (j := 2) rfl
theorem ix_lst0 {M : Mem} {x : D} {l : List D} : ixD (.lst (x :: l)) (.int 0) M = .ok x M := ix_get rfl (at_0 x l)
theorem ix_tup0 {M : Mem} {x : D} {l : List D} : ixD (.tup (x :: l)) (.int 0) M = .ok x M := ix_get rfl (at_0 x l)
theorem ix_tup1 {M : Mem} {x y : D} {l : List D} : ixD (.tup (x :: y :: l)) (.int 1) M = .ok y M := ix_get rfl (at_1 x y l)
theorem ix_lst1 {M : Mem} {x y : D} {l : List D} : ixD (.lst (x :: y :: l)) (.int 1) M = .ok y M := ix_get rfl (at_1 x y l)
theorem cut_1 (l : List D) : cutD l (some 1) none = l.drop 1 := by
  unfold cutD
  rw [show HT.sIx l.length 0 (some 1) = min 1 l.length from HT.sIx_nat l.length 0 1, HT.sIx_none]
  cases l with
  | nil => rfl
  | cons x r =>
    rw [show min 1 (x :: r).length = 1 by rw [List.length_cons]; omega]
    show (List.take ((x :: r).length - 1) r) = r
    rw [List.length_cons, Nat.add_sub_cancel]
    exact List.take_length
theorem sl_of {M : Mem} {d : D} {l : List D} (h : lstD M d = some l) (lo hi : Option Int) : slD d lo hi M = .ok (.lst (cutD l lo hi)) M := by
  rcases lstD_cases h with rfl | ⟨j, rfl, e⟩ <;> simp only [slD, h]
theorem slT (l : List D) (lo hi : Option Int) (M : Mem) : slD (.tup l) lo hi M = .ok (.tup (cutD l lo hi)) M := rfl
theorem add_of {M : Mem} {d e : D} {l l' : List D} (h : lstD M d = some l) (h' : lstD M e = some l') (hz : l.length + l'.length ≤ LIM) : addD d e M = .ok (.lst (l ++ l')) M := by
  rcases lstD_cases h with rfl | ⟨j, rfl, q⟩ <;> rcases lstD_cases h' with rfl | ⟨j', rfl, q'⟩ <;> simp only [addD, h, h', hz, if_true]
theorem add_tup {a b : List D} (hz : a.length + b.length ≤ LIM) (M : Mem) : addD (.tup a) (.tup b) M = .ok (.tup (a ++ b)) M := by
  simp only [addD, hz, if_true]
theorem add_lst {a b : List D} (hz : a.length + b.length ≤ LIM) (M : Mem) : addD (.lst a) (.lst b) M = .ok (.lst (a ++ b)) M := add_of rfl rfl hz
theorem len_of {M : Mem} {d : D} {l : List D} (h : seqD M d = some l) : lenD [d] M = .ok (.int l.length) M := by
  cases d with
  | str s => simp [seqD] at h
  | _ => simp only [lenD, h]
theorem tup_of {M : Mem} {d : D} {l : List D} (h : lstD M d = some l) : toTupD [d] M = .ok (.tup l) M := by
  rcases lstD_cases h with rfl | ⟨j, rfl, q⟩ <;> simp only [toTupD, h]
theorem tup_tup (l : List D) (M : Mem) : toTupD [.tup l] M = .ok (.tup l) M := rfl
theorem toLst_of {M : Mem} {d : D} {l : List D} (h : seqD M d = some l) : toLstD false [d] M = .ok (.lst l) M := by
  simp only [toLstD, h]; rfl
theorem toLstM_of {M : Mem} {d : D} {l : List D} (h : seqD M d = some l) (b : D.noObjs l = true) : toLstD true [d] M = .ok (.obj M.length) (M ++ [.lst l]) := by
  simp only [toLstD, h, newO, bels_pure _ l b, if_true]
theorem newO_pure {l : List D} (b : D.noObjs l = true) (M : Mem) : newO l M = .ok (.obj M.length) (M ++ [.lst l]) := by
  simp only [newO, bels_pure _ l b, if_true]
theorem get_last {M X : Mem} {o : MO} : (M ++ o :: X)[M.length]? = some o := by
  rw [List.getElem?_append_right (Nat.le_refl _)]; simp
theorem lstD_last {M X : Mem} {l : List D} : lstD (M ++ .lst l :: X) (.obj M.length) = some l := by
  simp only [lstD, get_last]
theorem set_last {M X : Mem} {o o' : MO} : (M ++ o :: X).set M.length o' = M ++ o' :: X := by
  rw [List.set_append_right _ _ (Nat.le_refl _)]; simp
theorem app_last {M X : Mem} {l : List D} {v : D} (hz : l.length < LIM) (hv : D.noObj v = true) : appD (.obj M.length) v (M ++ .lst l :: X) = .ok .non (M ++ .lst (l ++ [v]) :: X) := by
  simp only [appD, get_last, hz, bel_pure _ v hv, and_self, if_true, set_last]
/-- a pair whose first is an object made since -/
theorem frz_last {M X : Mem} {l : List D} (b : D.noObjs l = true) : frzM (M ++ .lst l :: X) M.length 3 M.length = .lst l := by
  simp only [frzM, Nat.lt_irrefl, if_false, get_last, frzs_pure _ l b]
theorem lim_ok {n : Nat} (h : n ≤ 1000) : n ≤ LIM := by
  show n ≤ 16777216
  omega
@[simp] theorem noObjs_app (a b : List D) : D.noObjs (a ++ b) = (D.noObjs a && D.noObjs b) := by
  induction a with
  | nil => simp
  | cons d ds ih => simp [ih, Bool.and_assoc]
theorem noObjs_tail {a : List D} (h : D.noObjs a = true) : D.noObjs a.tail = true := by
  cases a with
  | nil => rfl
  | cons d ds => simp only [noObjs_cons, Bool.and_eq_true] at h; exact h.2
theorem noObjs_drop {a : List D} (h : D.noObjs a = true) : ∀ n, D.noObjs (a.drop n) = true := fun n => by
  induction n generalizing a with
  | zero => exact h
  | succ n ih =>
    cases a with
    | nil => rfl
    | cons d ds => simp only [noObjs_cons, Bool.and_eq_true] at h; exact ih h.2
@[simp] theorem noObjs_tail_ints (l : List Int) : D.noObjs (l.map D.int).tail = true := noObjs_tail (noObjs_ints l)
end RI

namespace RI
open PySem L2
/-! ### the laws' own stream of numbers -/
def mixG : MG := (gN 3)
def mixL : MS := (mAsg (mB modD (mBl toIntD (mCons (mB addD (mB addD (mB mulD (mVar 2) (mC (.int 48271))) (mB modD (mBl toIntD (mCons (mVar 3) mNil)) (mC (.int 2147483629)))) (mC (.int 1))) mNil)) (mC (.int 2147483647))) (gN 2))
def mixB : MS := (mSeq (mAsg (mVar 1) (gN 2))
 (mSeq (mFor (mSeqI (mVar 0)) mixG mixL)
 (mRet (mLstM (mCons (mVar 2) (mCons (mBl (toLstD true) (mCons (mVar 0) mNil)) (mCons (mC (.int 0)) mNil)))))))
def nextB : MS := (mSeq (mAsg (mB ixD (mB addD (mB ixD (mVar 0) (mC (.int 1))) (mLst (mCons (mC (.int 0)) mNil))) (mB modD (mBl toIntD (mCons (mB ixD (mVar 0) (mC (.int 2))) mNil)) (mBl max2D (mCons (mC (.int 1)) (mCons (mBl lenD (mCons (mB ixD (mVar 0) (mC (.int 1))) mNil)) mNil))))) (gN 2))
 (mSeq (mIfS (mTB (mB geD (mVar 2) (mB powD (mC (.int 10)) (mC (.int 18)))))
 (mSeq (mAsg (mB ixD (mVar 0) (mC (.int 1))) (gN 3))
 (mSeq (mAsg (mB fdivD (mVar 2) (mVar 1)) (gSb (mVar 3) (mB modD (mBl toIntD (mCons (mB ixD (mVar 0) (mC (.int 2))) mNil)) (mBl lenD (mCons (mVar 3) mNil)))))
 (mRet (mB modD (mBl toIntD (mCons (mVar 2) mNil)) (mVar 1)))))
 mSkip)
 (mSeq (mAsg (mB modD (mBl toIntD (mCons (mB addD (mB addD (mB mulD (mB ixD (mVar 0) (mC (.int 0))) (mC (.int 48271))) (mB mulD (mVar 2) (mC (.int 69621)))) (mC (.int 11))) mNil)) (mC (.int 2147483647))) (gSb (mVar 0) (mC (.int 0))))
 (mSeq (mAsg (mB addD (mB ixD (mVar 0) (mC (.int 2))) (mC (.int 1))) (gSb (mVar 0) (mC (.int 2))))
 (mRet (mB modD (mBl toIntD (mCons (mB fdivD (mB ixD (mVar 0) (mC (.int 0))) (mC (.int 7))) mNil)) (mVar 1)))))))
def memS (cells : List Int) (s i : Int) (rest : Mem) : Mem := .lst (cells.map D.int) :: .lst [.int s, .obj 0, .int i] :: rest
/-- the stream lies in objects 0 and 1 -/
def Hm (M rest : Mem) : Prop := ∃ cells s i, cells.length ≤ 63 ∧ M = memS cells s i rest
theorem cmul_s {i j : Int} (h : Nat.ble j.natAbs 18446744073709551615 = true) : cmul i j = true := by
  unfold cmul; rw [h, Bool.or_true]
@[simp] theorem toInt_i (i : Int) (M : Mem) : toIntD [.int i] M = .ok (.int i) M := (rfl)
theorem mul_a (i : Int) (M : Mem) : mulD (.int i) (.int 48271) M = .ok (.int (i * 48271)) M := mul_ii (cmul_s rfl) M
theorem mul_b (i : Int) (M : Mem) : mulD (.int i) (.int 69621) M = .ok (.int (i * 69621)) M := mul_ii (cmul_s rfl) M
theorem mix_loop (F : FT) (a b : Option D) (M : Mem) : ∀ (l : List Int) (s : Int) (z : Option D), ∃ s' z', forG none mixG mixL F (l.map D.int) [a, b, some (.int s), z] M = .ok (.next [a, b, some (.int s'), z']) M
  | [], s, z => ⟨s, z, rfl⟩
  | x :: l, s, z => by
    obtain ⟨s', z', ih⟩ := mix_loop F a b M l ((s * 48271 + x % 2147483629 + 1) % 2147483647) (some (.int x))
    refine ⟨s', z', ?_⟩
    rw [← ih]
    simp [forG, mixG, mixL, mul_a]
theorem mix_ok (F : FT) (ns : List Int) (seed : Int) (h : ns.length ≤ 63) : ∃ M, Hm M [] ∧ retOf true ([] : Mem).length (mixB F [some (.lst (ns.map .int)), some (.int seed), none, none] []) = .ok (.obj 1) M := by
  obtain ⟨s', z', e⟩ := mix_loop F (some (.lst (ns.map .int))) (some (.int seed)) [] ns seed none
  refine ⟨_, ⟨ns, s', 0, h, rfl⟩, ?_⟩
  have h1 := toLstM_of (M := []) (d := .lst (ns.map .int)) (l := ns.map .int) rfl (noObjs_ints ns)
  have h2 : newO [.int s', .obj 0, .int 0] [.lst (ns.map D.int)] = .ok (.obj 1) (memS ns s' 0 []) := rfl
  simp [mixB, e, h1, h2, LIM]
theorem pow_10 (M : Mem) : powD (.int 10) (.int 18) M = .ok (.int 1000000000000000000) M := by
  simp [powD]
theorem ixS0 {c : List Int} {s i : Int} {X : Mem} : ixD (.obj 1) (.int 0) (memS c s i X) = .ok (.int s) (memS c s i X) := ix_get (l := [.int s, .obj 0, .int i]) rfl (at_0 _ _)
theorem ixS1 {c : List Int} {s i : Int} {X : Mem} : ixD (.obj 1) (.int 1) (memS c s i X) = .ok (.obj 0) (memS c s i X) := ix_get (l := [.int s, .obj 0, .int i]) rfl (at_1 _ _ _)
theorem ixS2 {c : List Int} {s i : Int} {X : Mem} : ixD (.obj 1) (.int 2) (memS c s i X) = .ok (.int i) (memS c s i X) := ix_get (l := [.int s, .obj 0, .int i]) rfl (at_2 _ _ _ _)
theorem ixN_3_0 : ixN 3 0 = some 0 := by decide
theorem ixN_3_2 : ixN 3 2 = some 2 := by decide
theorem setS0 {c : List Int} {s i v : Int} {X : Mem} : setD (.obj 1) (.int 0) (.int v) (memS c s i X) = .ok () (memS c v i X) := by
  rw [setD_S rfl]; simp [setS, memS, ixN_3_0, D.bel]
theorem setS2 {c : List Int} {s i v : Int} {X : Mem} : setD (.obj 1) (.int 2) (.int v) (memS c s i X) = .ok () (memS c s v X) := by
  rw [setD_S rfl]; simp [setS, memS, ixN_3_2, D.bel]
theorem setSc {c : List Int} {s i v k : Int} {X : Mem} (h0 : 0 ≤ k) (h1 : k < c.length) : setD (.obj 0) (.int k) (.int v) (memS c s i X) = .ok () (memS (c.set k.toNat v) s i X) := by
  have e : ixN c.length k = some k.toNat := by
    unfold ixN
    simp [h0, h1]
  rw [setD_S rfl]; simp [setS, memS, e, D.bel, List.map_set]
theorem fin_memS {c c' : List Int} {s i s' i' r : Int} {X : Mem} : fin false (memS c s i X).length (.int r) (memS c' s' i' X) = .ok (.int r) (memS c' s' i' X) := by
  have e : (memS c s i X).length = (memS c' s' i' X).length := rfl
  rw [e]
  exact fin_same rfl
theorem next_ok (F : FT) (b : Int) (h1 : 1 ≤ b) (h2 : b < 1073741824) (M X : Mem) (h : Hm M X) : ∃ r M', 0 ≤ r ∧ r < b ∧ Hm M' X ∧ retOf false M.length (nextB F [some (.obj 1), some (.int b), none, none] M) = .ok (.int r) M' := by
  obtain ⟨c, s, i, hc, rfl⟩ := h
  have hb : 0 < b := by omega
  have hm : (0 : Int) < max 1 (c.length : Int) := by omega
  have k0 := Int.emod_nonneg i (Int.ne_of_gt hm)
  have k1 := Int.emod_lt_of_pos i hm
  have hadd : addD (.obj 0) (.lst [.int 0]) (memS c s i X) = .ok (.lst (c.map .int ++ [.int 0])) (memS c s i X) := 
    add_of (l := c.map .int) (l' := [.int 0]) rfl rfl (by simp [LIM]; omega)
  have hlen : lenD [.obj 0] (memS c s i X) = .ok (.int c.length) (memS c s i X) := by
    rw [len_of (l := c.map .int) rfl]; simp
  have hmax : ∀ M, max2D [.int 1, .int (c.length : Int)] M = .ok (.int (max 1 (c.length : Int))) M := by
    intro M; simp only [max2D]; congr 2; omega
  have hk : i % max 1 (c.length : Int) < (c ++ [0]).length := by simp; omega
  generalize hcell : (c ++ [0])[(i % max 1 (c.length : Int)).toNat]'(by omega) = cell
  have hix : ∀ M, ixD (.lst (c.map .int ++ [.int 0])) (.int (i % max 1 (c.length : Int))) M = .ok (.int cell) M := fun M => ix_get (l := (c ++ [0]).map .int) (by simp) (by
    rw [at_nat k0 (by simpa using hk), List.getElem_map, hcell])
  by_cases hg : (1000000000000000000 : Int) ≤ cell
  · have hne : c ≠ [] := by
      intro e
      subst e
      simp at hcell
      omega
    have hl : 0 < c.length := List.length_pos_iff.mpr hne
    have hl' : (0 : Int) < c.length := by omega
    refine ⟨cell % b, memS (c.set (i % (c.length : Int)).toNat (cell / b)) s i X, Int.emod_nonneg _ (by omega), Int.emod_lt_of_pos _ hb, ⟨_, _, _, by simpa using hc, rfl⟩, ?_⟩
    simp [LIM, nextB, ixS1, ixS2, hadd, hlen, hmax, hm, hix, pow_10, hg, hb, h2, hl, setSc (c := c) (s := s) (i := i) (X := X) (v := cell / b) (Int.emod_nonneg i (Int.ne_of_gt hl')) (Int.emod_lt_of_pos i hl'), fin_memS]
  · refine ⟨(((s * 48271 + cell * 69621 + 11) % 2147483647) / 7) % b, memS c ((s * 48271 + cell * 69621 + 11) % 2147483647) (i + 1) X, Int.emod_nonneg _ (by omega), Int.emod_lt_of_pos _ hb, ⟨_, _, _, hc, rfl⟩, ?_⟩
    simp [LIM, nextB, ixS0, ixS1, ixS2, hadd, hlen, hmax, hm, hix, pow_10, hg, hb, h2, mul_a, mul_b, setS0, setS2, fin_memS]
end RI

namespace K50
open PySem PySem.Spec PyProof.Rows L2 RI
def topS (i : Nat) : Stmt := PySem.Challenge.pw_stephouse_k50_whole_rules_that_part.main.body.getD i (.Pass ⟨0, 0, 0, 0⟩)
/-! is_from -/
def n_0 : List Str := ["value", "low", "high"]
def b_0 : MS := (mRet (mAndV (mIsi .int (mVar 0)) (mAndV (mNotV (mIsi .bool (mVar 0))) (mChain leD leD (mVar 1) (mVar 0) (mVar 2)))))
/-! check_page_rule -/
def n_1 : List Str := ["value"]
def b_1 : MS := (mIfS (mOr (mNot (mTru (mIsi .str (mVar 0)))) (mTB (mB (inD true) (mVar 0) (mC (.tup [(.str [102, 105, 114, 115, 116]), (.str [108, 97, 116, 101, 108, 121]), (.str [115, 101, 99, 111, 110, 100])])))))
 mNever
 mSkip)
/-! check_frames -/
def n_2 : List Str := ["value", "most"]
def b_2 : MS := (mIfS (mNot (mTru (mCall 0 (mCons (mVar 0) (mCons (mC (.int 1)) (mCons (mVar 1) mNil))))))
 mNever
 mSkip)
/-! check_uses -/
def fg_3_0 : MG := (gTp 2 (gsCons (gN 1) (gsCons (gN 2) gsNil)))
def fb_3_0 : MS := (mIfS (mNot (mTru (mCall 0 (mCons (mVar 2) (mCons (mC (.int 0)) (mCons (mC (.int 4)) mNil))))))
 mNever
 mSkip)
def n_3 : List Str := ["value", "place", "page"]
def b_3 : MS := (mSeq (mIfS (mOr (mNot (mTru (mIsi .tuple (mVar 0)))) (mTB (mB gtD (mBl lenD (mCons (mVar 0) mNil)) (mC (.int 200)))))
 mNever
 mSkip)
 (mFor (mEnum (mCons (mVar 0) mNil)) fg_3_0 fb_3_0))
/-! next_marked -/
def fg_4_0 : MG := (gTp 2 (gsCons (gN 4) (gsCons (gN 5) gsNil)))
def fb_4_0 : MS := (mIfS (mTB (mB (eqD false) (mB ixD (mVar 5) (mC (.int 0))) (mVar 2)))
 (mSeq (mAsg (mTup (mCons (mVar 2) (mCons (mC (.int 1)) mNil))) (gSb (mVar 3) (mVar 4)))
 (mRet (mTup (mCons (mBl toTupD (mCons (mVar 3) mNil)) (mCons (mC (.bl false)) mNil)))))
 mSkip)
def wc_4_1 : MT := (mTB (mB (eqD false) (mB ixD (mB ixD (mVar 3) (mC (.int 0))) (mC (.int 1))) (mC (.int 1))))
def wb_4_1 : MS := (mAsg (mB addD (mSl (mVar 3) (mPart (mC (.int 1))) mNoPart) (mLst (mCons (mTup (mCons (mB ixD (mB ixD (mVar 3) (mC (.int 0))) (mC (.int 0))) (mCons (mC (.int 0)) mNil))) mNil))) (gN 3))
def n_4 : List Str := ["frames", "held", "page", "row", "place", "own"]
def b_4 : MS := (mSeq (mAsg (mBl (toLstD true) (mCons (mVar 1) mNil)) (gN 3))
 (mSeq (mFor (mEnum (mCons (mVar 1) mNil)) fg_4_0 fb_4_0)
 (mSeq (mIfS (mTB (mB (eqD false) (mBl lenD (mCons (mVar 3) mNil)) (mVar 0)))
 (mSeq (mWhl wc_4_1 wb_4_1)
 (mAsg (mSl (mVar 3) (mPart (mC (.int 1))) mNoPart) (gN 3)))
 mSkip)
 (mRet (mTup (mCons (mBl toTupD (mCons (mB addD (mVar 3) (mLst (mCons (mTup (mCons (mVar 2) (mCons (mC (.int 0)) mNil))) mNil))) mNil)) (mCons (mC (.bl true)) mNil)))))))
/-! next_store -/
def lg_5_0 : MG := (gN 4)
def lt_5_0 : MT := (mTB (mB (eqD true) (mVar 4) (mVar 3)))
def le_5_0 : ME := (mVar 4)
def n_5 : List Str := ["rule", "frames", "held", "page", "own"]
def b_5 : MS := (mSeq (mIfS (mTB (mB (eqD false) (mVar 0) (mC (.str [115, 101, 99, 111, 110, 100]))))
 (mRet (mCall 4 (mCons (mVar 1) (mCons (mVar 2) (mCons (mVar 3) mNil)))))
 mSkip)
 (mSeq (mIfS (mTB (mB (inD false) (mVar 3) (mVar 2)))
 (mSeq (mIfS (mTB (mB (eqD false) (mVar 0) (mC (.str [102, 105, 114, 115, 116]))))
 (mRet (mTup (mCons (mVar 2) (mCons (mC (.bl false)) mNil))))
 mSkip)
 (mRet (mTup (mCons (mB addD (mBl toTupD (mCons (mLc (mSeqI (mVar 2)) lg_5_0 lt_5_0 le_5_0 [4]) mNil)) (mTup (mCons (mVar 3) mNil))) (mCons (mC (.bl false)) mNil)))))
 mSkip)
 (mSeq (mIfS (mTB (mB (eqD false) (mBl lenD (mCons (mVar 2) mNil)) (mVar 1)))
 (mRet (mTup (mCons (mB addD (mSl (mVar 2) (mPart (mC (.int 1))) mNoPart) (mTup (mCons (mVar 3) mNil))) (mCons (mC (.bl true)) mNil))))
 mSkip)
 (mRet (mTup (mCons (mB addD (mVar 2) (mTup (mCons (mVar 3) mNil))) (mCons (mC (.bl true)) mNil)))))))
/-! run_of -/
def fg_6_0 : MG := (gTp 2 (gsCons (gN 5) (gsCons (gN 6) gsNil)))
def fb_6_0 : MS := (mSeq (mAsg (mCall 5 (mCons (mVar 0) (mCons (mVar 1) (mCons (mVar 3) (mCons (mVar 6) mNil))))) (gTp 2 (gsCons (gN 3) (gsCons (gN 7) gsNil))))
 (mIfS (mTru (mVar 7))
 (mDrop (mApp (mVar 4) (mVar 5)))
 mSkip))
def n_6 : List Str := ["rule", "frames", "uses", "held", "found", "place", "page", "is_fault"]
def b_6 : MS := (mSeq (mAsg (mTup mNil) (gN 3))
 (mSeq (mAsg (mLstM mNil) (gN 4))
 (mSeq (mFor (mEnum (mCons (mVar 2) mNil)) fg_6_0 fb_6_0)
 (mRet (mTup (mCons (mVar 4) (mCons (mVar 3) mNil)))))))
/-! check_question -/
def n_7 : List Str := ["rule", "frames", "uses"]
def b_7 : MS := (mSeq (mDrop (mCall 1 (mCons (mVar 0) mNil)))
 (mSeq (mDrop (mCall 2 (mCons (mVar 1) (mCons (mC (.int 4)) mNil))))
 (mDrop (mCall 3 (mCons (mVar 2) mNil)))))
/-! faults -/
def n_8 : List Str := ["rule", "frames", "uses"]
def b_8 : MS := (mSeq (mDrop (mCall 7 (mCons (mVar 0) (mCons (mVar 1) (mCons (mVar 2) mNil)))))
 (mRet (mB ixD (mCall 6 (mCons (mVar 0) (mCons (mVar 1) (mCons (mVar 2) mNil)))) (mC (.int 0)))))
/-! check_many -/
def n_9 : List Str := ["value"]
def b_9 : MS := (mIfS (mNot (mTru (mCall 0 (mCons (mVar 0) (mCons (mC (.int 1)) (mCons (mB addD (mC (.int 4)) (mC (.int 1))) mNil))))))
 mNever
 mSkip)
/-! first_parting -/
def fg_10_0 : MG := (gN 10)
def fb_10_0 : MS := (mSeq (mAsg (mCall 5 (mCons (mVar 0) (mCons (mVar 2) (mCons (mVar 7) (mCons (mVar 10) mNil))))) (gTp 2 (gsCons (gN 11) (gsCons (gN 12) gsNil))))
 (mSeq (mAsg (mCall 5 (mCons (mVar 1) (mCons (mVar 2) (mCons (mVar 8) (mCons (mVar 10) mNil))))) (gTp 2 (gsCons (gN 13) (gsCons (gN 14) gsNil))))
 (mSeq (mIfS (mTB (mB (eqD true) (mVar 12) (mVar 14)))
 (mRet (mB addD (mVar 9) (mTup (mCons (mVar 10) mNil))))
 mSkip)
 (mIfS (mTB (mB (inD true) (mTup (mCons (mVar 11) (mCons (mVar 13) mNil))) (mVar 4)))
 (mSeq (mAsg (mC (.bl true)) (gSb (mVar 4) (mTup (mCons (mVar 11) (mCons (mVar 13) mNil)))))
 (mDrop (mApp (mVar 6) (mTup (mCons (mVar 11) (mCons (mVar 13) (mCons (mB addD (mVar 9) (mTup (mCons (mVar 10) mNil))) mNil)))))))
 mSkip))))
def fg_10_1 : MG := (gTp 3 (gsCons (gN 7) (gsCons (gN 8) (gsCons (gN 9) gsNil))))
def fb_10_1 : MS := (mFor (mRng1 (mCons (mVar 3) mNil)) fg_10_0 fb_10_0)
def wc_10_2 : MT := (mTru (mVar 5))
def wb_10_2 : MS := (mSeq (mAsg (mLstM mNil) (gN 6))
 (mSeq (mFor (mSeqI (mVar 5)) fg_10_1 fb_10_1)
 (mAsg (mBl (toLstD false) (mCons (mVar 6) mNil)) (gN 5))))
def n_10 : List Str := ["one", "other", "frames", "many", "seen", "waiting", "later", "first", "second", "uses", "page", "left", "is_one", "right", "is_other"]
def b_10 : MS := (mSeq (mDrop (mCall 1 (mCons (mVar 0) mNil)))
 (mSeq (mDrop (mCall 1 (mCons (mVar 1) mNil)))
 (mSeq (mDrop (mCall 2 (mCons (mVar 2) (mCons (mC (.int 4)) mNil))))
 (mSeq (mDrop (mCall 9 (mCons (mVar 3) mNil)))
 (mSeq (mAsg (mDct1 (mTup (mCons (mTup mNil) (mCons (mTup mNil) mNil))) (mC (.bl true))) (gN 4))
 (mSeq (mAsg (mLst (mCons (mTup (mCons (mTup mNil) (mCons (mTup mNil) (mCons (mTup mNil) mNil)))) mNil)) (gN 5))
 (mSeq (mWhl wc_10_2 wb_10_2)
 (mRet (mC .non)))))))))
/-! _law_mix -/
def fg_11_0 : MG := (gN 3)
def fb_11_0 : MS := (mAsg (mB modD (mBl toIntD (mCons (mB addD (mB addD (mB mulD (mVar 2) (mC (.int 48271))) (mB modD (mBl toIntD (mCons (mVar 3) mNil)) (mC (.int 2147483629)))) (mC (.int 1))) mNil)) (mC (.int 2147483647))) (gN 2))
def n_11 : List Str := ["_law_script", "_law_seed", "_law_state", "_law_cell"]
def b_11 : MS := (mSeq (mAsg (mVar 1) (gN 2))
 (mSeq (mFor (mSeqI (mVar 0)) fg_11_0 fb_11_0)
 (mRet (mLstM (mCons (mVar 2) (mCons (mBl (toLstD true) (mCons (mVar 0) mNil)) (mCons (mC (.int 0)) mNil)))))))
/-! _law_next -/
def n_12 : List Str := ["_law_h", "_law_bound", "_law_cell", "_law_cells"]
def b_12 : MS := (mSeq (mAsg (mB ixD (mB addD (mB ixD (mVar 0) (mC (.int 1))) (mLst (mCons (mC (.int 0)) mNil))) (mB modD (mBl toIntD (mCons (mB ixD (mVar 0) (mC (.int 2))) mNil)) (mBl max2D (mCons (mC (.int 1)) (mCons (mBl lenD (mCons (mB ixD (mVar 0) (mC (.int 1))) mNil)) mNil))))) (gN 2))
 (mSeq (mIfS (mTB (mB geD (mVar 2) (mB powD (mC (.int 10)) (mC (.int 18)))))
 (mSeq (mAsg (mB ixD (mVar 0) (mC (.int 1))) (gN 3))
 (mSeq (mAsg (mB fdivD (mVar 2) (mVar 1)) (gSb (mVar 3) (mB modD (mBl toIntD (mCons (mB ixD (mVar 0) (mC (.int 2))) mNil)) (mBl lenD (mCons (mVar 3) mNil)))))
 (mRet (mB modD (mBl toIntD (mCons (mVar 2) mNil)) (mVar 1)))))
 mSkip)
 (mSeq (mAsg (mB modD (mBl toIntD (mCons (mB addD (mB addD (mB mulD (mB ixD (mVar 0) (mC (.int 0))) (mC (.int 48271))) (mB mulD (mVar 2) (mC (.int 69621)))) (mC (.int 11))) mNil)) (mC (.int 2147483647))) (gSb (mVar 0) (mC (.int 0))))
 (mSeq (mAsg (mB addD (mB ixD (mVar 0) (mC (.int 2))) (mC (.int 1))) (gSb (mVar 0) (mC (.int 2))))
 (mRet (mB modD (mBl toIntD (mCons (mB fdivD (mB ixD (mVar 0) (mC (.int 0))) (mC (.int 7))) mNil)) (mVar 1)))))))
/-! _law_seconds -/
def lg_14_0 : MG := (gN 5)
def lt_14_0 : MT := (mTB (mB (eqD false) (mB ixD (mVar 5) (mC (.int 0))) (mVar 2)))
def le_14_0 : ME := (mVar 5)
def lg_14_1 : MG := (gN 5)
def lt_14_1 : MT := mYes
def le_14_1 : ME := (mIf (mTB (mB (eqD false) (mB ixD (mVar 5) (mC (.int 0))) (mVar 2))) (mTup (mCons (mVar 2) (mCons (mC (.int 1)) mNil))) (mVar 5))
def wc_14_2 : MT := (mTB (mB (eqD false) (mB ixD (mB ixD (mVar 4) (mC (.int 0))) (mC (.int 1))) (mC (.int 1))))
def wb_14_2 : MS := (mAsg (mB addD (mSl (mVar 4) (mPart (mC (.int 1))) mNoPart) (mLst (mCons (mTup (mCons (mB ixD (mB ixD (mVar 4) (mC (.int 0))) (mC (.int 0))) (mCons (mC (.int 0)) mNil))) mNil))) (gN 4))
def n_14 : List Str := ["_law_frames", "_law_row", "_law_page", "_law_here", "_law_left", "_law_one"]
def b_14 : MS := (mSeq (mAsg (mLc (mSeqI (mVar 1)) lg_14_0 lt_14_0 le_14_0 [5]) (gN 3))
 (mSeq (mIfS (mTB (mB (eqD true) (mVar 3) (mLst mNil)))
 (mRet (mLst (mCons (mLc (mSeqI (mVar 1)) lg_14_1 lt_14_1 le_14_1 [5]) (mCons (mC (.bl false)) mNil))))
 mSkip)
 (mSeq (mAsg (mBl (toLstD false) (mCons (mVar 1) mNil)) (gN 4))
 (mSeq (mIfS (mTB (mB (eqD false) (mBl lenD (mCons (mVar 4) mNil)) (mVar 0)))
 (mSeq (mWhl wc_14_2 wb_14_2)
 (mAsg (mSl (mVar 4) (mPart (mC (.int 1))) mNoPart) (gN 4)))
 mSkip)
 (mRet (mLst (mCons (mB addD (mVar 4) (mLst (mCons (mTup (mCons (mVar 2) (mCons (mC (.int 0)) mNil))) mNil))) (mCons (mC (.bl true)) mNil))))))))
/-! _law_use -/
def lg_15_0 : MG := (gN 4)
def lt_15_0 : MT := (mTB (mB (eqD true) (mVar 4) (mVar 3)))
def le_15_0 : ME := (mVar 4)
def n_15 : List Str := ["_law_rule", "_law_frames", "_law_row", "_law_page", "_law_one"]
def b_15 : MS := (mSeq (mIfS (mTB (mB (eqD false) (mVar 0) (mC (.str [115, 101, 99, 111, 110, 100]))))
 (mRet (mCall 14 (mCons (mVar 1) (mCons (mVar 2) (mCons (mVar 3) mNil)))))
 mSkip)
 (mSeq (mIfS (mTB (mB (inD false) (mVar 3) (mVar 2)))
 (mRet (mLst (mCons (mIf (mTB (mB (eqD false) (mVar 0) (mC (.str [108, 97, 116, 101, 108, 121])))) (mB addD (mLc (mSeqI (mVar 2)) lg_15_0 lt_15_0 le_15_0 [4]) (mLst (mCons (mVar 3) mNil))) (mVar 2)) (mCons (mC (.bl false)) mNil))))
 mSkip)
 (mRet (mLst (mCons (mB addD (mIf (mTB (mB ltD (mBl lenD (mCons (mVar 2) mNil)) (mVar 1))) (mVar 2) (mSl (mVar 2) (mPart (mC (.int 1))) mNoPart)) (mLst (mCons (mVar 3) mNil))) (mCons (mC (.bl true)) mNil))))))
/-! _law_search -/
def fg_17_0 : MG := (gN 10)
def fb_17_0 : MS := (mSeq (mAsg (mCall 15 (mCons (mVar 0) (mCons (mVar 2) (mCons (mBl (toLstD false) (mCons (mVar 7) mNil)) (mCons (mVar 10) mNil))))) (gTp 2 (gsCons (gN 12) (gsCons (gN 13) gsNil))))
 (mSeq (mAsg (mCall 15 (mCons (mVar 1) (mCons (mVar 2) (mCons (mBl (toLstD false) (mCons (mVar 8) mNil)) (mCons (mVar 10) mNil))))) (gTp 2 (gsCons (gN 14) (gsCons (gN 15) gsNil))))
 (mSeq (mIfS (mTB (mB (eqD true) (mVar 13) (mVar 15)))
 (mRet (mB addD (mVar 9) (mTup (mCons (mVar 10) mNil))))
 mSkip)
 (mSeq (mAsg (mTup (mCons (mBl toTupD (mCons (mVar 12) mNil)) (mCons (mBl toTupD (mCons (mVar 14) mNil)) mNil))) (gN 11))
 (mIfS (mTB (mB (inD true) (mVar 11) (mVar 4)))
 (mSeq (mAsg (mC (.bl true)) (gSb (mVar 4) (mVar 11)))
 (mDrop (mApp (mVar 6) (mB addD (mVar 11) (mTup (mCons (mB addD (mVar 9) (mTup (mCons (mVar 10) mNil))) mNil))))))
 mSkip)))))
def fg_17_1 : MG := (gTp 3 (gsCons (gN 7) (gsCons (gN 8) (gsCons (gN 9) gsNil))))
def fb_17_1 : MS := (mFor (mRng1 (mCons (mVar 3) mNil)) fg_17_0 fb_17_0)
def wc_17_2 : MT := (mTB (mB (eqD true) (mVar 5) (mLst mNil)))
def wb_17_2 : MS := (mSeq (mAsg (mLstM mNil) (gN 6))
 (mSeq (mFor (mSeqI (mVar 5)) fg_17_1 fb_17_1)
 (mAsg (mVar 6) (gN 5))))
def n_17 : List Str := ["_law_one", "_law_other", "_law_frames", "_law_many", "_law_seen", "_law_queued", "_law_later", "_law_first", "_law_second", "_law_uses_here", "_law_page", "_law_both", "_law_left", "_law_a", "_law_right", "_law_b"]
def b_17 : MS := (mSeq (mPar 4 5 (mCons (mDct1 (mTup (mCons (mTup mNil) (mCons (mTup mNil) mNil))) (mC (.bl true))) (mCons (mLst (mCons (mTup (mCons (mTup mNil) (mCons (mTup mNil) (mCons (mTup mNil) mNil)))) mNil)) mNil)))
 (mSeq (mWhl wc_17_2 wb_17_2)
 (mRet (mC .non))))
/-! law -/
def n_18 : List Str := ["_law_script", "_law_h", "_law_rules", "_law_told", "_law_one", "_law_other", "_law_frames", "_law_many"]
def b_18 : MS := (mSeq (mAsg (mCall 11 (mCons (mVar 0) (mCons (mC (.int 50)) mNil))) (gN 1))
 (mSeq (mAsg (mLst (mCons (mC (.str [102, 105, 114, 115, 116])) (mCons (mC (.str [108, 97, 116, 101, 108, 121])) (mCons (mC (.str [115, 101, 99, 111, 110, 100])) mNil)))) (gN 2))
 (mSeq (mPar 4 5 (mCons (mB ixD (mVar 2) (mCall 12 (mCons (mVar 1) (mCons (mC (.int 3)) mNil)))) (mCons (mB ixD (mVar 2) (mCall 12 (mCons (mVar 1) (mCons (mC (.int 3)) mNil)))) mNil)))
 (mSeq (mPar 6 7 (mCons (mB addD (mC (.int 1)) (mCall 12 (mCons (mVar 1) (mCons (mC (.int 4)) mNil)))) (mCons (mB addD (mC (.int 1)) (mCall 12 (mCons (mVar 1) (mCons (mC (.int 5)) mNil)))) mNil)))
 (mSeq (mAsg (mCall 10 (mCons (mVar 4) (mCons (mVar 5) (mCons (mVar 6) (mCons (mVar 7) mNil))))) (gN 3))
 (mSeq (mIfS (mTB (mB (eqD true) (mVar 3) (mCall 10 (mCons (mVar 5) (mCons (mVar 4) (mCons (mVar 6) (mCons (mVar 7) mNil)))))))
 (mRet (mC (.bl false)))
 mSkip)
 (mSeq (mIfS (mOr (mTB (mB (eqD false) (mVar 4) (mVar 5))) (mOr (mTB (mB (eqD false) (mVar 6) (mC (.int 1)))) (mTB (mB leD (mVar 7) (mVar 6)))))
 (mRet (mB (isD false) (mVar 3) (mC .non)))
 mSkip)
 (mSeq (mIfS (mAnd (mTB (mB (isD true) (mVar 3) (mC .non))) (mTB (mB (eqD false) (mBl lenD (mCons (mCall 8 (mCons (mVar 4) (mCons (mVar 6) (mCons (mVar 3) mNil)))) mNil)) (mBl lenD (mCons (mCall 8 (mCons (mVar 5) (mCons (mVar 6) (mCons (mVar 3) mNil)))) mNil)))))
 (mRet (mC (.bl false)))
 mSkip)
 (mRet (mB (eqD false) (mVar 3) (mCall 17 (mCons (mVar 4) (mCons (mVar 5) (mCons (mVar 6) (mCons (mVar 7) mNil)))))))))))))))
def tFns : List Fn := [⟨"is_from", ["value", "low", "high"], n_0, b_0, false⟩,
  ⟨"check_page_rule", ["value"], n_1, b_1, false⟩,
  ⟨"check_frames", ["value", "most"], n_2, b_2, false⟩,
  ⟨"check_uses", ["value"], n_3, b_3, false⟩,
  ⟨"next_marked", ["frames", "held", "page"], n_4, b_4, false⟩,
  ⟨"next_store", ["rule", "frames", "held", "page"], n_5, b_5, false⟩,
  ⟨"run_of", ["rule", "frames", "uses"], n_6, b_6, false⟩,
  ⟨"check_question", ["rule", "frames", "uses"], n_7, b_7, false⟩,
  ⟨"faults", ["rule", "frames", "uses"], n_8, b_8, false⟩,
  ⟨"check_many", ["value"], n_9, b_9, false⟩,
  ⟨"first_parting", ["one", "other", "frames", "many"], n_10, b_10, false⟩,
  ⟨"_law_mix", ["_law_script", "_law_seed"], n_11, b_11, true⟩,
  ⟨"_law_next", ["_law_h", "_law_bound"], n_12, b_12, false⟩,
  ⟨"is_from", ["value", "low", "high"], n_0, b_0, false⟩,
  ⟨"_law_seconds", ["_law_frames", "_law_row", "_law_page"], n_14, b_14, false⟩,
  ⟨"_law_use", ["_law_rule", "_law_frames", "_law_row", "_law_page"], n_15, b_15, false⟩,
  ⟨"is_from", ["value", "low", "high"], n_0, b_0, false⟩,
  ⟨"_law_search", ["_law_one", "_law_other", "_law_frames", "_law_many"], n_17, b_17, false⟩,
  ⟨"law", ["_law_script"], n_18, b_18, false⟩]
def tCon : List (Str × D) := [("FIRST", (.str [102, 105, 114, 115, 116])), ("SECOND", (.str [115, 101, 99, 111, 110, 100])), ("RULES", (.tup [(.str [102, 105, 114, 115, 116]), (.str [108, 97, 116, 101, 108, 121]), (.str [115, 101, 99, 111, 110, 100])])), ("MOST_PAGE", (.int 4)), ("MOST_FRAMES", (.int 4)), ("MOST_USES", (.int 200))]
def tBlt : List Str := ["len", "int", "tuple", "list", "max", "min", "isinstance", "bool", "str", "dict", "range", "enumerate", "zip", "sorted"]
def tb : Tb := ⟨tFns, tCon, tBlt⟩
theorem u_0 (n : Nat) (x0 x1 x2 : D) (M : Mem) : callF tb (n + 1) 0 [x0, x1, x2] M = retOf false M.length (b_0 (callF tb n) [some x0, some x1, some x2] M) := rfl
theorem u_1 (n : Nat) (x0 : D) (M : Mem) : callF tb (n + 1) 1 [x0] M = retOf false M.length (b_1 (callF tb n) [some x0] M) := rfl
theorem u_2 (n : Nat) (x0 x1 : D) (M : Mem) : callF tb (n + 1) 2 [x0, x1] M = retOf false M.length (b_2 (callF tb n) [some x0, some x1] M) := rfl
theorem u_3 (n : Nat) (x0 : D) (M : Mem) : callF tb (n + 1) 3 [x0] M = retOf false M.length (b_3 (callF tb n) [some x0, none, none] M) := rfl
theorem u_4 (n : Nat) (x0 x1 x2 : D) (M : Mem) : callF tb (n + 1) 4 [x0, x1, x2] M = retOf false M.length (b_4 (callF tb n) [some x0, some x1, some x2, none, none, none] M) := rfl
theorem u_5 (n : Nat) (x0 x1 x2 x3 : D) (M : Mem) : callF tb (n + 1) 5 [x0, x1, x2, x3] M = retOf false M.length (b_5 (callF tb n) [some x0, some x1, some x2, some x3, none] M) := rfl
theorem u_6 (n : Nat) (x0 x1 x2 : D) (M : Mem) : callF tb (n + 1) 6 [x0, x1, x2] M = retOf false M.length (b_6 (callF tb n) [some x0, some x1, some x2, none, none, none, none, none] M) := rfl
theorem u_7 (n : Nat) (x0 x1 x2 : D) (M : Mem) : callF tb (n + 1) 7 [x0, x1, x2] M = retOf false M.length (b_7 (callF tb n) [some x0, some x1, some x2] M) := rfl
theorem u_8 (n : Nat) (x0 x1 x2 : D) (M : Mem) : callF tb (n + 1) 8 [x0, x1, x2] M = retOf false M.length (b_8 (callF tb n) [some x0, some x1, some x2] M) := rfl
theorem u_9 (n : Nat) (x0 : D) (M : Mem) : callF tb (n + 1) 9 [x0] M = retOf false M.length (b_9 (callF tb n) [some x0] M) := rfl
theorem u_10 (n : Nat) (x0 x1 x2 x3 : D) (M : Mem) : callF tb (n + 1) 10 [x0, x1, x2, x3] M = retOf false M.length (b_10 (callF tb n) [some x0, some x1, some x2, some x3, none, none, none, none, none, none, none, none, none, none, none] M) := rfl
theorem u_11 (n : Nat) (x0 x1 : D) (M : Mem) : callF tb (n + 1) 11 [x0, x1] M = retOf true M.length (b_11 (callF tb n) [some x0, some x1, none, none] M) := rfl
theorem u_12 (n : Nat) (x0 x1 : D) (M : Mem) : callF tb (n + 1) 12 [x0, x1] M = retOf false M.length (b_12 (callF tb n) [some x0, some x1, none, none] M) := rfl
theorem u_14 (n : Nat) (x0 x1 x2 : D) (M : Mem) : callF tb (n + 1) 14 [x0, x1, x2] M = retOf false M.length (b_14 (callF tb n) [some x0, some x1, some x2, none, none, none] M) := rfl
theorem u_15 (n : Nat) (x0 x1 x2 x3 : D) (M : Mem) : callF tb (n + 1) 15 [x0, x1, x2, x3] M = retOf false M.length (b_15 (callF tb n) [some x0, some x1, some x2, some x3, none] M) := rfl
theorem u_17 (n : Nat) (x0 x1 x2 x3 : D) (M : Mem) : callF tb (n + 1) 17 [x0, x1, x2, x3] M = retOf false M.length (b_17 (callF tb n) [some x0, some x1, some x2, some x3, none, none, none, none, none, none, none, none, none, none, none, none] M) := rfl
theorem u_18 (n : Nat) (x0 : D) (M : Mem) : callF tb (n + 1) 18 [x0] M = retOf false M.length (b_18 (callF tb n) [some x0, none, none, none, none, none, none, none] M) := rfl
def mt_0 : List (Nat × Nat) := []
theorem c_0 : OkSs tb ⟨defScope (topS 14), n_0, fun _ => true, mt_0⟩ (defBody (topS 14)) b_0 := cSs_ok tb (n := 60) (by kernel_rfl)
theorem sc_0 : FnScope n_0 ["value", "low", "high"] (defScope (topS 14)) := ⟨rfl, rfl, rfl, by decide +kernel, rfl, by decide +kernel, by decide +kernel⟩
def mt_1 : List (Nat × Nat) := []
theorem c_1 : OkSs tb ⟨defScope (topS 15), n_1, fun _ => true, mt_1⟩ (defBody (topS 15)) b_1 := cSs_ok tb (n := 60) (by kernel_rfl)
theorem sc_1 : FnScope n_1 ["value"] (defScope (topS 15)) := ⟨rfl, rfl, rfl, by decide +kernel, rfl, by decide +kernel, by decide +kernel⟩
def mt_2 : List (Nat × Nat) := []
theorem c_2 : OkSs tb ⟨defScope (topS 16), n_2, fun _ => true, mt_2⟩ (defBody (topS 16)) b_2 := cSs_ok tb (n := 60) (by kernel_rfl)
theorem sc_2 : FnScope n_2 ["value", "most"] (defScope (topS 16)) := ⟨rfl, rfl, rfl, by decide +kernel, rfl, by decide +kernel, by decide +kernel⟩
def mt_3 : List (Nat × Nat) := []
theorem c_3 : OkSs tb ⟨defScope (topS 17), n_3, fun _ => true, mt_3⟩ (defBody (topS 17)) b_3 := cSs_ok tb (n := 60) (by kernel_rfl)
theorem sc_3 : FnScope n_3 ["value"] (defScope (topS 17)) := ⟨rfl, rfl, rfl, by decide +kernel, rfl, by decide +kernel, by decide +kernel⟩
def mt_4 : List (Nat × Nat) := [(37, 10)]
theorem c_4 : OkSs tb ⟨defScope (topS 18), n_4, fun _ => true, mt_4⟩ (defBody (topS 18)) b_4 := cSs_ok tb (n := 60) (by kernel_rfl)
theorem sc_4 : FnScope n_4 ["frames", "held", "page"] (defScope (topS 18)) := ⟨rfl, rfl, rfl, by decide +kernel, rfl, by decide +kernel, by decide +kernel⟩
def mt_5 : List (Nat × Nat) := []
theorem c_5 : OkSs tb ⟨defScope (topS 19), n_5, fun _ => true, mt_5⟩ (defBody (topS 19)) b_5 := cSs_ok tb (n := 60) (by kernel_rfl)
theorem sc_5 : FnScope n_5 ["rule", "frames", "held", "page"] (defScope (topS 19)) := ⟨rfl, rfl, rfl, by decide +kernel, rfl, by decide +kernel, by decide +kernel⟩
def mt_6 : List (Nat × Nat) := [(59, 12)]
theorem c_6 : OkSs tb ⟨defScope (topS 20), n_6, fun _ => true, mt_6⟩ (defBody (topS 20)) b_6 := cSs_ok tb (n := 60) (by kernel_rfl)
theorem sc_6 : FnScope n_6 ["rule", "frames", "uses"] (defScope (topS 20)) := ⟨rfl, rfl, rfl, by decide +kernel, rfl, by decide +kernel, by decide +kernel⟩
def mt_7 : List (Nat × Nat) := []
theorem c_7 : OkSs tb ⟨defScope (topS 21), n_7, fun _ => true, mt_7⟩ (defBody (topS 21)) b_7 := cSs_ok tb (n := 60) (by kernel_rfl)
theorem sc_7 : FnScope n_7 ["rule", "frames", "uses"] (defScope (topS 21)) := ⟨rfl, rfl, rfl, by decide +kernel, rfl, by decide +kernel, by decide +kernel⟩
def mt_8 : List (Nat × Nat) := []
theorem c_8 : OkSs tb ⟨defScope (topS 22), n_8, fun _ => true, mt_8⟩ (defBody (topS 22)) b_8 := cSs_ok tb (n := 60) (by kernel_rfl)
theorem sc_8 : FnScope n_8 ["rule", "frames", "uses"] (defScope (topS 22)) := ⟨rfl, rfl, rfl, by decide +kernel, rfl, by decide +kernel, by decide +kernel⟩
def mt_9 : List (Nat × Nat) := []
theorem c_9 : OkSs tb ⟨defScope (topS 24), n_9, fun _ => true, mt_9⟩ (defBody (topS 24)) b_9 := cSs_ok tb (n := 60) (by kernel_rfl)
theorem sc_9 : FnScope n_9 ["value"] (defScope (topS 24)) := ⟨rfl, rfl, rfl, by decide +kernel, rfl, by decide +kernel, by decide +kernel⟩
def mt_10 : List (Nat × Nat) := [(84, 16)]
theorem c_10 : OkSs tb ⟨defScope (topS 25), n_10, fun _ => true, mt_10⟩ (defBody (topS 25)) b_10 := cSs_ok tb (n := 60) (by kernel_rfl)
theorem sc_10 : FnScope n_10 ["one", "other", "frames", "many"] (defScope (topS 25)) := ⟨rfl, rfl, rfl, by decide +kernel, rfl, by decide +kernel, by decide +kernel⟩
def mt_11 : List (Nat × Nat) := [(101, 11), (101, 24)]
theorem c_11 : OkSs tb ⟨defScope (topS 27), n_11, fun _ => true, mt_11⟩ (defBody (topS 27)) b_11 := cSs_ok tb (n := 60) (by kernel_rfl)
theorem sc_11 : FnScope n_11 ["_law_script", "_law_seed"] (defScope (topS 27)) := ⟨rfl, rfl, rfl, by decide +kernel, rfl, by decide +kernel, by decide +kernel⟩
def mt_12 : List (Nat × Nat) := []
theorem c_12 : OkSs tb ⟨defScope (topS 28), n_12, fun _ => true, mt_12⟩ (defBody (topS 28)) b_12 := cSs_ok tb (n := 60) (by kernel_rfl)
theorem sc_12 : FnScope n_12 ["_law_h", "_law_bound"] (defScope (topS 28)) := ⟨rfl, rfl, rfl, by decide +kernel, rfl, by decide +kernel, by decide +kernel⟩
def mt_14 : List (Nat × Nat) := []
theorem c_14 : OkSs tb ⟨defScope (topS 30), n_14, fun _ => true, mt_14⟩ (defBody (topS 30)) b_14 := cSs_ok tb (n := 60) (by kernel_rfl)
theorem sc_14 : FnScope n_14 ["_law_frames", "_law_row", "_law_page"] (defScope (topS 30)) := ⟨rfl, rfl, rfl, by decide +kernel, rfl, by decide +kernel, by decide +kernel⟩
def mt_15 : List (Nat × Nat) := []
theorem c_15 : OkSs tb ⟨defScope (topS 31), n_15, fun _ => true, mt_15⟩ (defBody (topS 31)) b_15 := cSs_ok tb (n := 60) (by kernel_rfl)
theorem sc_15 : FnScope n_15 ["_law_rule", "_law_frames", "_law_row", "_law_page"] (defScope (topS 31)) := ⟨rfl, rfl, rfl, by decide +kernel, rfl, by decide +kernel, by decide +kernel⟩
def mt_17 : List (Nat × Nat) := [(145, 21)]
theorem c_17 : OkSs tb ⟨defScope (topS 33), n_17, fun _ => true, mt_17⟩ (defBody (topS 33)) b_17 := cSs_ok tb (n := 60) (by kernel_rfl)
theorem sc_17 : FnScope n_17 ["_law_one", "_law_other", "_law_frames", "_law_many"] (defScope (topS 33)) := ⟨rfl, rfl, rfl, by decide +kernel, rfl, by decide +kernel, by decide +kernel⟩
def mt_18 : List (Nat × Nat) := []
theorem c_18 : OkSs tb ⟨defScope (topS 34), n_18, fun _ => true, mt_18⟩ (defBody (topS 34)) b_18 := cSs_ok tb (n := 60) (by kernel_rfl)
theorem sc_18 : FnScope n_18 ["_law_script"] (defScope (topS 34)) := ⟨rfl, rfl, rfl, by decide +kernel, rfl, by decide +kernel, by decide +kernel⟩
theorem all_mk {l : PySem.W.OpenLaw} {w : World} {K : PySem.W.Frag} {h : Heap} {mg : Str → Option Value} {fa : Addr} (X : K.In h) (G : h.Ns mainGlobals mg) (hfa : mg "law" = some (.ref fa))
    {f0 : Addr} {oc0 : Value} {od0 an0 : Option Addr} {sl0 : Array (Option Value)} {kV0 dc0 pm0 cd0 ct0 : Value}
    (a0 : PySem.W.nsIn K mainGlobals "is_from" = some (some (.ref f0))) (l0 : K.lookup f0 = some ⟨oc0, od0, .func (PySem.W.fnOf "is_from" "is_from" (defArgs (topS 14)) (defBody (topS 14)) (defScope (topS 14)) .none kV0 dc0 pm0 an0 cd0 ct0), sl0⟩) (c0 : PySem.W.codeIn K cd0 "is_from" = true) (k0 : PySem.W.keepIn K (.ref f0) = true)
    {f1 : Addr} {oc1 : Value} {od1 an1 : Option Addr} {sl1 : Array (Option Value)} {kV1 dc1 pm1 cd1 ct1 : Value}
    (a1 : PySem.W.nsIn K mainGlobals "check_page_rule" = some (some (.ref f1))) (l1 : K.lookup f1 = some ⟨oc1, od1, .func (PySem.W.fnOf "check_page_rule" "check_page_rule" (defArgs (topS 15)) (defBody (topS 15)) (defScope (topS 15)) .none kV1 dc1 pm1 an1 cd1 ct1), sl1⟩) (c1 : PySem.W.codeIn K cd1 "check_page_rule" = true) (k1 : PySem.W.keepIn K (.ref f1) = true)
    {f2 : Addr} {oc2 : Value} {od2 an2 : Option Addr} {sl2 : Array (Option Value)} {kV2 dc2 pm2 cd2 ct2 : Value}
    (a2 : PySem.W.nsIn K mainGlobals "check_frames" = some (some (.ref f2))) (l2 : K.lookup f2 = some ⟨oc2, od2, .func (PySem.W.fnOf "check_frames" "check_frames" (defArgs (topS 16)) (defBody (topS 16)) (defScope (topS 16)) .none kV2 dc2 pm2 an2 cd2 ct2), sl2⟩) (c2 : PySem.W.codeIn K cd2 "check_frames" = true) (k2 : PySem.W.keepIn K (.ref f2) = true)
    {f3 : Addr} {oc3 : Value} {od3 an3 : Option Addr} {sl3 : Array (Option Value)} {kV3 dc3 pm3 cd3 ct3 : Value}
    (a3 : PySem.W.nsIn K mainGlobals "check_uses" = some (some (.ref f3))) (l3 : K.lookup f3 = some ⟨oc3, od3, .func (PySem.W.fnOf "check_uses" "check_uses" (defArgs (topS 17)) (defBody (topS 17)) (defScope (topS 17)) .none kV3 dc3 pm3 an3 cd3 ct3), sl3⟩) (c3 : PySem.W.codeIn K cd3 "check_uses" = true) (k3 : PySem.W.keepIn K (.ref f3) = true)
    {f4 : Addr} {oc4 : Value} {od4 an4 : Option Addr} {sl4 : Array (Option Value)} {kV4 dc4 pm4 cd4 ct4 : Value}
    (a4 : PySem.W.nsIn K mainGlobals "next_marked" = some (some (.ref f4))) (l4 : K.lookup f4 = some ⟨oc4, od4, .func (PySem.W.fnOf "next_marked" "next_marked" (defArgs (topS 18)) (defBody (topS 18)) (defScope (topS 18)) .none kV4 dc4 pm4 an4 cd4 ct4), sl4⟩) (c4 : PySem.W.codeIn K cd4 "next_marked" = true) (k4 : PySem.W.keepIn K (.ref f4) = true)
    {f5 : Addr} {oc5 : Value} {od5 an5 : Option Addr} {sl5 : Array (Option Value)} {kV5 dc5 pm5 cd5 ct5 : Value}
    (a5 : PySem.W.nsIn K mainGlobals "next_store" = some (some (.ref f5))) (l5 : K.lookup f5 = some ⟨oc5, od5, .func (PySem.W.fnOf "next_store" "next_store" (defArgs (topS 19)) (defBody (topS 19)) (defScope (topS 19)) .none kV5 dc5 pm5 an5 cd5 ct5), sl5⟩) (c5 : PySem.W.codeIn K cd5 "next_store" = true) (k5 : PySem.W.keepIn K (.ref f5) = true)
    {f6 : Addr} {oc6 : Value} {od6 an6 : Option Addr} {sl6 : Array (Option Value)} {kV6 dc6 pm6 cd6 ct6 : Value}
    (a6 : PySem.W.nsIn K mainGlobals "run_of" = some (some (.ref f6))) (l6 : K.lookup f6 = some ⟨oc6, od6, .func (PySem.W.fnOf "run_of" "run_of" (defArgs (topS 20)) (defBody (topS 20)) (defScope (topS 20)) .none kV6 dc6 pm6 an6 cd6 ct6), sl6⟩) (c6 : PySem.W.codeIn K cd6 "run_of" = true) (k6 : PySem.W.keepIn K (.ref f6) = true)
    {f7 : Addr} {oc7 : Value} {od7 an7 : Option Addr} {sl7 : Array (Option Value)} {kV7 dc7 pm7 cd7 ct7 : Value}
    (a7 : PySem.W.nsIn K mainGlobals "check_question" = some (some (.ref f7))) (l7 : K.lookup f7 = some ⟨oc7, od7, .func (PySem.W.fnOf "check_question" "check_question" (defArgs (topS 21)) (defBody (topS 21)) (defScope (topS 21)) .none kV7 dc7 pm7 an7 cd7 ct7), sl7⟩) (c7 : PySem.W.codeIn K cd7 "check_question" = true) (k7 : PySem.W.keepIn K (.ref f7) = true)
    {f8 : Addr} {oc8 : Value} {od8 an8 : Option Addr} {sl8 : Array (Option Value)} {kV8 dc8 pm8 cd8 ct8 : Value}
    (a8 : PySem.W.nsIn K mainGlobals "faults" = some (some (.ref f8))) (l8 : K.lookup f8 = some ⟨oc8, od8, .func (PySem.W.fnOf "faults" "faults" (defArgs (topS 22)) (defBody (topS 22)) (defScope (topS 22)) .none kV8 dc8 pm8 an8 cd8 ct8), sl8⟩) (c8 : PySem.W.codeIn K cd8 "faults" = true) (k8 : PySem.W.keepIn K (.ref f8) = true)
    {f9 : Addr} {oc9 : Value} {od9 an9 : Option Addr} {sl9 : Array (Option Value)} {kV9 dc9 pm9 cd9 ct9 : Value}
    (a9 : PySem.W.nsIn K mainGlobals "check_many" = some (some (.ref f9))) (l9 : K.lookup f9 = some ⟨oc9, od9, .func (PySem.W.fnOf "check_many" "check_many" (defArgs (topS 24)) (defBody (topS 24)) (defScope (topS 24)) .none kV9 dc9 pm9 an9 cd9 ct9), sl9⟩) (c9 : PySem.W.codeIn K cd9 "check_many" = true) (k9 : PySem.W.keepIn K (.ref f9) = true)
    {f10 : Addr} {oc10 : Value} {od10 an10 : Option Addr} {sl10 : Array (Option Value)} {kV10 dc10 pm10 cd10 ct10 : Value}
    (a10 : PySem.W.nsIn K mainGlobals "first_parting" = some (some (.ref f10))) (l10 : K.lookup f10 = some ⟨oc10, od10, .func (PySem.W.fnOf "first_parting" "first_parting" (defArgs (topS 25)) (defBody (topS 25)) (defScope (topS 25)) .none kV10 dc10 pm10 an10 cd10 ct10), sl10⟩) (c10 : PySem.W.codeIn K cd10 "first_parting" = true) (k10 : PySem.W.keepIn K (.ref f10) = true)
    {f11 : Addr} {oc11 : Value} {od11 an11 : Option Addr} {sl11 : Array (Option Value)} {kV11 dc11 pm11 cd11 ct11 : Value}
    (a11 : PySem.W.nsIn K mainGlobals "_law_mix" = some (some (.ref f11))) (l11 : K.lookup f11 = some ⟨oc11, od11, .func (PySem.W.fnOf "_law_mix" "_law_mix" (defArgs (topS 27)) (defBody (topS 27)) (defScope (topS 27)) .none kV11 dc11 pm11 an11 cd11 ct11), sl11⟩) (c11 : PySem.W.codeIn K cd11 "_law_mix" = true) (k11 : PySem.W.keepIn K (.ref f11) = true)
    {f12 : Addr} {oc12 : Value} {od12 an12 : Option Addr} {sl12 : Array (Option Value)} {kV12 dc12 pm12 cd12 ct12 : Value}
    (a12 : PySem.W.nsIn K mainGlobals "_law_next" = some (some (.ref f12))) (l12 : K.lookup f12 = some ⟨oc12, od12, .func (PySem.W.fnOf "_law_next" "_law_next" (defArgs (topS 28)) (defBody (topS 28)) (defScope (topS 28)) .none kV12 dc12 pm12 an12 cd12 ct12), sl12⟩) (c12 : PySem.W.codeIn K cd12 "_law_next" = true) (k12 : PySem.W.keepIn K (.ref f12) = true)
    {f14 : Addr} {oc14 : Value} {od14 an14 : Option Addr} {sl14 : Array (Option Value)} {kV14 dc14 pm14 cd14 ct14 : Value}
    (a14 : PySem.W.nsIn K mainGlobals "_law_seconds" = some (some (.ref f14))) (l14 : K.lookup f14 = some ⟨oc14, od14, .func (PySem.W.fnOf "_law_seconds" "_law_seconds" (defArgs (topS 30)) (defBody (topS 30)) (defScope (topS 30)) .none kV14 dc14 pm14 an14 cd14 ct14), sl14⟩) (c14 : PySem.W.codeIn K cd14 "_law_seconds" = true) (k14 : PySem.W.keepIn K (.ref f14) = true)
    {f15 : Addr} {oc15 : Value} {od15 an15 : Option Addr} {sl15 : Array (Option Value)} {kV15 dc15 pm15 cd15 ct15 : Value}
    (a15 : PySem.W.nsIn K mainGlobals "_law_use" = some (some (.ref f15))) (l15 : K.lookup f15 = some ⟨oc15, od15, .func (PySem.W.fnOf "_law_use" "_law_use" (defArgs (topS 31)) (defBody (topS 31)) (defScope (topS 31)) .none kV15 dc15 pm15 an15 cd15 ct15), sl15⟩) (c15 : PySem.W.codeIn K cd15 "_law_use" = true) (k15 : PySem.W.keepIn K (.ref f15) = true)
    {f17 : Addr} {oc17 : Value} {od17 an17 : Option Addr} {sl17 : Array (Option Value)} {kV17 dc17 pm17 cd17 ct17 : Value}
    (a17 : PySem.W.nsIn K mainGlobals "_law_search" = some (some (.ref f17))) (l17 : K.lookup f17 = some ⟨oc17, od17, .func (PySem.W.fnOf "_law_search" "_law_search" (defArgs (topS 33)) (defBody (topS 33)) (defScope (topS 33)) .none kV17 dc17 pm17 an17 cd17 ct17), sl17⟩) (c17 : PySem.W.codeIn K cd17 "_law_search" = true) (k17 : PySem.W.keepIn K (.ref f17) = true)
    {f18 : Addr} {oc18 : Value} {od18 an18 : Option Addr} {sl18 : Array (Option Value)} {kV18 dc18 pm18 cd18 ct18 : Value}
    (a18 : PySem.W.nsIn K mainGlobals "law" = some (some (.ref f18))) (l18 : K.lookup f18 = some ⟨oc18, od18, .func (PySem.W.fnOf "law" "law" (defArgs (topS 34)) (defBody (topS 34)) (defScope (topS 34)) .none kV18 dc18 pm18 an18 cd18 ct18), sl18⟩) (c18 : PySem.W.codeIn K cd18 "law" = true) (k18 : PySem.W.keepIn K (.ref f18) = true)
    {t0 : Tok} (g0 : PySem.W.nsIn K mainGlobals "FIRST" = some (some (Value.str "first" t0)))
    {t1 : Tok} (g1 : PySem.W.nsIn K mainGlobals "SECOND" = some (some (Value.str "second" t1)))
    {t2_0 t2_1 t2_2 : Tok} {r2 : Addr} {dd2 : Option Addr} {rn2 : Nat} {rs2 : Array (Option Value)} (g2 : PySem.W.nsIn K mainGlobals "RULES" = some (some (.ref r2))) (gl2 : K.lookup r2 = some ⟨.type "tuple", dd2, .seq [Value.str "first" t2_0, Value.str "lately" t2_1, Value.str "second" t2_2].toArray rn2, rs2⟩)
    {t3 : Tok} (g3 : PySem.W.nsIn K mainGlobals "MOST_PAGE" = some (some (Value.int 4 t3)))
    {t4 : Tok} (g4 : PySem.W.nsIn K mainGlobals "MOST_FRAMES" = some (some (Value.int 4 t4)))
    {t5 : Tok} (g5 : PySem.W.nsIn K mainGlobals "MOST_USES" = some (some (Value.int 200 t5)))
    (z0 : PySem.W.nsIn K mainGlobals "len" = some none)
    (z1 : PySem.W.nsIn K mainGlobals "int" = some none)
    (z2 : PySem.W.nsIn K mainGlobals "tuple" = some none)
    (z3 : PySem.W.nsIn K mainGlobals "list" = some none)
    (z4 : PySem.W.nsIn K mainGlobals "max" = some none)
    (z5 : PySem.W.nsIn K mainGlobals "min" = some none)
    (z6 : PySem.W.nsIn K mainGlobals "isinstance" = some none)
    (z7 : PySem.W.nsIn K mainGlobals "bool" = some none)
    (z8 : PySem.W.nsIn K mainGlobals "str" = some none)
    (z9 : PySem.W.nsIn K mainGlobals "dict" = some none)
    (z10 : PySem.W.nsIn K mainGlobals "range" = some none)
    (z11 : PySem.W.nsIn K mainGlobals "enumerate" = some none)
    (z12 : PySem.W.nsIn K mainGlobals "zip" = some none)
    (z13 : PySem.W.nsIn K mainGlobals "sorted" = some none) :
    ∃ fd : FuncData, (∀ (s : Shared) (v : Value), BindsTo s fd ⟨[v], []⟩ [("_law_script", v)]) ∧ ∀ base : Heap, K.In base → base.Ns mainGlobals mg → FnOk l.prog w K mg base (L2.CX l.prog w) 12 fa fd ["_law_script"] (spL tb K l.prog w ["_law_script"] 12 18) := by
  have e := hfa.symm.trans (PySem.W.mg_of X G a18)
  cases e
  have A : TbAt tb K mg l.prog w := ⟨fns_at (fs := tFns) _ (List.forall_mem_cons.2 ⟨fnAt_mk X G (mt := mt_0) (st := topS 14) a0 l0 c0 k0 sc_0 c_0 (fun _ _ _ _ _ _ us hl => match us, hl with | [_, _, _], _ => rfl),
    (List.forall_mem_cons.2 ⟨fnAt_mk X G (mt := mt_1) (st := topS 15) a1 l1 c1 k1 sc_1 c_1 (fun _ _ _ _ _ _ us hl => match us, hl with | [_], _ => rfl),
    (List.forall_mem_cons.2 ⟨fnAt_mk X G (mt := mt_2) (st := topS 16) a2 l2 c2 k2 sc_2 c_2 (fun _ _ _ _ _ _ us hl => match us, hl with | [_, _], _ => rfl),
    (List.forall_mem_cons.2 ⟨fnAt_mk X G (mt := mt_3) (st := topS 17) a3 l3 c3 k3 sc_3 c_3 (fun _ _ _ _ _ _ us hl => match us, hl with | [_], _ => rfl),
    (List.forall_mem_cons.2 ⟨fnAt_mk X G (mt := mt_4) (st := topS 18) a4 l4 c4 k4 sc_4 c_4 (fun _ _ _ _ _ _ us hl => match us, hl with | [_, _, _], _ => rfl),
    (List.forall_mem_cons.2 ⟨fnAt_mk X G (mt := mt_5) (st := topS 19) a5 l5 c5 k5 sc_5 c_5 (fun _ _ _ _ _ _ us hl => match us, hl with | [_, _, _, _], _ => rfl),
    (List.forall_mem_cons.2 ⟨fnAt_mk X G (mt := mt_6) (st := topS 20) a6 l6 c6 k6 sc_6 c_6 (fun _ _ _ _ _ _ us hl => match us, hl with | [_, _, _], _ => rfl),
    (List.forall_mem_cons.2 ⟨fnAt_mk X G (mt := mt_7) (st := topS 21) a7 l7 c7 k7 sc_7 c_7 (fun _ _ _ _ _ _ us hl => match us, hl with | [_, _, _], _ => rfl),
    (List.forall_mem_cons.2 ⟨fnAt_mk X G (mt := mt_8) (st := topS 22) a8 l8 c8 k8 sc_8 c_8 (fun _ _ _ _ _ _ us hl => match us, hl with | [_, _, _], _ => rfl),
    (List.forall_mem_cons.2 ⟨fnAt_mk X G (mt := mt_9) (st := topS 24) a9 l9 c9 k9 sc_9 c_9 (fun _ _ _ _ _ _ us hl => match us, hl with | [_], _ => rfl),
    (List.forall_mem_cons.2 ⟨fnAt_mk X G (mt := mt_10) (st := topS 25) a10 l10 c10 k10 sc_10 c_10 (fun _ _ _ _ _ _ us hl => match us, hl with | [_, _, _, _], _ => rfl),
    (List.forall_mem_cons.2 ⟨fnAt_mk X G (mt := mt_11) (st := topS 27) a11 l11 c11 k11 sc_11 c_11 (fun _ _ _ _ _ _ us hl => match us, hl with | [_, _], _ => rfl),
    (List.forall_mem_cons.2 ⟨fnAt_mk X G (mt := mt_12) (st := topS 28) a12 l12 c12 k12 sc_12 c_12 (fun _ _ _ _ _ _ us hl => match us, hl with | [_, _], _ => rfl),
    (List.forall_mem_cons.2 ⟨fnAt_mk X G (mt := mt_0) (st := topS 14) a0 l0 c0 k0 sc_0 c_0 (fun _ _ _ _ _ _ us hl => match us, hl with | [_, _, _], _ => rfl),
    (List.forall_mem_cons.2 ⟨fnAt_mk X G (mt := mt_14) (st := topS 30) a14 l14 c14 k14 sc_14 c_14 (fun _ _ _ _ _ _ us hl => match us, hl with | [_, _, _], _ => rfl),
    (List.forall_mem_cons.2 ⟨fnAt_mk X G (mt := mt_15) (st := topS 31) a15 l15 c15 k15 sc_15 c_15 (fun _ _ _ _ _ _ us hl => match us, hl with | [_, _, _, _], _ => rfl),
    (List.forall_mem_cons.2 ⟨fnAt_mk X G (mt := mt_0) (st := topS 14) a0 l0 c0 k0 sc_0 c_0 (fun _ _ _ _ _ _ us hl => match us, hl with | [_, _, _], _ => rfl),
    (List.forall_mem_cons.2 ⟨fnAt_mk X G (mt := mt_17) (st := topS 33) a17 l17 c17 k17 sc_17 c_17 (fun _ _ _ _ _ _ us hl => match us, hl with | [_, _, _, _], _ => rfl),
    (List.forall_mem_cons.2 ⟨fnAt_mk X G (mt := mt_18) (st := topS 34) a18 l18 c18 k18 sc_18 c_18 (fun _ _ _ _ _ _ us hl => match us, hl with | [_], _ => rfl),
    (fun _ h => by cases h)⟩)⟩)⟩)⟩)⟩)⟩)⟩)⟩)⟩)⟩)⟩)⟩)⟩)⟩)⟩)⟩)⟩)⟩)⟩),
    con_at (cs := tCon) (List.forall_mem_cons.2 ⟨con_mk X G g0 (v := .str "first") ⟨_, rfl⟩ fun W => rfl,
    (List.forall_mem_cons.2 ⟨con_mk X G g1 (v := .str "second") ⟨_, rfl⟩ fun W => rfl,
    (List.forall_mem_cons.2 ⟨con_mk X G g2 (v := .ref r2) rfl (krel_tup gl2 (Nat.le_of_ble_eq_true rfl) (vs := [.str "first", .str "lately", .str "second"]) (.cons ⟨_, rfl⟩ (.cons ⟨_, rfl⟩ (.cons ⟨_, rfl⟩ .nil))) fun W => ⟨_, _, rfl, rfl, ⟨_, _, rfl, rfl, ⟨_, _, rfl, rfl, rfl⟩⟩⟩),
    (List.forall_mem_cons.2 ⟨con_mk X G g3 (v := .int 4) ⟨_, rfl⟩ fun W => rfl,
    (List.forall_mem_cons.2 ⟨con_mk X G g4 (v := .int 4) ⟨_, rfl⟩ fun W => rfl,
    (List.forall_mem_cons.2 ⟨con_mk X G g5 (v := .int 200) ⟨_, rfl⟩ fun W => rfl,
    (fun _ h => by cases h)⟩)⟩)⟩)⟩)⟩)⟩),
    (show ∀ x ∈ tBlt, mg x = none from (List.forall_mem_cons.2 ⟨PySem.W.mg_none_of X G z0,
    (List.forall_mem_cons.2 ⟨PySem.W.mg_none_of X G z1,
    (List.forall_mem_cons.2 ⟨PySem.W.mg_none_of X G z2,
    (List.forall_mem_cons.2 ⟨PySem.W.mg_none_of X G z3,
    (List.forall_mem_cons.2 ⟨PySem.W.mg_none_of X G z4,
    (List.forall_mem_cons.2 ⟨PySem.W.mg_none_of X G z5,
    (List.forall_mem_cons.2 ⟨PySem.W.mg_none_of X G z6,
    (List.forall_mem_cons.2 ⟨PySem.W.mg_none_of X G z7,
    (List.forall_mem_cons.2 ⟨PySem.W.mg_none_of X G z8,
    (List.forall_mem_cons.2 ⟨PySem.W.mg_none_of X G z9,
    (List.forall_mem_cons.2 ⟨PySem.W.mg_none_of X G z10,
    (List.forall_mem_cons.2 ⟨PySem.W.mg_none_of X G z11,
    (List.forall_mem_cons.2 ⟨PySem.W.mg_none_of X G z12,
    (List.forall_mem_cons.2 ⟨PySem.W.mg_none_of X G z13,
    (fun _ h => by cases h)⟩)⟩)⟩)⟩)⟩)⟩)⟩)⟩)⟩)⟩)⟩)⟩)⟩)⟩))⟩
  exact ⟨PySem.W.fnOf "law" "law" (defArgs (topS 34)) (defBody (topS 34)) (defScope (topS 34)) .none kV18 dc18 pm18 an18 cd18 ct18, fun s v => .of_eq rfl, fun base _ _ => FnOk.imp (all_ok A 12 18 ⟨"law", ["_law_script"], n_18, b_18, false⟩ rfl _ _ ⟨topS 34, "law", "law", mt_18, fun_mk l18 c18 k18, sc_18, c_18⟩) (fun _ _ _ _ q => q _)⟩
/-- the law's own run -/
def Run : Prop := ∀ ns : List Int, ns.length ≤ 63 → ∃ M', callF tb 12 18 [.lst (ns.map .int)] [] = .ok (.bl true) M'
end K50

namespace K50
open PySem L2 RI
theorem is_from (n : Nat) (v lo hi : Int) (M : Mem) : callF tb (n + 1) 0 [.int v, .int lo, .int hi] M = .ok (.bl (decide (lo ≤ v) && decide (v ≤ hi))) M := by
  show retOf false M.length (b_0 (callF tb n) [some (.int v), some (.int lo), some (.int hi)] M) = _
  simp [b_0, D.ty, isiB]
  by_cases h : lo ≤ v <;> simp [h]
def wFirst : List Nat := [102, 105, 114, 115, 116]
def wLately : List Nat := [108, 97, 116, 101, 108, 121]
def wSecond : List Nat := [115, 101, 99, 111, 110, 100]
def IsRule (w : List Nat) : Prop := w = wFirst ∨ w = wLately ∨ w = wSecond
theorem check_page_rule (n : Nat) (w : List Nat) (hw : IsRule w) (M : Mem) : callF tb (n + 1) 1 [.str w] M = .ok .non M := by
  show retOf false M.length (b_1 (callF tb n) [some (.str w)] M) = _
  have h : ∀ M, inD true (.str w) (.tup [.str [102, 105, 114, 115, 116], .str [108, 97, 116, 101, 108, 121], .str [115, 101, 99, 111, 110, 100]]) M = .ok (.bl false) M := by
    intro M
    rcases hw with rfl | rfl | rfl <;> kernel_rfl
  simp [b_1, D.ty, isiB, h, truD]
theorem check_frames (n : Nat) (f m : Int) (h1 : 1 ≤ f) (h2 : f ≤ m) (M : Mem) : callF tb (n + 2) 2 [.int f, .int m] M = .ok .non M := by
  show retOf false M.length (b_2 (callF tb (n + 1)) [some (.int f), some (.int m)] M) = _
  simp [b_2, is_from, h1, h2, truD]

theorem uses_loop (n : Nat) (v : D) : ∀ (us : List Int) (k : Nat) (a b : Option D) (M : Mem), (∀ u ∈ us, 0 ≤ u ∧ u ≤ 4) →
    ∃ a' b', forG none fg_3_0 fb_3_0 (callF tb (n + 1)) (enumD k (us.map D.int)) [some v, a, b] M = .ok (.next [some v, a', b']) M
  | [], k, a, b, M, _ => ⟨a, b, rfl⟩
  | u :: us, k, a, b, M, h => by
    obtain ⟨h1, h2⟩ := h u List.mem_cons_self
    obtain ⟨a', b', ih⟩ := uses_loop n v us (k + 1) (some (.int k)) (some (.int u)) M fun w hw => h w (List.mem_cons_of_mem _ hw)
    refine ⟨a', b', ?_⟩
    rw [← ih]
    simp [forG, enumD, fg_3_0, fb_3_0, is_from, h1, h2, truD]
theorem check_uses (n : Nat) (us : List Int) (h : ∀ u ∈ us, 0 ≤ u ∧ u ≤ 4) (hl : us.length ≤ 200) (M : Mem) : callF tb (n + 2) 3 [.tup (us.map D.int)] M = .ok .non M := by
  show retOf false M.length (b_3 (callF tb (n + 1)) [some (.tup (us.map D.int)), none, none] M) = _
  obtain ⟨a', b', e⟩ := uses_loop n (.tup (us.map D.int)) us 0 none none M h
  have hl' : ¬ (200 : Int) < us.length := by omega
  simp [b_3, D.ty, isiB, truD, len_of, hl', e]
theorem check_question (n : Nat) (w : List Nat) (hw : IsRule w) (f : Int) (h1 : 1 ≤ f) (h2 : f ≤ 4) (us : List Int) (h : ∀ u ∈ us, 0 ≤ u ∧ u ≤ 4) (hl : us.length ≤ 200) (M : Mem) :
    callF tb (n + 3) 7 [.str w, .int f, .tup (us.map D.int)] M = .ok .non M := by
  show retOf false M.length (b_7 (callF tb (n + 2)) [some (.str w), some (.int f), some (.tup (us.map D.int))] M) = _
  simp [b_7, check_page_rule _ w hw, check_frames _ f 4 h1 h2, check_uses _ us h hl]
/-! first, lately -/
def stepA (lately : Bool) (fr : Nat) (row : List Int) (p : Int) : List Int × Bool :=
  if p ∈ row then (if lately then row.filter (fun x => decide (x ≠ p)) ++ [p] else row, false)
  else ((if row.length = fr then row.drop 1 else row) ++ [p], true)
theorem lc_5 (F : FT) (a b c : Option D) (p : Int) : ∀ (l : List Int) (M : Mem), lcG none lg_5_0 lt_5_0 le_5_0 F [a, b, c, some (.int p), none] (l.map D.int) M = .ok ((l.filter (fun x => decide (x ≠ p))).map D.int) M
  | [], M => rfl
  | x :: l, M => by
    have ih := lc_5 F a b c p l M
    by_cases h : x = p
    · simp [lcG, lg_5_0, lt_5_0, le_5_0, h] at ih ⊢
      exact ih
    · simp [lcG, lg_5_0, lt_5_0, le_5_0, h] at ih ⊢
      rw [ih]; rfl
theorem lc_14 (F : FT) (a b c : Option D) (p : Int) : ∀ (l : List Int) (M : Mem), lcG none lg_15_0 lt_15_0 le_15_0 F [a, b, c, some (.int p), none] (l.map D.int) M = .ok ((l.filter (fun x => decide (x ≠ p))).map D.int) M
  | [], M => rfl
  | x :: l, M => by
    have ih := lc_14 F a b c p l M
    by_cases h : x = p
    · simp [lcG, lg_15_0, lt_15_0, le_15_0, h] at ih ⊢
      exact ih
    · simp [lcG, lg_15_0, lt_15_0, le_15_0, h] at ih ⊢
      rw [ih]; rfl
theorem eq_word (w v : List Nat) (hw : IsRule w) (hv : IsRule v) (M : Mem) : eqD false (.str w) (.str v) M = .ok (.bl (decide (w = v))) M := by
  have k : ∀ u, IsRule u → u.all (· < 1114112) = true := by
    intro u hu
    rcases hu with rfl | rfl | rfl <;> decide
  rw [eq_ss (k w hw) (k v hv)]; rfl
end K50

namespace K50
open PySem L2 RI
theorem rule_first : IsRule wFirst := .inl rfl
theorem rule_lately : IsRule wLately := .inr (.inl rfl)
theorem rule_second : IsRule wSecond := .inr (.inr rfl)
def wA (lately : Bool) : List Nat := if lately then wLately else wFirst
theorem rule_A (b : Bool) : IsRule (wA b) := by cases b; exact rule_first; exact rule_lately
theorem eqA_S (b : Bool) (M : Mem) : eqD false (.str (wA b)) (.str [115, 101, 99, 111, 110, 100]) M = .ok (.bl false) M := by cases b <;> kernel_rfl
theorem eqA_F (b : Bool) (M : Mem) : eqD false (.str (wA b)) (.str [102, 105, 114, 115, 116]) M = .ok (.bl (!b)) M := by cases b <;> kernel_rfl
theorem eqA_L (b : Bool) (M : Mem) : eqD false (.str (wA b)) (.str [108, 97, 116, 101, 108, 121]) M = .ok (.bl b) M := by cases b <;> kernel_rfl
theorem prog_stepA (n : Nat) (b : Bool) (fr : Nat) (row : List Int) (p : Int) (hl : row.length ≤ 100) (M : Mem) :
    callF tb (n + 1) 5 [.str (wA b), .int fr, .tup (row.map D.int), .int p] M = .ok (.tup [.tup ((stepA b fr row p).1.map D.int), .bl (stepA b fr row p).2]) M := by
  show retOf false M.length (b_5 (callF tb n) [some (.str (wA b)), some (.int fr), some (.tup (row.map D.int)), some (.int p), none] M) = _
  have e1 := eqA_S b
  have e2 := eqA_F b
  have hin := fun M => in_ints false p row M (d := .tup (row.map D.int)) rfl
  have hlen := fun M => len_of (M := M) (d := .tup (row.map D.int)) rfl
  have hf : (row.filter fun x => decide (x ≠ p)).length ≤ row.length := List.length_filter_le _ _
  have z1 : (row.filter fun x => !decide (x = p)).length + 1 ≤ 16777216 := by simp at hf; omega
  have z2 : row.length + 1 ≤ 16777216 := by omega
  have z3 : row.length ≤ 16777216 := by omega
  have z4 : row.length - 1 + 1 ≤ 16777216 := by omega
  by_cases hp : p ∈ row
  · cases b with
    | true =>
      simp [b_5, e1, e2, hin, hp, stepA, wipeE, lc_5, LIM, z3, tup_of, add_tup, z1]
    | false =>
      simp [b_5, e1, e2, hin, hp, stepA, LIM]
  · by_cases hfr : row.length = fr
    · subst hfr
      simp [b_5, e1, e2, hin, hp, stepA, hlen, slT, cut_1, LIM, add_tup, z4]
    · have hfr' : ¬ (row.length : Int) = fr := by omega
      simp [b_5, e1, e2, hin, hp, stepA, hlen, hfr, hfr', LIM, add_tup, z2]
theorem law_stepA (n : Nat) (b : Bool) (fr : Nat) (row : List Int) (p : Int) (hl : row.length ≤ 100) (hfr : row.length ≤ fr) (M : Mem) :
    callF tb (n + 1) 15 [.str (wA b), .int fr, .lst (row.map D.int), .int p] M = .ok (.lst [.lst ((stepA b fr row p).1.map D.int), .bl (stepA b fr row p).2]) M := by
  show retOf false M.length (b_15 (callF tb n) [some (.str (wA b)), some (.int fr), some (.lst (row.map D.int)), some (.int p), none] M) = _
  have e1 := eqA_S b
  have e2 := eqA_L b
  have hin := fun M => in_ints false p row M (d := .lst (row.map D.int)) rfl
  have hlen := fun M => len_of (M := M) (d := .lst (row.map D.int)) rfl
  have hf : (row.filter fun x => decide (x ≠ p)).length ≤ row.length := List.length_filter_le _ _
  have z1 : (row.filter fun x => !decide (x = p)).length + 1 ≤ 16777216 := by simp at hf; omega
  have z2 : row.length + 1 ≤ 16777216 := by omega
  have z3 : row.length ≤ 16777216 := by omega
  have z4 : row.length - 1 + 1 ≤ 16777216 := by omega
  by_cases hp : p ∈ row
  · cases b with
    | true =>
      simp [b_15, e1, e2, hin, hp, stepA, wipeE, lc_14, LIM, z3, add_lst, z1]
    | false =>
      simp [b_15, e1, e2, hin, hp, stepA, LIM]
  · by_cases hf2 : row.length = fr
    · subst hf2
      simp [b_15, e1, e2, hin, hp, stepA, hlen, sl_of, cut_1, LIM, add_lst, z4]
    · have hf3 : (row.length : Int) < fr := by omega
      simp [b_15, e1, e2, hin, hp, stepA, hlen, hf2, hf3, LIM, add_lst, z2]
end K50

namespace K50
open PySem L2 RI
def pr (x : Int × Int) : D := .tup [.int x.1, .int x.2]
theorem nice_pr : Nice pr := ⟨fun _ => rfl, fun _ => rfl, fun x => by simp [pr, D.toP, D.toPs, PyData.depth, PyData.depthAll]⟩
@[simp] theorem noObjs_pr (l : List (Int × Int)) : D.noObjs (l.map pr) = true := nice_pr.noL l
@[simp] theorem noObjs_prt (l : List (Int × Int)) : D.noObjs (l.map pr).tail = true := noObjs_tail (nice_pr.noL l)
def mk1 (p : Int) (l : List (Int × Int)) : List (Int × Int) := l.map fun x => if x.1 = p then (p, 1) else x
def rot : Nat → List (Int × Int) → List (Int × Int)
  | 0, l => l
  | _ + 1, [] => []
  | n + 1, x :: t => if x.2 = 1 then rot n (t ++ [(x.1, 0)]) else x :: t
def has (p : Int) (l : List (Int × Int)) : Bool := l.any fun x => decide (x.1 = p)
def step2 (fr : Nat) (row : List (Int × Int)) (p : Int) : List (Int × Int) × Bool :=
  if has p row then (mk1 p row, false) else ((if row.length = fr then (rot fr row).drop 1 else row) ++ [(p, 0)], true)
def marks (l : List (Int × Int)) : Nat := l.countP fun x => decide (x.2 = 1)
theorem rot_len : ∀ (n : Nat) (l : List (Int × Int)), (rot n l).length = l.length
  | 0, _ => rfl
  | _ + 1, [] => rfl
  | n + 1, x :: t => by
    simp only [rot]
    split
    · rw [rot_len n]; simp
    · rfl
theorem rot_fst : ∀ (n : Nat) (l : List (Int × Int)), ((rot n l).map (·.1)).Perm (l.map (·.1))
  | 0, _ => .refl _
  | _ + 1, [] => .refl _
  | n + 1, x :: t => by
    simp only [rot]
    split
    · refine (rot_fst n _).trans ?_
      simp only [List.map_append, List.map_cons, List.map_nil]
      exact List.perm_append_singleton _ _
    · exact .refl _
/-- the loop that takes marks off -/
theorem while_4 (F : FT) (a b c x y : Option D) (M : Mem) : ∀ (n : Nat) (l : List (Int × Int)) (N : Nat) (d : D), l ≠ [] → l.length ≤ 100 → marks l ≤ n → n < N → lstD M d = some (l.map pr) →
    ∃ d', lstD M d' = some ((rot n l).map pr) ∧ whileN wc_4_1 wb_4_1 F N [a, b, c, some d, x, y] M = .ok (.next [a, b, c, some d', x, y]) M := by
  intro n
  induction n with
  | zero =>
    intro l N d hne hl hm hN hd
    obtain ⟨z, t, rfl⟩ : ∃ z t, l = z :: t := by cases l with | nil => exact absurd rfl hne | cons z t => exact ⟨z, t, rfl⟩
    have hz : ¬ z.2 = 1 := by
      intro e
      simp [marks, List.countP_cons, e] at hm
    refine ⟨d, hd, ?_⟩
    obtain ⟨N, rfl⟩ : ∃ k, N = k + 1 := ⟨N - 1, by omega⟩
    have h0 : ixD d (.int 0) M = .ok (pr z) M := ix_get (seqD_of hd) (at_0 _ _)
    simp [whileN, wc_4_1, h0, pr, ix_tup1, hz]
  | succ n ih =>
    intro l N d hne hl hm hN hd
    obtain ⟨z, t, rfl⟩ : ∃ z t, l = z :: t := by cases l with | nil => exact absurd rfl hne | cons z t => exact ⟨z, t, rfl⟩
    obtain ⟨N, rfl⟩ : ∃ k, N = k + 1 := ⟨N - 1, by omega⟩
    have h0 : ixD d (.int 0) M = .ok (pr z) M := ix_get (seqD_of hd) (at_0 _ _)
    by_cases hz : z.2 = 1
    · have hl' : (t ++ [(z.1, (0 : Int))]).length ≤ 100 := by simp at hl ⊢; omega
      have hm' : marks (t ++ [(z.1, (0 : Int))]) ≤ n := by
        simp only [marks, List.countP_cons, hz] at hm
        simp [marks, List.countP_append] at hm ⊢
        omega
      obtain ⟨d', e1, e2⟩ := ih (t ++ [(z.1, 0)]) N (.lst ((t ++ [(z.1, 0)]).map pr)) (by simp) hl' hm' (by omega) rfl
      refine ⟨d', by simpa [rot, hz] using e1, ?_⟩
      rw [← e2]
      have hsl := sl_of hd (some 1) none
      have z1 : t.length + 1 ≤ 16777216 := by simp at hl; omega
      simp [whileN, wc_4_1, wb_4_1, h0, pr, ix_tup1, ix_tup0, hz, hsl, cut_1, LIM, add_lst, z1]
    · refine ⟨d, by simpa [rot, hz] using hd, ?_⟩
      simp [whileN, wc_4_1, h0, pr, ix_tup1, hz]
theorem while_13 (F : FT) (a b c x y : Option D) (M : Mem) : ∀ (n : Nat) (l : List (Int × Int)) (N : Nat), l ≠ [] → l.length ≤ 100 → marks l ≤ n → n < N →
    whileN wc_14_2 wb_14_2 F N [a, b, c, x, some (.lst (l.map pr)), y] M = .ok (.next [a, b, c, x, some (.lst ((rot n l).map pr)), y]) M := by
  intro n
  induction n with
  | zero =>
    intro l N hne hl hm hN
    obtain ⟨z, t, rfl⟩ : ∃ z t, l = z :: t := by cases l with | nil => exact absurd rfl hne | cons z t => exact ⟨z, t, rfl⟩
    have hz : ¬ z.2 = 1 := by
      intro e
      simp [marks, List.countP_cons, e] at hm
    obtain ⟨N, rfl⟩ : ∃ k, N = k + 1 := ⟨N - 1, by omega⟩
    simp [whileN, wc_14_2, ix_lst0, pr, ix_tup1, hz, rot]
  | succ n ih =>
    intro l N hne hl hm hN
    obtain ⟨z, t, rfl⟩ : ∃ z t, l = z :: t := by cases l with | nil => exact absurd rfl hne | cons z t => exact ⟨z, t, rfl⟩
    obtain ⟨N, rfl⟩ : ∃ k, N = k + 1 := ⟨N - 1, by omega⟩
    by_cases hz : z.2 = 1
    · have hl' : (t ++ [(z.1, (0 : Int))]).length ≤ 100 := by simp at hl ⊢; omega
      have hm' : marks (t ++ [(z.1, (0 : Int))]) ≤ n := by
        simp only [marks, List.countP_cons, hz] at hm
        simp [marks, List.countP_append] at hm ⊢
        omega
      have e2 := ih (t ++ [(z.1, 0)]) N (by simp) hl' hm' (by omega)
      have e3 : rot (n + 1) (z :: t) = rot n (t ++ [(z.1, 0)]) := by simp [rot, hz]
      rw [e3, ← e2]
      have z1 : t.length + 1 ≤ 16777216 := by simp at hl; omega
      simp [whileN, wc_14_2, wb_14_2, ix_lst0, pr, ix_tup1, ix_tup0, hz, sl_of, cut_1, LIM, add_lst, z1]
    · simp [whileN, wc_14_2, ix_lst0, pr, ix_tup1, hz, rot]
theorem marks_le (l : List (Int × Int)) : marks l ≤ l.length := List.countP_le_length
end K50

namespace K50
open PySem L2 RI
/-- the search of next_marked: nothing found -/
theorem find_none (F : FT) (a b : Option D) (c : D) (p : Int) (M : Mem) : ∀ (l : List (Int × Int)) (k : Nat) (x y : Option D), has p l = false →
    ∃ x' y', forG none fg_4_0 fb_4_0 F (enumD k (l.map pr)) [a, b, some (.int p), some c, x, y] M = .ok (.next [a, b, some (.int p), some c, x', y']) M
  | [], k, x, y, _ => ⟨x, y, rfl⟩
  | z :: l, k, x, y, h => by
    simp only [has, List.any_cons, Bool.or_eq_false_iff, decide_eq_false_iff_not] at h
    obtain ⟨x', y', ih⟩ := find_none F a b c p M l (k + 1) (some (.int k)) (some (pr z)) h.2
    refine ⟨x', y', ?_⟩
    rw [← ih]
    simp [forG, enumD, fg_4_0, fb_4_0, pr, ix_tup0, h.1]
theorem set_mk (p : Int) : ∀ (pre : List (Int × Int)) (z : Int × Int) (t : List (Int × Int)), z.1 = p → has p pre = false → has p t = false → (pre ++ z :: t).set pre.length (p, 1) = mk1 p (pre ++ z :: t) := by
  have no : ∀ l : List (Int × Int), has p l = false → mk1 p l = l := by
    intro l
    induction l with
    | nil => intro _; rfl
    | cons x l ih =>
      intro h
      simp only [has, List.any_cons, Bool.or_eq_false_iff, decide_eq_false_iff_not] at h
      have := ih h.2
      simp only [mk1, List.map_cons, h.1, if_false] at this ⊢
      rw [this]
  intro pre z t hz h1 h2
  have e1 := no pre h1
  have e2 := no t h2
  rw [List.set_append_right _ _ (Nat.le_refl _), Nat.sub_self, List.set_cons_zero]
  simp only [mk1, List.map_append, List.map_cons, hz, if_true] at e1 e2 ⊢
  rw [e1, e2]
theorem has_split (p : Int) : ∀ l : List (Int × Int), has p l = true → ∃ pre z t, l = pre ++ z :: t ∧ z.1 = p ∧ has p pre = false
  | [], h => by simp [has] at h
  | x :: l, h => by
    by_cases hx : x.1 = p
    · exact ⟨[], x, l, rfl, hx, rfl⟩
    · have : has p l = true := by simpa [has, hx] using h
      obtain ⟨pre, z, t, e, h1, h2⟩ := has_split p l this
      refine ⟨x :: pre, z, t, by rw [e]; rfl, h1, ?_⟩
      simp only [has, List.any_cons, hx, decide_false, Bool.false_or]
      exact h2
theorem has_iff (p : Int) (l : List (Int × Int)) : has p l = true ↔ p ∈ l.map (·.1) := by
  simp only [has, List.any_eq_true, decide_eq_true_eq, List.mem_map]
theorem nd_split {p : Int} {pre t : List (Int × Int)} {z : Int × Int} (nd : ((pre ++ z :: t).map (·.1)).Nodup) (hz : z.1 = p) : has p t = false := by
  cases e : has p t with
  | false => rfl
  | true =>
    have m := (has_iff p t).mp e
    simp only [List.map_append, List.map_cons, List.nodup_append, List.nodup_cons] at nd
    rw [← hz] at m
    exact absurd m nd.2.1.1
/-- the search: found behind pre -/
theorem find_some (F : FT) (a b : Option D) (p : Int) (M X : Mem) (L : List (Int × Int)) (t : List D) (z : Int × Int) (hz : z.1 = p) (hL : L.length ≤ 100) : ∀ (pre : List (Int × Int)) (k : Nat) (x y : Option D), has p pre = false → k + pre.length < L.length →
    forG none fg_4_0 fb_4_0 F (enumD k (pre.map pr ++ pr z :: t)) [a, b, some (.int p), some (.obj M.length), x, y] (M ++ .lst (L.map pr) :: X)
      = .ok (.ret (.tup [.tup ((L.set (k + pre.length) (p, 1)).map pr), .bl false])) (M ++ .lst ((L.set (k + pre.length) (p, 1)).map pr) :: X)
  | [], k, x, y, _, hk => by
    have hk' : k < L.length := by simpa using hk
    have hix : ixN (L.map pr).length (k : Int) = some k := by
      unfold ixN
      rw [if_pos (by omega), if_pos (by rw [List.length_map]; omega)]
      rfl
    have hset : setD (.obj M.length) (.int (k : Int)) (.tup [.int p, .int 1]) (M ++ .lst (L.map pr) :: X) = .ok () (M ++ .lst ((L.set k (p, 1)).map pr) :: X) := by
      rw [setD_S (by simp only [dctD, get_last])]
      simp only [setS, get_last, hix, bel_pure _ (D.tup [.int p, .int 1]) rfl, if_true, set_last]
      congr 5
      rw [List.map_set]; rfl
    have htup : toTupD [.obj M.length] (M ++ .lst ((L.set k (p, 1)).map pr) :: X) = .ok (.tup ((L.set k (p, 1)).map pr)) (M ++ .lst ((L.set k (p, 1)).map pr) :: X) := tup_of lstD_last
    simp [forG, enumD, fg_4_0, fb_4_0, hz, hset, htup, LIM, show ∀ z : Int × Int, pr z = .tup [.int z.1, .int z.2] from fun _ => rfl, ix_tup0] at *
    simp [htup]
  | w :: pre, k, x, y, h, hk => by
    simp only [has, List.any_cons, Bool.or_eq_false_iff, decide_eq_false_iff_not] at h
    have ih := find_some F a b p M X L t z hz hL pre (k + 1) (some (.int k)) (some (pr w)) h.2 (by simp at hk; omega)
    have e : k + 1 + pre.length = k + (w :: pre).length := by simp; omega
    rw [e] at ih
    rw [← ih]
    simp [forG, enumD, fg_4_0, fb_4_0, pr, ix_tup0, h.1]
end K50

namespace K50
open PySem L2 RI
theorem next_marked (n : Nat) (fr : Nat) (h1 : 1 ≤ fr) (row : List (Int × Int)) (p : Int) (hl : row.length ≤ 100) (nd : (row.map (·.1)).Nodup) (M : Mem) :
    callF tb (n + 1) 4 [.int fr, .tup (row.map pr), .int p] M = .ok (.tup [.tup ((step2 fr row p).1.map pr), .bl (step2 fr row p).2]) M := by
  show retOf false M.length (b_4 (callF tb n) [some (.int fr), some (.tup (row.map pr)), some (.int p), none, none, none] M) = _
  have hlst := toLstM_of (M := M) (d := .tup (row.map pr)) (l := row.map pr) rfl (noObjs_pr row)
  cases hh : has p row with
  | true =>
    obtain ⟨pre, z, t, e, hz, hpre⟩ := has_split p row hh
    have ht : has p t = false := by rw [e] at nd; exact nd_split nd hz
    have hs := find_some (callF tb n) (some (.int fr)) (some (.tup (row.map pr))) p M [] row (t.map pr) z hz hl pre 0 none none hpre (by rw [e]; simp)
    have e2 : row.map pr = pre.map pr ++ pr z :: t.map pr := by rw [e]; simp
    rw [← e2] at hs
    have e3 : row.set (0 + pre.length) (p, 1) = mk1 p row := by
      rw [Nat.zero_add, e]; exact set_mk p pre z t hz hpre ht
    rw [e3] at hs
    simp [b_4, hlst, hs, step2, hh]
  | false =>
    obtain ⟨x', y', hs⟩ := find_none (callF tb n) (some (.int fr)) (some (.tup (row.map pr))) (.obj M.length) p (M ++ [.lst (row.map pr)]) row 0 none none hh
    have hlen := len_of (M := M ++ [.lst (row.map pr)]) (d := .obj M.length) (seqD_of lstD_last)
    have z1 : row.length + 1 ≤ 16777216 := by omega
    by_cases hf : row.length = fr
    · subst hf
      have hne : row ≠ [] := by intro e; rw [e] at h1; simp at h1
      obtain ⟨d', e1, e2⟩ := while_4 (callF tb n) (some (.int row.length)) (some (.tup (row.map pr))) (some (.int p)) x' y' (M ++ [.lst (row.map pr)]) row.length row FUEL (.obj M.length) hne hl (marks_le row) (by show row.length < 1000000000; omega) lstD_last
      have hsl := sl_of e1 (some 1) none
      have z2 : (rot row.length row).length - 1 + 1 ≤ 16777216 := by rw [rot_len]; omega
      simp [b_4, hlst, hs, step2, hh, hlen, e2, hsl, cut_1, LIM, add_lst, z2, tup_of]
      rfl
    · have hf' : ¬ (row.length : Int) = fr := by omega
      have hadd := add_of (M := M ++ [.lst (row.map pr)]) (d := .obj M.length) (e := .lst [.tup [.int p, .int 0]]) lstD_last rfl (by simp [LIM]; omega)
      simp [b_4, hlst, hs, step2, hh, hlen, hf, hf', LIM, hadd, tup_of, pr]
theorem eqS_S (M : Mem) : eqD false (.str wSecond) (.str [115, 101, 99, 111, 110, 100]) M = .ok (.bl true) M := by kernel_rfl
theorem prog_step2 (n : Nat) (fr : Nat) (h1 : 1 ≤ fr) (row : List (Int × Int)) (p : Int) (hl : row.length ≤ 100) (nd : (row.map (·.1)).Nodup) (M : Mem) :
    callF tb (n + 2) 5 [.str wSecond, .int fr, .tup (row.map pr), .int p] M = .ok (.tup [.tup ((step2 fr row p).1.map pr), .bl (step2 fr row p).2]) M := by
  show retOf false M.length (b_5 (callF tb (n + 1)) [some (.str wSecond), some (.int fr), some (.tup (row.map pr)), some (.int p), none] M) = _
  simp [b_5, eqS_S, next_marked n fr h1 row p hl nd]
/-! the law's own -/
theorem lc_13_0 (F : FT) (a b x y : Option D) (p : Int) : ∀ (l : List (Int × Int)) (M : Mem), lcG none lg_14_0 lt_14_0 le_14_0 F [a, b, some (.int p), x, y, none] (l.map pr) M = .ok ((l.filter fun z => decide (z.1 = p)).map pr) M
  | [], M => rfl
  | z :: l, M => by
    have ih := lc_13_0 F a b x y p l M
    by_cases h : z.1 = p
    · simp [lcG, lg_14_0, lt_14_0, le_14_0, h, pr, ix_tup0] at ih ⊢
      simp [ih]
    · simp [lcG, lg_14_0, lt_14_0, le_14_0, h, pr, ix_tup0] at ih ⊢
      exact ih
theorem lc_13_1 (F : FT) (a b x y : Option D) (p : Int) : ∀ (l : List (Int × Int)) (M : Mem), lcG none lg_14_1 lt_14_1 le_14_1 F [a, b, some (.int p), x, y, none] (l.map pr) M = .ok ((mk1 p l).map pr) M
  | [], M => rfl
  | z :: l, M => by
    have ih := lc_13_1 F a b x y p l M
    by_cases h : z.1 = p
    · simp [lcG, lg_14_1, lt_14_1, le_14_1, h, pr, ix_tup0, mk1, LIM] at ih ⊢
      simp [ih]
    · simp [lcG, lg_14_1, lt_14_1, le_14_1, h, pr, ix_tup0, mk1, LIM] at ih ⊢
      simp [ih]
theorem filter_has (p : Int) (l : List (Int × Int)) : (l.filter fun z => decide (z.1 = p)).isEmpty = !has p l := by
  induction l with
  | nil => rfl
  | cons x l ih =>
    by_cases h : x.1 = p
    · simp [has, h]
    · simp only [has, List.any_cons, h, decide_false, Bool.false_or] at ih ⊢
      rw [List.filter_cons_of_neg (by simp [h])]
      exact ih
theorem law_seconds (n : Nat) (fr : Nat) (h1 : 1 ≤ fr) (row : List (Int × Int)) (p : Int) (hl : row.length ≤ 100) (M : Mem) :
    callF tb (n + 1) 14 [.int fr, .lst (row.map pr), .int p] M = .ok (.lst [.lst ((step2 fr row p).1.map pr), .bl (step2 fr row p).2]) M := by
  show retOf false M.length (b_14 (callF tb n) [some (.int fr), some (.lst (row.map pr)), some (.int p), none, none, none] M) = _
  have z1 : row.length + 1 ≤ 16777216 := by omega
  have z3 : row.length ≤ 16777216 := by omega
  have hne := fun M => eq_nil nice_pr true (row.filter fun z => decide (z.1 = p)) M
  simp only [filter_has] at hne
  have hlst := toLst_of (M := M) (d := .lst (row.map pr)) (l := row.map pr) rfl
  have hlen := len_of (M := M) (d := .lst (row.map pr)) rfl
  cases hh : has p row with
  | true =>
    simp only [hh] at hne
    simp [b_14, wipeE, LIM, z3, lc_13_0, hne, lc_13_1, step2, hh]
  | false =>
    simp only [hh] at hne
    by_cases hf : row.length = fr
    · subst hf
      have hne' : row ≠ [] := by intro e; rw [e] at h1; simp at h1
      have hw := while_13 (callF tb n) (some (.int row.length)) (some (.lst (row.map pr))) (some (.int p)) (some (.lst ((row.filter fun z => decide (z.1 = p)).map pr))) none M row.length row FUEL hne' hl (marks_le row) (by show row.length < 1000000000; omega)
      have z2 : (rot row.length row).length - 1 + 1 ≤ 16777216 := by rw [rot_len]; omega
      simp [b_14, wipeE, LIM, z3, lc_13_0, hne, step2, hh, hlst, hlen, hw, sl_of, cut_1, add_lst, z2, pr]
    · have hf' : ¬ (row.length : Int) = fr := by omega
      simp [b_14, wipeE, LIM, z3, lc_13_0, hne, step2, hh, hlst, hlen, hf, hf', add_lst, z1, pr]
theorem law_step2 (n : Nat) (fr : Nat) (h1 : 1 ≤ fr) (row : List (Int × Int)) (p : Int) (hl : row.length ≤ 100) (M : Mem) :
    callF tb (n + 2) 15 [.str wSecond, .int fr, .lst (row.map pr), .int p] M = .ok (.lst [.lst ((step2 fr row p).1.map pr), .bl (step2 fr row p).2]) M := by
  show retOf false M.length (b_15 (callF tb (n + 1)) [some (.str wSecond), some (.int fr), some (.lst (row.map pr)), some (.int p), none] M) = _
  simp [b_15, eqS_S, law_seconds n fr h1 row p hl]
end K50

namespace K50
open PySem L2 RI
/-- one rule: how the program and the law step alike -/
structure Sim (w : List Nat) (fr : Nat) where
  S : Type
  enc : S → List D
  nice : ∀ s, D.noObjs (enc s) = true
  sh : ∀ s, SeqAt.shaped (D.toP (.tup (enc s))) = true
  ky : ∀ s, D.keylys (enc s) = true
  dp : ∀ s, NestedKey.depthAll (D.toKs (enc s)) ≤ 1
  inj : ∀ s s', D.toKs (enc s) = D.toKs (enc s') → s = s'
  init : S
  e0 : enc init = []
  step : S → Int → S × Bool
  inv : S → Prop
  i0 : inv init
  is : ∀ s p, inv s → inv (step s p).1
  prog : ∀ n s p M, inv s → callF tb (n + 2) 5 [.str w, .int fr, .tup (enc s), .int p] M = .ok (.tup [.tup (enc (step s p).1), .bl (step s p).2]) M
  law : ∀ n s p M, inv s → callF tb (n + 2) 15 [.str w, .int fr, .lst (enc s), .int p] M = .ok (.lst [.lst (enc (step s p).1), .bl (step s p).2]) M
theorem stepA_len (b : Bool) (fr : Nat) (h1 : 1 ≤ fr) (row : List Int) (p : Int) (h : row.length ≤ fr) : (stepA b fr row p).1.length ≤ fr := by
  unfold stepA
  by_cases hp : p ∈ row
  · rw [if_pos hp]
    cases b with
    | false => exact h
    | true =>
      have : (row.filter fun x => decide (x ≠ p)).length < row.length := by
        rw [List.length_filter_lt_length_iff_exists]
        exact ⟨p, hp, by simp⟩
      simp only [if_true, List.length_append, List.length_singleton]
      omega
  · rw [if_neg hp]
    by_cases hf : row.length = fr
    · simp [hf]; omega
    · simp [hf]; omega
theorem ky_ints : ∀ l : List Int, D.keylys (l.map D.int) = true
  | [] => rfl
  | x :: l => by simp only [List.map_cons, D.keylys, D.keyly, ky_ints l, Bool.and_self]
theorem dp_ints : ∀ l : List Int, NestedKey.depthAll (D.toKs (l.map D.int)) ≤ 1
  | [] => Nat.zero_le _
  | x :: l => by
    have := dp_ints l
    simp only [List.map_cons, D.toKs, D.toK, NestedKey.depthAll, NestedKey.depth]
    omega
theorem inj_ints : ∀ l l' : List Int, D.toKs (l.map D.int) = D.toKs (l'.map D.int) → l = l'
  | [], [], _ => rfl
  | [], _ :: _, h => by simp [D.toKs] at h
  | _ :: _, [], h => by simp [D.toKs] at h
  | x :: l, y :: l', h => by
    simp only [List.map_cons, D.toKs, D.toK, List.cons.injEq, NestedKey.num.injEq] at h
    rw [h.1, inj_ints l l' h.2]
theorem ky_prs : ∀ l : List (Int × Int), D.keylys (l.map pr) = true
  | [] => rfl
  | x :: l => by
    simp only [List.map_cons, D.keylys, ky_prs l, Bool.and_true]
    rfl
theorem dp_prs : ∀ l : List (Int × Int), NestedKey.depthAll (D.toKs (l.map pr)) ≤ 1
  | [] => Nat.zero_le _
  | x :: l => by
    have := dp_prs l
    simp only [List.map_cons, D.toKs, NestedKey.depthAll]
    have h : NestedKey.depth (D.toK (pr x)) = 1 := rfl
    omega
theorem inj_prs : ∀ l l' : List (Int × Int), D.toKs (l.map pr) = D.toKs (l'.map pr) → l = l'
  | [], [], _ => rfl
  | [], _ :: _, h => by simp [D.toKs] at h
  | _ :: _, [], h => by simp [D.toKs] at h
  | (x1, x2) :: l, (y1, y2) :: l', h => by
    simp only [List.map_cons, D.toKs, pr, D.toK, List.cons.injEq, NestedKey.tup.injEq, NestedKey.num.injEq] at h
    rw [h.1.1, h.1.2.1, inj_prs l l' h.2]
def simA (b : Bool) (fr : Nat) (h1 : 1 ≤ fr) (h4 : fr ≤ 4) : Sim (wA b) fr where
  S := List Int
  enc := fun l => l.map D.int
  nice := fun l => noObjs_ints l
  sh := fun l => nice_int.shT l
  ky := ky_ints
  dp := dp_ints
  inj := inj_ints
  init := []
  e0 := rfl
  step := stepA b fr
  inv := fun l => l.length ≤ fr
  i0 := Nat.zero_le _
  is := fun l p h => stepA_len b fr h1 l p h
  prog := fun n l p M h => prog_stepA (n + 1) b fr l p (by omega) M
  law := fun n l p M h => law_stepA (n + 1) b fr l p (by omega) h M
theorem mk1_fst (p : Int) (l : List (Int × Int)) : (mk1 p l).map (·.1) = l.map (·.1) := by
  unfold mk1
  rw [List.map_map]
  apply List.map_congr_left
  intro x _
  simp only [Function.comp]
  by_cases h : x.1 = p <;> simp [h]
theorem step2_inv (fr : Nat) (h1 : 1 ≤ fr) (row : List (Int × Int)) (p : Int) (h : row.length ≤ fr ∧ (row.map (·.1)).Nodup) : (step2 fr row p).1.length ≤ fr ∧ ((step2 fr row p).1.map (·.1)).Nodup := by
  unfold step2
  cases hh : has p row with
  | true =>
    simp only [if_true]
    exact ⟨by simp [mk1]; exact h.1, by rw [mk1_fst]; exact h.2⟩
  | false =>
    have hp : p ∉ row.map (·.1) := fun m => by rw [(has_iff p row).mpr m] at hh; cases hh
    simp only [Bool.false_eq_true, if_false]
    by_cases hf : row.length = fr
    · rw [if_pos hf]
      have hpm := rot_fst fr row
      have nd := hpm.nodup_iff.mpr h.2
      have hp' : p ∉ (rot fr row).map (·.1) := fun m => hp (hpm.mem_iff.mp m)
      refine ⟨by simp [rot_len]; omega, ?_⟩
      rw [List.map_append, List.map_drop, List.nodup_append]
      refine ⟨nd.sublist (List.drop_sublist _ _), by simp, ?_⟩
      intro a ha b hb e
      simp at hb
      subst hb; subst e
      exact hp' (List.mem_of_mem_drop ha)
    · rw [if_neg hf]
      refine ⟨by simp; omega, ?_⟩
      rw [List.map_append, List.nodup_append]
      refine ⟨h.2, by simp, ?_⟩
      intro a ha b hb e
      simp at hb
      subst hb; subst e
      exact hp ha
def simS (fr : Nat) (h1 : 1 ≤ fr) (h4 : fr ≤ 4) : Sim wSecond fr where
  S := List (Int × Int)
  enc := fun l => l.map pr
  nice := fun l => noObjs_pr l
  sh := fun l => nice_pr.shT l
  ky := ky_prs
  dp := dp_prs
  inj := inj_prs
  init := []
  e0 := rfl
  step := step2 fr
  inv := fun l => l.length ≤ fr ∧ (l.map (·.1)).Nodup
  i0 := ⟨Nat.zero_le _, List.nodup_nil⟩
  is := fun l p h => step2_inv fr h1 l p h
  prog := fun n l p M h => prog_step2 n fr h1 l p (by omega) h.2 M
  law := fun n l p M h => law_step2 n fr h1 l p (by omega) M
/-- the whole run: indexes of faults, the state -/
def runM {w : List Nat} {fr : Nat} (X : Sim w fr) : List Int → Nat → X.S → List Int → List Int × X.S
  | [], _, s, found => (found, s)
  | u :: us, k, s, found => runM X us (k + 1) (X.step s u).1 (if (X.step s u).2 then found ++ [(k : Int)] else found)
theorem runM_inv {w : List Nat} {fr : Nat} (X : Sim w fr) : ∀ (us : List Int) (k : Nat) (s : X.S) (found : List Int), X.inv s → X.inv (runM X us k s found).2
  | [], _, s, _, h => h
  | u :: us, k, s, found, h => runM_inv X us (k + 1) _ _ (X.is s u h)
theorem loop_6 {w : List Nat} {fr : Nat} (X : Sim w fr) (n : Nat) (a b c : Option D) (M : Mem) : ∀ (us : List Int) (k : Nat) (s : X.S) (found : List Int) (x y z : Option D), X.inv s → found.length + us.length ≤ 1000 →
    a = some (.str w) → b = some (.int fr) →
    ∃ x' y' z', forG none fg_6_0 fb_6_0 (callF tb (n + 2)) (enumD k (us.map D.int)) [a, b, c, some (.tup (X.enc s)), some (.obj M.length), x, y, z] (M ++ [.lst (found.map D.int)])
      = .ok (.next [a, b, c, some (.tup (X.enc (runM X us k s found).2)), some (.obj M.length), x', y', z']) (M ++ [.lst ((runM X us k s found).1.map D.int)])
  | [], k, s, found, x, y, z, _, _, _, _ => ⟨x, y, z, rfl⟩
  | u :: us, k, s, found, x, y, z, hi, hl, ha, hb => by
    subst ha hb
    have hl' : found.length < 1000 := by simp at hl; omega
    have hp := X.prog n s u (M ++ [.lst (found.map D.int)]) hi
    have happ := app_last (M := M) (X := []) (l := found.map D.int) (v := .int (k : Nat)) (by rw [List.length_map]; show found.length < 16777216; omega) rfl
    cases hf : (X.step s u).2 with
    | true =>
      rw [hf] at hp
      obtain ⟨x', y', z', ih⟩ := loop_6 X n (some (.str w)) (some (.int fr)) c M us (k + 1) (X.step s u).1 (found ++ [(k : Int)]) (some (.int k)) (some (.int u)) (some (.bl true)) (X.is s u hi) (by simp at hl ⊢; omega) rfl rfl
      refine ⟨x', y', z', ?_⟩
      simp only [runM, hf, if_true]
      rw [← ih]
      simp [forG, enumD, fg_6_0, fb_6_0, hp, truD, happ]
    | false =>
      rw [hf] at hp
      obtain ⟨x', y', z', ih⟩ := loop_6 X n (some (.str w)) (some (.int fr)) c M us (k + 1) (X.step s u).1 found (some (.int k)) (some (.int u)) (some (.bl false)) (X.is s u hi) (by simp at hl ⊢; omega) rfl rfl
      refine ⟨x', y', z', ?_⟩
      simp only [runM, hf, Bool.false_eq_true, if_false]
      rw [← ih]
      simp [forG, enumD, fg_6_0, fb_6_0, hp, truD]
end K50

namespace K50
open PySem L2 RI
variable {w : List Nat} {fr : Nat}
/-- what is handed back: a pair of a list made here and data -/
theorem fin_pair {M : Mem} {l : List Int} {d : D} (hd : D.noObj d = true) : fin false M.length (.tup [.obj M.length, d]) (M ++ [.lst (l.map D.int)]) = .ok (.tup [.lst (l.map D.int), d]) M := by
  have e : D.frz (frzM (M ++ [.lst (l.map D.int)]) M.length 3) (.tup [.obj M.length, d]) = .tup [.lst (l.map D.int), d] := by
    simp only [D.frz, D.frzs, frz_last (M := M) (X := []) (noObjs_ints l), frz_pure _ d hd]
  have b : D.bel M.length (.tup [.lst (l.map D.int), d]) = true := bel_pure _ _ (by simp [hd])
  simp only [fin, Bool.false_eq_true, if_false, e, b, if_true, List.take_left]
theorem fin_pairL {M : Mem} {l : List Int} {d : D} (hd : D.noObj d = true) : fin false M.length (.lst [.obj M.length, d]) (M ++ [.lst (l.map D.int)]) = .ok (.lst [.lst (l.map D.int), d]) M := by
  have e : D.frz (frzM (M ++ [.lst (l.map D.int)]) M.length 3) (.lst [.obj M.length, d]) = .lst [.lst (l.map D.int), d] := by
    simp only [D.frz, D.frzs, frz_last (M := M) (X := []) (noObjs_ints l), frz_pure _ d hd]
  have b : D.bel M.length (.lst [.lst (l.map D.int), d]) = true := bel_pure _ _ (by simp [hd])
  simp only [fin, Bool.false_eq_true, if_false, e, b, if_true, List.take_left]
abbrev Sim.res (X : Sim w fr) (us : List Int) : List Int × X.S := runM X us 0 X.init []
theorem run_of (X : Sim w fr) (n : Nat) (us : List Int) (hl : us.length ≤ 200) (M : Mem) :
    callF tb (n + 3) 6 [.str w, .int fr, .tup (us.map D.int)] M = .ok (.tup [.lst ((X.res us).1.map D.int), .tup (X.enc (X.res us).2)]) M := by
  show retOf false M.length (b_6 (callF tb (n + 2)) [some (.str w), some (.int fr), some (.tup (us.map D.int)), none, none, none, none, none] M) = _
  obtain ⟨x', y', z', e⟩ := loop_6 X n (some (.str w)) (some (.int fr)) (some (.tup (us.map D.int))) M us 0 X.init [] none none none X.i0 (by simp; omega) rfl rfl
  rw [X.e0] at e
  simp only [List.map_nil] at e
  have hn := newO_pure (l := []) rfl M
  simp [b_6, hn, e, LIM]
  exact fin_pair (X.nice _)
theorem faults (X : Sim w fr) (hw : IsRule w) (h1 : 1 ≤ fr) (h4 : fr ≤ 4) (n : Nat) (us : List Int) (h : ∀ u ∈ us, 0 ≤ u ∧ u ≤ 4) (hl : us.length ≤ 200) (M : Mem) :
    callF tb (n + 4) 8 [.str w, .int fr, .tup (us.map D.int)] M = .ok (.lst ((X.res us).1.map D.int)) M := by
  show retOf false M.length (b_8 (callF tb (n + 3)) [some (.str w), some (.int fr), some (.tup (us.map D.int))] M) = _
  have hq := check_question n w hw fr (by omega) (by omega) us h hl M
  have hr := run_of X n us hl M
  simp [b_8, hq, hr, ix_tup0]
theorem rng_cons (k n : Nat) : (List.range' k (n + 1)).map (fun i => D.int ((0 : Int) + (i : Nat))) = .int (k : Nat) :: (List.range' (k + 1) n).map (fun i => D.int ((0 : Int) + (i : Nat))) := by
  simp [List.range'_succ]
theorem rng_eq (n : Nat) : rngD 0 n = (List.range' 0 n).map (fun i => D.int ((0 : Int) + (i : Nat))) := by
  simp [rngD, List.range_eq_range']
end K50


namespace K50
open PySem L2 RI
theorem mix (n : Nat) (ns : List Int) (seed : Int) (h : ns.length ≤ 63) : ∃ M, Hm M [] ∧ callF tb (n + 1) 11 [.lst (ns.map .int), .int seed] [] = .ok (.obj 1) M := mix_ok (callF tb n) ns seed h
theorem next (n : Nat) (b : Int) (h1 : 1 ≤ b) (h2 : b < 1073741824) (M X : Mem) (h : Hm M X) : ∃ r M', 0 ≤ r ∧ r < b ∧ Hm M' X ∧ callF tb (n + 1) 12 [.obj 1, .int b] M = .ok (.int r) M' := next_ok (callF tb n) b h1 h2 M X h
theorem hm_len {M M' X Y : Mem} (h : Hm M X) (h' : Hm M' Y) (e : X.length = Y.length) : M.length = M'.length := by
  obtain ⟨c, s, i, _, rfl⟩ := h
  obtain ⟨c', s', i', _, rfl⟩ := h'
  simp [memS, e]
theorem hm_at {M X : Mem} (h : Hm M X) (k : Nat) : M[k + 2]? = X[k]? := by
  obtain ⟨c, s, i, _, rfl⟩ := h
  rfl
theorem hm_app {M : Mem} {l : List D} {v : D} {X : Mem} (h : Hm M (.lst l :: X)) (hz : l.length < LIM) (hv : D.noObj v = true) : ∃ M', Hm M' (.lst (l ++ [v]) :: X) ∧ appD (.obj 2) v M = .ok .non M' := by
  obtain ⟨c, s, i, hc, rfl⟩ := h
  refine ⟨_, ⟨c, s, i, hc, rfl⟩, ?_⟩
  simp only [appD, memS, List.getElem?_cons_succ, List.getElem?_cons_zero, hz, bel_pure _ v hv, and_self, if_true]
  rfl
theorem eq_nilO {A : Type} {f : A → D} (hn : Nice f) (n : Bool) (l : List A) (j : Nat) (M : Mem) (h : M[j]? = some (.lst (l.map f))) : eqD n (.obj j) (.lst []) M = .ok (.bl (if n then !l.isEmpty else l.isEmpty)) M := by
  have e : derefD M (.obj j) = .lst (l.map f) := by simp [derefD, h]
  have := eq_nil hn n l M
  unfold eqD at this ⊢
  rw [e]
  exact this
end K50

namespace K50
open PySem L2 RI
variable {w v : List Nat} {fr : Nat}
/-! the search, pure -/
def keyD (X : Sim w fr) (Y : Sim v fr) (a : X.S × Y.S) : D := .tup [.tup (X.enc a.1), .tup (Y.enc a.2)]
def inS (X : Sim w fr) (Y : Sim v fr) (seen : List (X.S × Y.S)) (a : X.S × Y.S) : Bool := seen.any fun b => NestedKey.beq (D.toK (keyD X Y b)) (D.toK (keyD X Y a))
abbrev Wt (X : Sim w fr) (Y : Sim v fr) := (X.S × Y.S) × List Int
def pgs (X : Sim w fr) (Y : Sim v fr) (a : X.S × Y.S) (us : List Int) : List Int → List (X.S × Y.S) → List (Wt X Y) → Sum (List Int) (List (X.S × Y.S) × List (Wt X Y))
  | [], seen, later => .inr (seen, later)
  | p :: ps, seen, later =>
    if (X.step a.1 p).2 = (Y.step a.2 p).2 then
      (if inS X Y seen ((X.step a.1 p).1, (Y.step a.2 p).1) then pgs X Y a us ps seen later
      else pgs X Y a us ps (seen ++ [((X.step a.1 p).1, (Y.step a.2 p).1)]) (later ++ [(((X.step a.1 p).1, (Y.step a.2 p).1), us ++ [p])]))
    else .inl (us ++ [p])
def lvl (X : Sim w fr) (Y : Sim v fr) (ps : List Int) : List (Wt X Y) → List (X.S × Y.S) → List (Wt X Y) → Sum (List Int) (List (X.S × Y.S) × List (Wt X Y))
  | [], seen, later => .inr (seen, later)
  | q :: qs, seen, later => match pgs X Y q.1 q.2 ps seen later with
    | .inl us => .inl us
    | .inr (s, l) => lvl X Y ps qs s l
/-- none: the levels did not end in time -/
def bfs (X : Sim w fr) (Y : Sim v fr) (ps : List Int) : Nat → List (X.S × Y.S) → List (Wt X Y) → Option (Option (List Int))
  | 0, _, _ => none
  | n + 1, seen, wt => if wt.isEmpty then some none else match lvl X Y ps wt seen [] with
    | .inl us => some (some us)
    | .inr (s, l) => bfs X Y ps n s l
end K50

namespace K50
open PySem L2 RI
variable {w v : List Nat} {fr : Nat}
def sD (X : Sim w fr) (Y : Sim v fr) (seen : List (X.S × Y.S)) : List (D × D) := seen.map fun a => (keyD X Y a, .bl true)
def wD (X : Sim w fr) (Y : Sim v fr) (q : Wt X Y) : D := .tup [.tup (X.enc q.1.1), .tup (Y.enc q.1.2), .tup (q.2.map .int)]
def mP (X : Sim w fr) (Y : Sim v fr) (M0 : Mem) (seen : List (X.S × Y.S)) (olds : Mem) (later : List (Wt X Y)) : Mem := M0 ++ .dct (sD X Y seen) :: (olds ++ [.lst (later.map (wD X Y))])
theorem dget_sD (X : Sim w fr) (Y : Sim v fr) (a : X.S × Y.S) : ∀ seen : List (X.S × Y.S), (dgetD (D.toK (keyD X Y a)) (sD X Y seen)).isSome = inS X Y seen a
  | [] => rfl
  | b :: seen => by
    have ih := dget_sD X Y a seen
    simp only [sD, List.map_cons, dgetD, inS, List.any_cons] at ih ⊢
    cases NestedKey.beq (D.toK (keyD X Y b)) (D.toK (keyD X Y a)) with
    | true => simp
    | false => simpa using ih
theorem dset_sD (X : Sim w fr) (Y : Sim v fr) (a : X.S × Y.S) (seen : List (X.S × Y.S)) (h : inS X Y seen a = false) : dsetD (keyD X Y a) (.bl true) (sD X Y seen) = sD X Y (seen ++ [a]) := by
  unfold dsetD
  rw [dget_sD, h]
  simp [sD]
theorem mP_seen (X : Sim w fr) (Y : Sim v fr) (M0 : Mem) (seen : List (X.S × Y.S)) (olds : Mem) (later : List (Wt X Y)) : (mP X Y M0 seen olds later)[M0.length]? = some (.dct (sD X Y seen)) := by
  unfold mP
  rw [List.getElem?_append_right (Nat.le_refl _)]; simp
theorem mP_later (X : Sim w fr) (Y : Sim v fr) (M0 : Mem) (seen : List (X.S × Y.S)) (olds : Mem) (later : List (Wt X Y)) : (mP X Y M0 seen olds later)[M0.length + (olds.length + 1)]? = some (.lst (later.map (wD X Y))) := by
  unfold mP
  rw [List.getElem?_append_right (by omega)]
  rw [show M0.length + (olds.length + 1) - M0.length = olds.length + 1 by omega, List.getElem?_cons_succ, List.getElem?_append_right (Nat.le_refl _)]
  simp
theorem mP_setS (X : Sim w fr) (Y : Sim v fr) (M0 : Mem) (seen seen' : List (X.S × Y.S)) (olds : Mem) (later : List (Wt X Y)) : (mP X Y M0 seen olds later).set M0.length (.dct (sD X Y seen')) = mP X Y M0 seen' olds later := by
  unfold mP
  rw [List.set_append_right _ _ (Nat.le_refl _)]; simp
theorem mP_setL (X : Sim w fr) (Y : Sim v fr) (M0 : Mem) (seen : List (X.S × Y.S)) (olds : Mem) (later later' : List (Wt X Y)) : (mP X Y M0 seen olds later).set (M0.length + (olds.length + 1)) (.lst (later'.map (wD X Y))) = mP X Y M0 seen olds later' := by
  unfold mP
  rw [List.set_append_right _ _ (by omega), show M0.length + (olds.length + 1) - M0.length = olds.length + 1 by omega, List.set_cons_succ, List.set_append_right _ _ (Nat.le_refl _)]
  simp
end K50

namespace K50
open PySem L2 RI
variable {w v : List Nat} {fr : Nat}
theorem key_ok (X : Sim w fr) (Y : Sim v fr) (a : X.S × Y.S) : D.isKey (keyD X Y a) = true := by
  have h1 := X.dp a.1
  have h2 := Y.dp a.2
  simp only [keyD, D.isKey, D.keylys, D.keyly, X.ky, Y.ky, Bool.and_self, Bool.true_and]
  apply Nat.ble_eq_true_of_le
  simp only [D.toKs, D.toK, NestedKey.depthAll, NestedKey.depth]
  omega
theorem in_seen (X : Sim w fr) (Y : Sim v fr) (M0 : Mem) (seen : List (X.S × Y.S)) (olds : Mem) (later : List (Wt X Y)) (a : X.S × Y.S) :
    inD true (.tup [.tup (X.enc a.1), .tup (Y.enc a.2)]) (.obj M0.length) (mP X Y M0 seen olds later) = .ok (.bl (!inS X Y seen a)) (mP X Y M0 seen olds later) := by
  have h : dctD (mP X Y M0 seen olds later) (.obj M0.length) = some (sD X Y seen) := by simp only [dctD, mP_seen]
  have hk := key_ok X Y a
  have hd := dget_sD X Y a seen
  unfold keyD at hk hd
  simp only [inD, h, inK, hk, if_true, hd]
theorem set_seen (X : Sim w fr) (Y : Sim v fr) (M0 : Mem) (seen : List (X.S × Y.S)) (olds : Mem) (later : List (Wt X Y)) (a : X.S × Y.S) (hn : inS X Y seen a = false) (hl : seen.length ≤ 16777215) :
    setD (.obj M0.length) (.tup [.tup (X.enc a.1), .tup (Y.enc a.2)]) (.bl true) (mP X Y M0 seen olds later) = .ok () (mP X Y M0 (seen ++ [a]) olds later) := by
  have h : dctD (mP X Y M0 seen olds later) (.obj M0.length) = some (sD X Y seen) := by simp only [dctD, mP_seen]
  have hk := key_ok X Y a
  have hd := dset_sD X Y a seen hn
  unfold keyD at hk hd
  have hle : Nat.ble (sD X Y seen).length 16777215 = true := Nat.ble_eq_true_of_le (by simpa [sD] using hl)
  simp only [setD, h, setK, hk, D.bel, hle, Bool.and_self, if_true, hd, mP_setS]
theorem app_later (X : Sim w fr) (Y : Sim v fr) (M0 : Mem) (seen : List (X.S × Y.S)) (olds : Mem) (later : List (Wt X Y)) (q : Wt X Y) (hl : later.length < 16777216) :
    appD (.obj (M0.length + (olds.length + 1))) (wD X Y q) (mP X Y M0 seen olds later) = .ok .non (mP X Y M0 seen olds (later ++ [q])) := by
  have hb : D.bel (M0.length + (olds.length + 1)) (wD X Y q) = true := bel_pure _ _ (by simp [wD, X.nice, Y.nice])
  have hz : (later.map (wD X Y)).length < LIM := by simpa using hl
  simp only [appD, mP_later, hz, hb, and_self, if_true]
  rw [show later.map (wD X Y) ++ [wD X Y q] = (later ++ [q]).map (wD X Y) by simp, mP_setL]
end K50

namespace K50
open PySem L2 RI
variable {w v : List Nat} {fr : Nat}
theorem eq_bb (n a b : Bool) (M : Mem) : eqD n (.bl a) (.bl b) M = .ok (.bl (if n then !decide (a = b) else decide (a = b))) M := by
  cases n <;> cases a <;> cases b <;> rfl
theorem mP_take (X : Sim w fr) (Y : Sim v fr) (M0 : Mem) (seen : List (X.S × Y.S)) (olds : Mem) (later : List (Wt X Y)) : (mP X Y M0 seen olds later).take M0.length = M0 := by
  unfold mP; simp
/-- the loop over the pages -/
theorem pg_loop (X : Sim w fr) (Y : Sim v fr) (n : Nat) (M0 : Mem) (olds : Mem) (c5 c3 : Option D) (a : X.S × Y.S) (us : List Int) (hi : X.inv a.1) (hj : Y.inv a.2) (hus : us.length ≤ 10000000) : ∀ (ps : List Int) (seen : List (X.S × Y.S)) (later : List (Wt X Y)) (y0 y1 y2 y3 y4 : Option D),
    seen.length + ps.length ≤ 16777215 → later.length + ps.length ≤ 16777215 →
    match pgs X Y a us ps seen later with
    | .inl r => ∃ M', forG none fg_10_0 fb_10_0 (callF tb (n + 2)) (ps.map .int) [some (.str w), some (.str v), some (.int fr), c3, some (.obj M0.length), c5, some (.obj (M0.length + (olds.length + 1))), some (.tup (X.enc a.1)), some (.tup (Y.enc a.2)), some (.tup (us.map .int)), y0, y1, y2, y3, y4] (mP X Y M0 seen olds later)
        = .ok (.ret (.tup (r.map .int))) M' ∧ M'.take M0.length = M0
    | .inr z => ∃ y0' y1' y2' y3' y4', forG none fg_10_0 fb_10_0 (callF tb (n + 2)) (ps.map .int) [some (.str w), some (.str v), some (.int fr), c3, some (.obj M0.length), c5, some (.obj (M0.length + (olds.length + 1))), some (.tup (X.enc a.1)), some (.tup (Y.enc a.2)), some (.tup (us.map .int)), y0, y1, y2, y3, y4] (mP X Y M0 seen olds later)
        = .ok (.next [some (.str w), some (.str v), some (.int fr), c3, some (.obj M0.length), c5, some (.obj (M0.length + (olds.length + 1))), some (.tup (X.enc a.1)), some (.tup (Y.enc a.2)), some (.tup (us.map .int)), y0', y1', y2', y3', y4']) (mP X Y M0 z.1 olds z.2)
  | [], seen, later, y0, y1, y2, y3, y4, _, _ => ⟨y0, y1, y2, y3, y4, rfl⟩
  | p :: ps, seen, later, y0, y1, y2, y3, y4, hs, hl => by
    have hp := X.prog n a.1 p (mP X Y M0 seen olds later) hi
    have hq := Y.prog n a.2 p (mP X Y M0 seen olds later) hj
    have hadd : ∀ M, addD (.tup (us.map .int)) (.tup [.int p]) M = .ok (.tup ((us ++ [p]).map .int)) M := fun M => by
      rw [add_tup (by simp [LIM]; omega)]; simp
    simp only [List.length_cons] at hs hl
    unfold pgs
    by_cases he : (X.step a.1 p).2 = (Y.step a.2 p).2
    · rw [if_pos he]
      by_cases hin : inS X Y seen ((X.step a.1 p).1, (Y.step a.2 p).1) = true
      · rw [if_pos hin]
        have ih := pg_loop X Y n M0 olds c5 c3 a us hi hj hus ps seen later (some (.int p)) (some (.tup (X.enc (X.step a.1 p).1))) (some (.bl (X.step a.1 p).2)) (some (.tup (Y.enc (Y.step a.2 p).1))) (some (.bl (Y.step a.2 p).2)) (by omega) (by omega)
        have hn := in_seen X Y M0 seen olds later ((X.step a.1 p).1, (Y.step a.2 p).1)
        rw [hin] at hn
        have e : forG none fg_10_0 fb_10_0 (callF tb (n + 2)) ((p :: ps).map .int) [some (.str w), some (.str v), some (.int fr), c3, some (.obj M0.length), c5, some (.obj (M0.length + (olds.length + 1))), some (.tup (X.enc a.1)), some (.tup (Y.enc a.2)), some (.tup (us.map .int)), y0, y1, y2, y3, y4] (mP X Y M0 seen olds later)
            = forG none fg_10_0 fb_10_0 (callF tb (n + 2)) (ps.map .int) [some (.str w), some (.str v), some (.int fr), c3, some (.obj M0.length), c5, some (.obj (M0.length + (olds.length + 1))), some (.tup (X.enc a.1)), some (.tup (Y.enc a.2)), some (.tup (us.map .int)), some (.int p), some (.tup (X.enc (X.step a.1 p).1)), some (.bl (X.step a.1 p).2), some (.tup (Y.enc (Y.step a.2 p).1)), some (.bl (Y.step a.2 p).2)] (mP X Y M0 seen olds later) := by
          simp [forG, fg_10_0, fb_10_0, hp, hq, eq_bb, he, hn, LIM]
        rw [e]
        exact ih
      · have hin' : inS X Y seen ((X.step a.1 p).1, (Y.step a.2 p).1) = false := by simpa using hin
        rw [if_neg hin]
        have ih := pg_loop X Y n M0 olds c5 c3 a us hi hj hus ps (seen ++ [((X.step a.1 p).1, (Y.step a.2 p).1)]) (later ++ [(((X.step a.1 p).1, (Y.step a.2 p).1), us ++ [p])]) (some (.int p)) (some (.tup (X.enc (X.step a.1 p).1))) (some (.bl (X.step a.1 p).2)) (some (.tup (Y.enc (Y.step a.2 p).1))) (some (.bl (Y.step a.2 p).2)) (by simp; omega) (by simp; omega)
        have hn := in_seen X Y M0 seen olds later ((X.step a.1 p).1, (Y.step a.2 p).1)
        rw [hin'] at hn
        have hset := set_seen X Y M0 seen olds later ((X.step a.1 p).1, (Y.step a.2 p).1) hin' (by omega)
        have happ := app_later X Y M0 (seen ++ [((X.step a.1 p).1, (Y.step a.2 p).1)]) olds later (((X.step a.1 p).1, (Y.step a.2 p).1), us ++ [p]) (by omega)
        have hlt := mP_later X Y M0 (seen ++ [((X.step a.1 p).1, (Y.step a.2 p).1)]) olds later
        simp only [wD] at happ
        have e : forG none fg_10_0 fb_10_0 (callF tb (n + 2)) ((p :: ps).map .int) [some (.str w), some (.str v), some (.int fr), c3, some (.obj M0.length), c5, some (.obj (M0.length + (olds.length + 1))), some (.tup (X.enc a.1)), some (.tup (Y.enc a.2)), some (.tup (us.map .int)), y0, y1, y2, y3, y4] (mP X Y M0 seen olds later)
            = forG none fg_10_0 fb_10_0 (callF tb (n + 2)) (ps.map .int) [some (.str w), some (.str v), some (.int fr), c3, some (.obj M0.length), c5, some (.obj (M0.length + (olds.length + 1))), some (.tup (X.enc a.1)), some (.tup (Y.enc a.2)), some (.tup (us.map .int)), some (.int p), some (.tup (X.enc (X.step a.1 p).1)), some (.bl (X.step a.1 p).2), some (.tup (Y.enc (Y.step a.2 p).1)), some (.bl (Y.step a.2 p).2)] (mP X Y M0 (seen ++ [((X.step a.1 p).1, (Y.step a.2 p).1)]) olds (later ++ [(((X.step a.1 p).1, (Y.step a.2 p).1), us ++ [p])])) := by
          simp [forG, fg_10_0, fb_10_0, hp, hq, eq_bb, he, hn, LIM, hset, hlt, hadd] at happ ⊢
          simp [happ]
        rw [e]
        exact ih
    · rw [if_neg he]
      refine ⟨mP X Y M0 seen olds later, ?_, mP_take X Y M0 seen olds later⟩
      simp [forG, fg_10_0, fb_10_0, hp, hq, eq_bb, he, hadd, LIM]
end K50

namespace K50
open PySem L2 RI
variable {w v : List Nat} {fr : Nat}
theorem rng_map (m : Nat) : rngD 0 m = ((List.range m).map fun i : Nat => (i : Int)).map .int := by
  simp [rngD]
def pagesL (m : Nat) : List Int := (List.range m).map fun i : Nat => (i : Int)
/-- stores that may stand: how many there can be -/
structure Bd (X : Sim w fr) (Y : Sim v fr) (ps : List Int) where
  P : X.S × Y.S → Prop
  ix : ∀ a, P a → X.inv a.1
  iy : ∀ a, P a → Y.inv a.2
  st : ∀ a p, P a → p ∈ ps → P ((X.step a.1 p).1, (Y.step a.2 p).1)
  p0 : P (X.init, Y.init)
  card : ∀ l : List (X.S × Y.S), l.Nodup → (∀ a ∈ l, P a) → l.length ≤ 9000000
theorem inS_mem (X : Sim w fr) (Y : Sim v fr) (seen : List (X.S × Y.S)) (a : X.S × Y.S) : inS X Y seen a = true ↔ a ∈ seen := by
  unfold inS
  rw [List.any_eq_true]
  constructor
  · rintro ⟨b, hb, e⟩
    have e := (beq_iff _ _).mp e
    simp only [keyD, D.toK, D.toKs, NestedKey.tup.injEq, List.cons.injEq, and_true] at e
    have : b = a := Prod.ext (X.inj _ _ e.1) (Y.inj _ _ e.2)
    rw [← this]; exact hb
  · intro h
    exact ⟨a, h, (beq_iff _ _).mpr rfl⟩
end K50

namespace K50
open PySem L2 RI
variable {w v : List Nat} {fr : Nat}
/-- what stays true of the search: L is the length of the uses of this level -/
structure Good {X : Sim w fr} {Y : Sim v fr} {ps : List Int} (B : Bd X Y ps) (L : Nat) (seen : List (X.S × Y.S)) (later : List (Wt X Y)) : Prop where
  nd : seen.Nodup
  p : ∀ a ∈ seen, B.P a
  l : ∀ q ∈ later, B.P q.1 ∧ q.2.length = L
  le : later.length ≤ seen.length
theorem Good.len {X : Sim w fr} {Y : Sim v fr} {ps : List Int} {B : Bd X Y ps} {L : Nat} {seen : List (X.S × Y.S)} {later : List (Wt X Y)} (g : Good B L seen later) : seen.length ≤ 9000000 ∧ later.length ≤ 9000000 := by
  have h := B.card seen g.nd g.p
  have h2 := g.le
  exact ⟨h, by omega⟩
theorem pgs_good {X : Sim w fr} {Y : Sim v fr} {ps0 : List Int} (B : Bd X Y ps0) (a : X.S × Y.S) (us : List Int) (ha : B.P a) : ∀ (ps : List Int) (seen : List (X.S × Y.S)) (later : List (Wt X Y)) (z : List (X.S × Y.S) × List (Wt X Y)), (∀ p ∈ ps, p ∈ ps0) → Good B (us.length + 1) seen later → pgs X Y a us ps seen later = .inr z → Good B (us.length + 1) z.1 z.2
  | [], seen, later, z, _, g, h => by cases h; exact g
  | p :: ps, seen, later, z, hp, g, h => by
    unfold pgs at h
    split at h
    · split at h
      · exact pgs_good B a us ha ps seen later z (fun q hq => hp q (List.mem_cons_of_mem _ hq)) g h
      · rename_i hin
        refine pgs_good B a us ha ps _ _ z (fun q hq => hp q (List.mem_cons_of_mem _ hq)) ?_ h
        have hP := B.st a p ha (hp p List.mem_cons_self)
        refine ⟨?_, ?_, ?_, ?_⟩
        · rw [List.nodup_append]
          refine ⟨g.nd, by simp, ?_⟩
          intro x hx y hy e
          simp only [List.mem_singleton] at hy
          subst hy; subst e
          exact hin ((inS_mem X Y seen _).mpr hx)
        · intro b hb
          rcases List.mem_append.mp hb with hb | hb
          · exact g.p b hb
          · simp only [List.mem_singleton] at hb
            subst hb; exact hP
        · intro q hq
          rcases List.mem_append.mp hq with hq | hq
          · exact g.l q hq
          · simp only [List.mem_singleton] at hq
            subst hq; exact ⟨hP, by simp⟩
        · have := g.le
          simp; omega
    · cases h
end K50

namespace K50
open PySem L2 RI
variable {w v : List Nat} {fr : Nat}
theorem pages_len (m : Nat) : (pagesL m).length = m := by simp [pagesL]
theorem lvl_good {X : Sim w fr} {Y : Sim v fr} {ps0 : List Int} (B : Bd X Y ps0) (L : Nat) : ∀ (qs : List (Wt X Y)) (seen : List (X.S × Y.S)) (later : List (Wt X Y)) (z : List (X.S × Y.S) × List (Wt X Y)), (∀ q ∈ qs, B.P q.1 ∧ q.2.length = L) → Good B (L + 1) seen later → lvl X Y ps0 qs seen later = .inr z → Good B (L + 1) z.1 z.2
  | [], seen, later, z, _, g, h => by cases h; exact g
  | q :: qs, seen, later, z, hq, g, h => by
    obtain ⟨h1, h2⟩ := hq q List.mem_cons_self
    unfold lvl at h
    split at h
    · cases h
    · rename_i s l e
      have g' := pgs_good B q.1 q.2 h1 ps0 seen later (s, l) (fun p hp => hp) (by rw [h2]; exact g) e
      rw [h2] at g'
      exact lvl_good B L qs s l z (fun q hq' => hq q (List.mem_cons_of_mem _ hq')) g' h
/-- the loop over what waits -/
theorem lv_loop {X : Sim w fr} {Y : Sim v fr} (many : Nat) (hm : many ≤ 5) (B : Bd X Y (pagesL many)) (n : Nat) (M0 : Mem) (olds : Mem) (c5 : Option D) (L : Nat) (hL : L ≤ 10000000) : ∀ (qs : List (Wt X Y)) (seen : List (X.S × Y.S)) (later : List (Wt X Y)) (x7 x8 x9 y0 y1 y2 y3 y4 : Option D),
    (∀ q ∈ qs, B.P q.1 ∧ q.2.length = L) → Good B (L + 1) seen later →
    match lvl X Y (pagesL many) qs seen later with
    | .inl r => ∃ M', forG none fg_10_1 fb_10_1 (callF tb (n + 2)) (qs.map (wD X Y)) [some (.str w), some (.str v), some (.int fr), some (.int many), some (.obj M0.length), c5, some (.obj (M0.length + (olds.length + 1))), x7, x8, x9, y0, y1, y2, y3, y4] (mP X Y M0 seen olds later)
        = .ok (.ret (.tup (r.map .int))) M' ∧ M'.take M0.length = M0
    | .inr z => ∃ x7' x8' x9' y0' y1' y2' y3' y4', forG none fg_10_1 fb_10_1 (callF tb (n + 2)) (qs.map (wD X Y)) [some (.str w), some (.str v), some (.int fr), some (.int many), some (.obj M0.length), c5, some (.obj (M0.length + (olds.length + 1))), x7, x8, x9, y0, y1, y2, y3, y4] (mP X Y M0 seen olds later)
        = .ok (.next [some (.str w), some (.str v), some (.int fr), some (.int many), some (.obj M0.length), c5, some (.obj (M0.length + (olds.length + 1))), x7', x8', x9', y0', y1', y2', y3', y4']) (mP X Y M0 z.1 olds z.2)
  | [], seen, later, x7, x8, x9, y0, y1, y2, y3, y4, _, _ => ⟨x7, x8, x9, y0, y1, y2, y3, y4, rfl⟩
  | q :: qs, seen, later, x7, x8, x9, y0, y1, y2, y3, y4, hq, g => by
    obtain ⟨h1, h2⟩ := hq q List.mem_cons_self
    have hlen := g.len
    have hpl := pages_len many
    have hb1 : rngOk (many : Int) = true := rngOk_of (by omega) (by omega)
    have hr : rngD 0 many = (pagesL many).map .int := rng_map many
    have hp := pg_loop X Y n M0 olds c5 (some (.int many)) q.1 q.2 (B.ix _ h1) (B.iy _ h1) (by omega) (pagesL many) seen later y0 y1 y2 y3 y4 (by omega) (by omega)
    unfold lvl
    cases e : pgs X Y q.1 q.2 (pagesL many) seen later with
    | inl r =>
      rw [e] at hp
      obtain ⟨M', e1, e2⟩ := hp
      refine ⟨M', ?_, e2⟩
      simp [forG, fg_10_1, fb_10_1, wD, hb1, hr, e1]
    | inr z =>
      rw [e] at hp
      obtain ⟨y0', y1', y2', y3', y4', e1⟩ := hp
      have g' := pgs_good B q.1 q.2 h1 (pagesL many) seen later z (fun p hp => hp) (by rw [h2]; exact g) e
      rw [h2] at g'
      have ih := lv_loop many hm B n M0 olds c5 L hL qs z.1 z.2 (some (.tup (X.enc q.1.1))) (some (.tup (Y.enc q.1.2))) (some (.tup (q.2.map .int))) y0' y1' y2' y3' y4' (fun q hq' => hq q (List.mem_cons_of_mem _ hq')) g'
      have e2 : forG none fg_10_1 fb_10_1 (callF tb (n + 2)) ((q :: qs).map (wD X Y)) [some (.str w), some (.str v), some (.int fr), some (.int many), some (.obj M0.length), c5, some (.obj (M0.length + (olds.length + 1))), x7, x8, x9, y0, y1, y2, y3, y4] (mP X Y M0 seen olds later)
        = forG none fg_10_1 fb_10_1 (callF tb (n + 2)) (qs.map (wD X Y)) [some (.str w), some (.str v), some (.int fr), some (.int many), some (.obj M0.length), c5, some (.obj (M0.length + (olds.length + 1))), some (.tup (X.enc q.1.1)), some (.tup (Y.enc q.1.2)), some (.tup (q.2.map .int)), y0', y1', y2', y3', y4'] (mP X Y M0 z.1 olds z.2) := by
        simp [forG, fg_10_1, fb_10_1, wD, hb1, hr, e1]
      rw [e2]
      exact ih
end K50

namespace K50
open PySem L2 RI
variable {w v : List Nat} {fr : Nat}
def mH (X : Sim w fr) (Y : Sim v fr) (M0 : Mem) (seen : List (X.S × Y.S)) (olds : Mem) : Mem := M0 ++ .dct (sD X Y seen) :: olds
theorem mH_new (X : Sim w fr) (Y : Sim v fr) (M0 : Mem) (seen : List (X.S × Y.S)) (olds : Mem) : newO [] (mH X Y M0 seen olds) = .ok (.obj (M0.length + (olds.length + 1))) (mP X Y M0 seen olds []) := by
  rw [newO_pure rfl]
  have : (mH X Y M0 seen olds).length = M0.length + (olds.length + 1) := by simp [mH]
  rw [this]
  simp [mH, mP]
theorem mP_mH (X : Sim w fr) (Y : Sim v fr) (M0 : Mem) (seen : List (X.S × Y.S)) (olds : Mem) (later : List (Wt X Y)) : mP X Y M0 seen olds later = mH X Y M0 seen (olds ++ [.lst (later.map (wD X Y))]) := rfl
/-- the levels -/
theorem wh_loop {X : Sim w fr} {Y : Sim v fr} (many : Nat) (hm : many ≤ 5) (B : Bd X Y (pagesL many)) (n : Nat) (M0 : Mem) : ∀ (N K : Nat) (L : Nat) (seen : List (X.S × Y.S)) (wt : List (Wt X Y)) (olds : Mem) (res : Option (List Int)) (x6 x7 x8 x9 y0 y1 y2 y3 y4 : Option D), N ≤ K → L + N ≤ 10000000 →
    seen.Nodup → (∀ a ∈ seen, B.P a) → (∀ q ∈ wt, B.P q.1 ∧ q.2.length = L) → bfs X Y (pagesL many) N seen wt = some res →
    match res with
    | some r => ∃ M', whileN wc_10_2 wb_10_2 (callF tb (n + 2)) K [some (.str w), some (.str v), some (.int fr), some (.int many), some (.obj M0.length), some (.lst (wt.map (wD X Y))), x6, x7, x8, x9, y0, y1, y2, y3, y4] (mH X Y M0 seen olds)
        = .ok (.ret (.tup (r.map .int))) M' ∧ M'.take M0.length = M0
    | none => ∃ r' M', whileN wc_10_2 wb_10_2 (callF tb (n + 2)) K [some (.str w), some (.str v), some (.int fr), some (.int many), some (.obj M0.length), some (.lst (wt.map (wD X Y))), x6, x7, x8, x9, y0, y1, y2, y3, y4] (mH X Y M0 seen olds)
        = .ok (.next r') M' ∧ M'.take M0.length = M0
  | 0, K, L, seen, wt, olds, res, x6, x7, x8, x9, y0, y1, y2, y3, y4, _, _, _, _, _, h => by cases h
  | N + 1, 0, L, seen, wt, olds, res, x6, x7, x8, x9, y0, y1, y2, y3, y4, hk, _, _, _, _, h => by omega
  | N + 1, K + 1, L, seen, wt, olds, res, x6, x7, x8, x9, y0, y1, y2, y3, y4, hk, hL, nd, hP, hw, h => by
    unfold bfs at h
    cases wt with
    | nil =>
      simp only [List.isEmpty_nil, if_true, Option.some.injEq] at h
      subst h
      exact ⟨_, mH X Y M0 seen olds, (by simp [whileN, wc_10_2, truD]; exact rfl), (by simp [mH])⟩
    | cons q qs =>
      simp only [List.isEmpty_cons, Bool.false_eq_true, if_false] at h
      have hn := mH_new X Y M0 seen olds
      have g0 : Good B (L + 1) seen ([] : List (Wt X Y)) := ⟨nd, hP, (fun q hq => by cases hq), Nat.zero_le _⟩
      have hlv := lv_loop many hm B n M0 olds (some (.lst ((q :: qs).map (wD X Y)))) L (by omega) (q :: qs) seen [] x7 x8 x9 y0 y1 y2 y3 y4 hw g0
      cases e : lvl X Y (pagesL many) (q :: qs) seen [] with
      | inl r =>
        rw [e] at h hlv
        simp only [Option.some.injEq] at h
        subst h
        obtain ⟨M', e1, e2⟩ := hlv
        refine ⟨M', ?_, e2⟩
        simp only [List.map_cons] at e1
        simp [whileN, wc_10_2, wb_10_2, truD, hn, e1, LIM]
      | inr z =>
        rw [e] at h hlv
        obtain ⟨x7', x8', x9', y0', y1', y2', y3', y4', e1⟩ := hlv
        have g' := lvl_good B L (q :: qs) seen [] z hw g0 e
        have ih := wh_loop many hm B n M0 N K (L + 1) z.1 z.2 (olds ++ [.lst (z.2.map (wD X Y))]) res (some (.obj (M0.length + (olds.length + 1)))) x7' x8' x9' y0' y1' y2' y3' y4' (by omega) (by omega) g'.nd g'.p g'.l h
        have hto : toLstD false [.obj (M0.length + (olds.length + 1))] (mP X Y M0 z.1 olds z.2) = .ok (.lst (z.2.map (wD X Y))) (mP X Y M0 z.1 olds z.2) := toLst_of (by simp only [seqD, mP_later])
        have e2 : whileN wc_10_2 wb_10_2 (callF tb (n + 2)) (K + 1) [some (.str w), some (.str v), some (.int fr), some (.int many), some (.obj M0.length), some (.lst ((q :: qs).map (wD X Y))), x6, x7, x8, x9, y0, y1, y2, y3, y4] (mH X Y M0 seen olds)
            = whileN wc_10_2 wb_10_2 (callF tb (n + 2)) K [some (.str w), some (.str v), some (.int fr), some (.int many), some (.obj M0.length), some (.lst (z.2.map (wD X Y))), some (.obj (M0.length + (olds.length + 1))), x7', x8', x9', y0', y1', y2', y3', y4'] (mH X Y M0 z.1 (olds ++ [.lst (z.2.map (wD X Y))])) := by
          simp only [List.map_cons] at e1
          rw [← mP_mH]
          simp [whileN, wc_10_2, wb_10_2, truD, hn, e1, LIM, hto]
        rw [e2]
        exact ih
end K50

namespace K50
open PySem L2 RI
variable {w v : List Nat} {fr : Nat}
theorem check_many (n : Nat) (m : Int) (h1 : 1 ≤ m) (h2 : m ≤ 5) (M : Mem) : callF tb (n + 2) 9 [.int m] M = .ok .non M := by
  rw [u_9]
  simp [b_9, is_from, h1, h2, truD]
def resD : Option (List Int) → D
  | some r => .tup (r.map .int)
  | none => .non
theorem parting {X : Sim w fr} {Y : Sim v fr} (hw : IsRule w) (hv : IsRule v) (h1 : 1 ≤ fr) (h4 : fr ≤ 4) (many : Nat) (hm1 : 1 ≤ many) (hm : many ≤ 5) (B : Bd X Y (pagesL many)) (n N : Nat) (hN : N ≤ 10000000) (res : Option (List Int)) (M : Mem)
    (h : bfs X Y (pagesL many) N [(X.init, Y.init)] [((X.init, Y.init), [])] = some res) : callF tb (n + 3) 10 [.str w, .str v, .int fr, .int many] M = .ok (resD res) M := by
  have hl := wh_loop many hm B n M N FUEL 0 [(X.init, Y.init)] [((X.init, Y.init), [])] [] res none none none none none none none none none (by show N ≤ 1000000000; omega) (by omega) (by simp) (by intro a ha; simp at ha; subst ha; exact B.p0) (by intro q hq; simp at hq; subst hq; exact ⟨B.p0, rfl⟩) h
  have hk : D.isKey (.tup [.tup [], .tup []]) = true := rfl
  rw [u_10]
  have hmem : M ++ [.dct [(.tup [.tup [], .tup []], .bl true)]] = mH X Y M [(X.init, Y.init)] [] := by
    simp [mH, sD, keyD, X.e0, Y.e0]
  have hwt : [((X.init, Y.init), ([] : List Int))].map (wD X Y) = [.tup [.tup [], .tup [], .tup []]] := by
    simp [wD, X.e0, Y.e0]
  rw [hwt] at hl
  cases res with
  | some r =>
    obtain ⟨M', e1, e2⟩ := hl
    simp [b_10, check_page_rule _ w hw, check_page_rule _ v hv, check_frames _ (fr : Int) 4 (by omega) (by omega), check_many _ (many : Int) (by omega) (by omega), LIM, hk, D.bel, hmem, e1, resD]
    exact fin_pure (by simp) e2
  | none =>
    obtain ⟨r', M', e1, e2⟩ := hl
    simp [b_10, check_page_rule _ w hw, check_page_rule _ v hv, check_frames _ (fr : Int) 4 (by omega) (by omega), check_many _ (many : Int) (by omega) (by omega), LIM, hk, D.bel, hmem, e1, resD]
    exact fin_pure rfl e2
end K50

namespace K50
open PySem L2 RI
variable {w v : List Nat} {fr : Nat}
theorem pgs_grow (X : Sim w fr) (Y : Sim v fr) (a : X.S × Y.S) (us : List Int) : ∀ (ps : List Int) (seen : List (X.S × Y.S)) (later : List (Wt X Y)) (z : List (X.S × Y.S) × List (Wt X Y)), pgs X Y a us ps seen later = .inr z → z.1.length + later.length = seen.length + z.2.length
  | [], seen, later, z, h => by cases h; rfl
  | p :: ps, seen, later, z, h => by
    unfold pgs at h
    split at h
    · split at h
      · exact pgs_grow X Y a us ps seen later z h
      · have := pgs_grow X Y a us ps _ _ z h
        simp at this; omega
    · cases h
theorem lvl_grow (X : Sim w fr) (Y : Sim v fr) (ps : List Int) : ∀ (qs : List (Wt X Y)) (seen : List (X.S × Y.S)) (later : List (Wt X Y)) (z : List (X.S × Y.S) × List (Wt X Y)), lvl X Y ps qs seen later = .inr z → z.1.length + later.length = seen.length + z.2.length
  | [], seen, later, z, h => by cases h; rfl
  | q :: qs, seen, later, z, h => by
    unfold lvl at h
    split at h
    · cases h
    · rename_i s l e
      have h1 := pgs_grow X Y _ _ _ _ _ _ e
      have h2 := lvl_grow X Y ps qs s l z h
      simp at h1; omega
theorem bfs_ends {X : Sim w fr} {Y : Sim v fr} {ps : List Int} (B : Bd X Y ps) : ∀ (N L : Nat) (seen : List (X.S × Y.S)) (wt : List (Wt X Y)), seen.Nodup → (∀ a ∈ seen, B.P a) → (∀ q ∈ wt, B.P q.1 ∧ q.2.length = L) → 9000001 < seen.length + N → ∃ res, bfs X Y ps N seen wt = some res
  | 0, L, seen, wt, nd, hP, hw, h => by
    have := B.card seen nd hP
    omega
  | N + 1, L, seen, wt, nd, hP, hw, h => by
    unfold bfs
    cases wt with
    | nil => exact ⟨none, rfl⟩
    | cons q qs =>
      simp only [List.isEmpty_cons, Bool.false_eq_true, if_false]
      cases e : lvl X Y ps (q :: qs) seen [] with
      | inl r => exact ⟨some r, rfl⟩
      | inr z =>
        have g0 : Good B (L + 1) seen ([] : List (Wt X Y)) := ⟨nd, hP, (fun q hq => by cases hq), Nat.zero_le _⟩
        have g' := lvl_good B L (q :: qs) seen [] z hw g0 e
        have gr := lvl_grow X Y ps _ _ _ _ e
        simp at gr
        obtain ⟨s, l⟩ := z
        cases l with
        | nil =>
          have hc := B.card seen nd hP
          cases N with
          | zero => omega
          | succ N => exact ⟨none, rfl⟩
        | cons q' qs' =>
          simp at gr
          exact bfs_ends B N (L + 1) s (q' :: qs') g'.nd g'.p g'.l (by omega)
end K50

namespace K50
open PySem L2 RI
variable {w v : List Nat} {fr : Nat}
/-- the law's own loop over the pages -/
theorem pg_loopL (X : Sim w fr) (Y : Sim v fr) (n : Nat) (M0 : Mem) (olds : Mem) (c5 c3 : Option D) (a : X.S × Y.S) (us : List Int) (hi : X.inv a.1) (hj : Y.inv a.2) (hus : us.length ≤ 10000000) : ∀ (ps : List Int) (seen : List (X.S × Y.S)) (later : List (Wt X Y)) (y0 y1 y2 y3 y4 y5 : Option D),
    seen.length + ps.length ≤ 16777215 → later.length + ps.length ≤ 16777215 →
    match pgs X Y a us ps seen later with
    | .inl r => ∃ M', forG none fg_17_0 fb_17_0 (callF tb (n + 2)) (ps.map .int) [some (.str w), some (.str v), some (.int fr), c3, some (.obj M0.length), c5, some (.obj (M0.length + (olds.length + 1))), some (.tup (X.enc a.1)), some (.tup (Y.enc a.2)), some (.tup (us.map .int)), y0, y1, y2, y3, y4, y5] (mP X Y M0 seen olds later)
        = .ok (.ret (.tup (r.map .int))) M' ∧ M'.take M0.length = M0
    | .inr z => ∃ y0' y1' y2' y3' y4' y5', forG none fg_17_0 fb_17_0 (callF tb (n + 2)) (ps.map .int) [some (.str w), some (.str v), some (.int fr), c3, some (.obj M0.length), c5, some (.obj (M0.length + (olds.length + 1))), some (.tup (X.enc a.1)), some (.tup (Y.enc a.2)), some (.tup (us.map .int)), y0, y1, y2, y3, y4, y5] (mP X Y M0 seen olds later)
        = .ok (.next [some (.str w), some (.str v), some (.int fr), c3, some (.obj M0.length), c5, some (.obj (M0.length + (olds.length + 1))), some (.tup (X.enc a.1)), some (.tup (Y.enc a.2)), some (.tup (us.map .int)), y0', y1', y2', y3', y4', y5']) (mP X Y M0 z.1 olds z.2)
  | [], seen, later, y0, y1, y2, y3, y4, y5, _, _ => ⟨y0, y1, y2, y3, y4, y5, rfl⟩
  | p :: ps, seen, later, y0, y1, y2, y3, y4, y5, hs, hl => by
    have hp := X.law n a.1 p (mP X Y M0 seen olds later) hi
    have hq := Y.law n a.2 p (mP X Y M0 seen olds later) hj
    have hadd : ∀ M, addD (.tup (us.map .int)) (.tup [.int p]) M = .ok (.tup ((us ++ [p]).map .int)) M := fun M => by
      rw [add_tup (by simp [LIM]; omega)]; simp
    have hadd2 : ∀ (x y z : D) M, addD (.tup [x, y]) (.tup [z]) M = .ok (.tup [x, y, z]) M := fun x y z M => by
      rw [add_tup (by simp [LIM])]; rfl
    have hl1 : ∀ M, toLstD false [.tup (X.enc a.1)] M = .ok (.lst (X.enc a.1)) M := fun M => toLst_of rfl
    have hl2 : ∀ M, toLstD false [.tup (Y.enc a.2)] M = .ok (.lst (Y.enc a.2)) M := fun M => toLst_of rfl
    have ht : ∀ l M, toTupD [.lst l] M = .ok (.tup l) M := fun l M => tup_of rfl
    simp only [List.length_cons] at hs hl
    unfold pgs
    by_cases he : (X.step a.1 p).2 = (Y.step a.2 p).2
    · rw [if_pos he]
      by_cases hin : inS X Y seen ((X.step a.1 p).1, (Y.step a.2 p).1) = true
      · rw [if_pos hin]
        have ih := pg_loopL X Y n M0 olds c5 c3 a us hi hj hus ps seen later (some (.int p)) (some (.tup [.tup (X.enc (X.step a.1 p).1), .tup (Y.enc (Y.step a.2 p).1)])) (some (.lst (X.enc (X.step a.1 p).1))) (some (.bl (X.step a.1 p).2)) (some (.lst (Y.enc (Y.step a.2 p).1))) (some (.bl (Y.step a.2 p).2)) (by omega) (by omega)
        have hn := in_seen X Y M0 seen olds later ((X.step a.1 p).1, (Y.step a.2 p).1)
        rw [hin] at hn
        have e : forG none fg_17_0 fb_17_0 (callF tb (n + 2)) ((p :: ps).map .int) [some (.str w), some (.str v), some (.int fr), c3, some (.obj M0.length), c5, some (.obj (M0.length + (olds.length + 1))), some (.tup (X.enc a.1)), some (.tup (Y.enc a.2)), some (.tup (us.map .int)), y0, y1, y2, y3, y4, y5] (mP X Y M0 seen olds later)
            = forG none fg_17_0 fb_17_0 (callF tb (n + 2)) (ps.map .int) [some (.str w), some (.str v), some (.int fr), c3, some (.obj M0.length), c5, some (.obj (M0.length + (olds.length + 1))), some (.tup (X.enc a.1)), some (.tup (Y.enc a.2)), some (.tup (us.map .int)), some (.int p), some (.tup [.tup (X.enc (X.step a.1 p).1), .tup (Y.enc (Y.step a.2 p).1)]), some (.lst (X.enc (X.step a.1 p).1)), some (.bl (X.step a.1 p).2), some (.lst (Y.enc (Y.step a.2 p).1)), some (.bl (Y.step a.2 p).2)] (mP X Y M0 seen olds later) := by
          simp [forG, fg_17_0, fb_17_0, hl1, hl2, ht, hp, hq, eq_bb, he, hn, LIM]
        rw [e]
        exact ih
      · have hin' : inS X Y seen ((X.step a.1 p).1, (Y.step a.2 p).1) = false := by simpa using hin
        rw [if_neg hin]
        have ih := pg_loopL X Y n M0 olds c5 c3 a us hi hj hus ps (seen ++ [((X.step a.1 p).1, (Y.step a.2 p).1)]) (later ++ [(((X.step a.1 p).1, (Y.step a.2 p).1), us ++ [p])]) (some (.int p)) (some (.tup [.tup (X.enc (X.step a.1 p).1), .tup (Y.enc (Y.step a.2 p).1)])) (some (.lst (X.enc (X.step a.1 p).1))) (some (.bl (X.step a.1 p).2)) (some (.lst (Y.enc (Y.step a.2 p).1))) (some (.bl (Y.step a.2 p).2)) (by simp; omega) (by simp; omega)
        have hn := in_seen X Y M0 seen olds later ((X.step a.1 p).1, (Y.step a.2 p).1)
        rw [hin'] at hn
        have hset := set_seen X Y M0 seen olds later ((X.step a.1 p).1, (Y.step a.2 p).1) hin' (by omega)
        have happ := app_later X Y M0 (seen ++ [((X.step a.1 p).1, (Y.step a.2 p).1)]) olds later (((X.step a.1 p).1, (Y.step a.2 p).1), us ++ [p]) (by omega)
        have hlt := mP_later X Y M0 (seen ++ [((X.step a.1 p).1, (Y.step a.2 p).1)]) olds later
        simp only [wD] at happ
        have e : forG none fg_17_0 fb_17_0 (callF tb (n + 2)) ((p :: ps).map .int) [some (.str w), some (.str v), some (.int fr), c3, some (.obj M0.length), c5, some (.obj (M0.length + (olds.length + 1))), some (.tup (X.enc a.1)), some (.tup (Y.enc a.2)), some (.tup (us.map .int)), y0, y1, y2, y3, y4, y5] (mP X Y M0 seen olds later)
            = forG none fg_17_0 fb_17_0 (callF tb (n + 2)) (ps.map .int) [some (.str w), some (.str v), some (.int fr), c3, some (.obj M0.length), c5, some (.obj (M0.length + (olds.length + 1))), some (.tup (X.enc a.1)), some (.tup (Y.enc a.2)), some (.tup (us.map .int)), some (.int p), some (.tup [.tup (X.enc (X.step a.1 p).1), .tup (Y.enc (Y.step a.2 p).1)]), some (.lst (X.enc (X.step a.1 p).1)), some (.bl (X.step a.1 p).2), some (.lst (Y.enc (Y.step a.2 p).1)), some (.bl (Y.step a.2 p).2)] (mP X Y M0 (seen ++ [((X.step a.1 p).1, (Y.step a.2 p).1)]) olds (later ++ [(((X.step a.1 p).1, (Y.step a.2 p).1), us ++ [p])])) := by
          simp [forG, fg_17_0, fb_17_0, hl1, hl2, ht, hp, hq, eq_bb, he, hn, LIM, hset, hlt, hadd, hadd2] at happ ⊢
          simp [happ]
        rw [e]
        exact ih
    · rw [if_neg he]
      refine ⟨mP X Y M0 seen olds later, ?_, mP_take X Y M0 seen olds later⟩
      simp [forG, fg_17_0, fb_17_0, hl1, hl2, ht, hp, hq, eq_bb, he, hadd, LIM]
end K50

namespace K50
open PySem L2 RI
variable {w v : List Nat} {fr : Nat}
theorem lv_loopL {X : Sim w fr} {Y : Sim v fr} (many : Nat) (hm : many ≤ 5) (B : Bd X Y (pagesL many)) (n : Nat) (M0 : Mem) (olds : Mem) (c5 : Option D) (gd : Gd) (hgd : ∀ seen later, Gd.ok gd (mP X Y M0 seen olds later) = true) (L : Nat) (hL : L ≤ 10000000) : ∀ (qs : List (Wt X Y)) (seen : List (X.S × Y.S)) (later : List (Wt X Y)) (x7 x8 x9 y0 y1 y2 y3 y4 y5 : Option D),
    (∀ q ∈ qs, B.P q.1 ∧ q.2.length = L) → Good B (L + 1) seen later →
    match lvl X Y (pagesL many) qs seen later with
    | .inl r => ∃ M', forG gd fg_17_1 fb_17_1 (callF tb (n + 2)) (qs.map (wD X Y)) [some (.str w), some (.str v), some (.int fr), some (.int many), some (.obj M0.length), c5, some (.obj (M0.length + (olds.length + 1))), x7, x8, x9, y0, y1, y2, y3, y4, y5] (mP X Y M0 seen olds later)
        = .ok (.ret (.tup (r.map .int))) M' ∧ M'.take M0.length = M0
    | .inr z => ∃ x7' x8' x9' y0' y1' y2' y3' y4' y5', forG gd fg_17_1 fb_17_1 (callF tb (n + 2)) (qs.map (wD X Y)) [some (.str w), some (.str v), some (.int fr), some (.int many), some (.obj M0.length), c5, some (.obj (M0.length + (olds.length + 1))), x7, x8, x9, y0, y1, y2, y3, y4, y5] (mP X Y M0 seen olds later)
        = .ok (.next [some (.str w), some (.str v), some (.int fr), some (.int many), some (.obj M0.length), c5, some (.obj (M0.length + (olds.length + 1))), x7', x8', x9', y0', y1', y2', y3', y4', y5']) (mP X Y M0 z.1 olds z.2)
  | [], seen, later, x7, x8, x9, y0, y1, y2, y3, y4, y5, _, _ => ⟨x7, x8, x9, y0, y1, y2, y3, y4, y5, by simp [forG, hgd]⟩
  | q :: qs, seen, later, x7, x8, x9, y0, y1, y2, y3, y4, y5, hq, g => by
    obtain ⟨h1, h2⟩ := hq q List.mem_cons_self
    have hlen := g.len
    have hpl := pages_len many
    have hb1 : rngOk (many : Int) = true := rngOk_of (by omega) (by omega)
    have hr : rngD 0 many = (pagesL many).map .int := rng_map many
    have hp := pg_loopL X Y n M0 olds c5 (some (.int many)) q.1 q.2 (B.ix _ h1) (B.iy _ h1) (by omega) (pagesL many) seen later y0 y1 y2 y3 y4 y5 (by omega) (by omega)
    unfold lvl
    cases e : pgs X Y q.1 q.2 (pagesL many) seen later with
    | inl r =>
      rw [e] at hp
      obtain ⟨M', e1, e2⟩ := hp
      refine ⟨M', ?_, e2⟩
      simp [forG, fg_17_1, fb_17_1, wD, hb1, hr, e1, hgd]
    | inr z =>
      rw [e] at hp
      obtain ⟨y0', y1', y2', y3', y4', y5', e1⟩ := hp
      have g' := pgs_good B q.1 q.2 h1 (pagesL many) seen later z (fun p hp => hp) (by rw [h2]; exact g) e
      rw [h2] at g'
      have ih := lv_loopL many hm B n M0 olds c5 gd hgd L hL qs z.1 z.2 (some (.tup (X.enc q.1.1))) (some (.tup (Y.enc q.1.2))) (some (.tup (q.2.map .int))) y0' y1' y2' y3' y4' y5' (fun q hq' => hq q (List.mem_cons_of_mem _ hq')) g'
      have e2 : forG gd fg_17_1 fb_17_1 (callF tb (n + 2)) ((q :: qs).map (wD X Y)) [some (.str w), some (.str v), some (.int fr), some (.int many), some (.obj M0.length), c5, some (.obj (M0.length + (olds.length + 1))), x7, x8, x9, y0, y1, y2, y3, y4, y5] (mP X Y M0 seen olds later)
        = forG gd fg_17_1 fb_17_1 (callF tb (n + 2)) (qs.map (wD X Y)) [some (.str w), some (.str v), some (.int fr), some (.int many), some (.obj M0.length), c5, some (.obj (M0.length + (olds.length + 1))), some (.tup (X.enc q.1.1)), some (.tup (Y.enc q.1.2)), some (.tup (q.2.map .int)), y0', y1', y2', y3', y4', y5'] (mP X Y M0 z.1 olds z.2) := by
        simp [forG, fg_17_1, fb_17_1, wD, hb1, hr, e1, hgd]
      rw [e2]
      exact ih
/-- what waits, as the law holds it: a list written down, or the last object -/
inductive Wait (X : Sim w fr) (Y : Sim v fr) (M0 : Mem) (wt : List (Wt X Y)) : Mem → D → Prop where
  | lst (olds : Mem) : Wait X Y M0 wt olds (.lst (wt.map (wD X Y)))
  | obj (olds : Mem) : Wait X Y M0 wt (olds ++ [.lst (wt.map (wD X Y))]) (.obj (M0.length + (olds.length + 1)))
theorem nice_wD (X : Sim w fr) (Y : Sim v fr) : ∀ wt : List (Wt X Y), D.noObjs (wt.map (wD X Y)) = true
  | [] => rfl
  | q :: wt => by
    simp only [List.map_cons, noObjs_cons, nice_wD X Y wt, Bool.and_true]
    simp [wD, X.nice, Y.nice]
theorem mP_old (X : Sim w fr) (Y : Sim v fr) (M0 : Mem) (seen : List (X.S × Y.S)) (olds : Mem) (o : MO) (later : List (Wt X Y)) : (mP X Y M0 seen (olds ++ [o]) later)[M0.length + (olds.length + 1)]? = some o := by
  unfold mP
  rw [List.getElem?_append_right (by omega)]
  rw [show M0.length + (olds.length + 1) - M0.length = olds.length + 1 by omega, List.getElem?_cons_succ, List.append_assoc, List.getElem?_append_right (Nat.le_refl _)]
  simp
theorem mH_old (X : Sim w fr) (Y : Sim v fr) (M0 : Mem) (seen : List (X.S × Y.S)) (olds : Mem) (o : MO) : (mH X Y M0 seen (olds ++ [o]))[M0.length + (olds.length + 1)]? = some o := by
  unfold mH
  rw [List.getElem?_append_right (by omega)]
  rw [show M0.length + (olds.length + 1) - M0.length = olds.length + 1 by omega, List.getElem?_cons_succ, List.getElem?_append_right (Nat.le_refl _)]
  simp
def gdOf (X : Sim w fr) (Y : Sim v fr) (wt : List (Wt X Y)) : D → Gd
  | .obj j => some (j, wt.map (wD X Y))
  | _ => none
theorem Wait.gd {X : Sim w fr} {Y : Sim v fr} {M0 : Mem} {wt : List (Wt X Y)} {olds : Mem} {d : D} (h : Wait X Y M0 wt olds d) (seen : List (X.S × Y.S)) (later : List (Wt X Y)) : Gd.ok (gdOf X Y wt d) (mP X Y M0 seen olds later) = true := by
  cases h with
  | lst => rfl
  | obj olds =>
    simp only [gdOf, Gd.ok, mP_old]
    simp [D.beqs_self]
theorem Wait.it {X : Sim w fr} {Y : Sim v fr} {M0 : Mem} {wt : List (Wt X Y)} {olds : Mem} {d : D} (h : Wait X Y M0 wt olds d) (seen : List (X.S × Y.S)) (later : List (Wt X Y)) (F : FT) (r : EV) (hr : r[5]? = some (some d)) : mSeqI (mVar 5) F r (mP X Y M0 seen olds later) = .ok (wt.map (wD X Y), gdOf X Y wt d) (mP X Y M0 seen olds later) := by
  simp only [ap_seqI, ap_var, hr, Res.bind_ok]
  cases h with
  | lst => rfl
  | obj olds => simp only [mP_old, gdOf]
end K50

namespace K50
open PySem L2 RI
variable {w v : List Nat} {fr : Nat}
mutual
theorem depth_key : ∀ d : D, D.keyly d = true → (D.toP d).depth ≤ NestedKey.depth (D.toK d)
  | .non, _ => Nat.zero_le _
  | .bl _, _ => Nat.zero_le _
  | .int _, _ => Nat.zero_le _
  | .str _, _ => Nat.zero_le _
  | .tup l, h => by
    simp only [D.keyly] at h
    have := depths_key l h
    simp only [D.toP, D.toK, PyData.depth, NestedKey.depth]
    omega
  | .lst _, h => by simp [D.keyly] at h
  | .obj _, h => by simp [D.keyly] at h
theorem depths_key : ∀ l : List D, D.keylys l = true → PyData.depthAll (D.toPs l) ≤ NestedKey.depthAll (D.toKs l)
  | [], _ => Nat.zero_le _
  | d :: ds, h => by
    simp only [D.keylys, Bool.and_eq_true] at h
    have h1 := depth_key d h.1
    have h2 := depths_key ds h.2
    simp only [D.toPs, D.toKs, PyData.depthAll, NestedKey.depthAll]
    omega
end
theorem lay_of {d : D} (h : SeqAt.shaped (D.toP d) = true) : (D.toP d).canLay0 = true := by
  simp only [SeqAt.shaped, Bool.and_eq_true] at h; exact h.1
theorem nice_wDn (X : Sim w fr) (Y : Sim v fr) : Nice (wD X Y) where
  no := fun q => by simp [wD, X.nice, Y.nice]
  lay := fun q => by
    have h1 := lay_of (X.sh q.1.1)
    have h2 := lay_of (Y.sh q.1.2)
    have h3 := lay_of (nice_int.shT q.2)
    simp only [wD, D.toP, D.toPs, PyData.canLay0, PyData.canLayAll0, Bool.and_true] at h1 h2 h3 ⊢
    simp only [h1, h2, h3, Bool.and_self]
  dep := fun q => by
    have h1 := depths_key _ (X.ky q.1.1)
    have h2 := depths_key _ (Y.ky q.1.2)
    have h3 := depths_key _ (ky_ints q.2)
    have h4 := X.dp q.1.1
    have h5 := Y.dp q.1.2
    have h6 := dp_ints q.2
    simp only [wD, D.toP, D.toPs, PyData.depth, PyData.depthAll]
    omega
theorem Wait.test {X : Sim w fr} {Y : Sim v fr} {M0 : Mem} {wt : List (Wt X Y)} {olds : Mem} {d : D} (h : Wait X Y M0 wt olds d) (seen : List (X.S × Y.S)) : eqD true d (.lst []) (mH X Y M0 seen olds) = .ok (.bl (!wt.isEmpty)) (mH X Y M0 seen olds) := by
  cases h with
  | lst => exact eq_nil (nice_wDn X Y) true wt _
  | obj olds => exact eq_nilO (nice_wDn X Y) true wt _ _ (mH_old X Y M0 seen olds _)
/-- the levels -/
theorem wh_loopL {X : Sim w fr} {Y : Sim v fr} (many : Nat) (hm : many ≤ 5) (B : Bd X Y (pagesL many)) (n : Nat) (M0 : Mem) : ∀ (N K : Nat) (L : Nat) (seen : List (X.S × Y.S)) (wt : List (Wt X Y)) (olds : Mem) (d5 : D) (res : Option (List Int)) (x6 x7 x8 x9 y0 y1 y2 y3 y4 y5 : Option D), N ≤ K → L + N ≤ 10000000 →
    seen.Nodup → (∀ a ∈ seen, B.P a) → (∀ q ∈ wt, B.P q.1 ∧ q.2.length = L) → Wait X Y M0 wt olds d5 → bfs X Y (pagesL many) N seen wt = some res →
    match res with
    | some r => ∃ M', whileN wc_17_2 wb_17_2 (callF tb (n + 2)) K [some (.str w), some (.str v), some (.int fr), some (.int many), some (.obj M0.length), some d5, x6, x7, x8, x9, y0, y1, y2, y3, y4, y5] (mH X Y M0 seen olds)
        = .ok (.ret (.tup (r.map .int))) M' ∧ M'.take M0.length = M0
    | none => ∃ r' M', whileN wc_17_2 wb_17_2 (callF tb (n + 2)) K [some (.str w), some (.str v), some (.int fr), some (.int many), some (.obj M0.length), some d5, x6, x7, x8, x9, y0, y1, y2, y3, y4, y5] (mH X Y M0 seen olds)
        = .ok (.next r') M' ∧ M'.take M0.length = M0
  | 0, K, L, seen, wt, olds, d5, res, x6, x7, x8, x9, y0, y1, y2, y3, y4, y5, _, _, _, _, _, _, h => by cases h
  | N + 1, 0, L, seen, wt, olds, d5, res, x6, x7, x8, x9, y0, y1, y2, y3, y4, y5, hk, _, _, _, _, _, h => by omega
  | N + 1, K + 1, L, seen, wt, olds, d5, res, x6, x7, x8, x9, y0, y1, y2, y3, y4, y5, hk, hL, nd, hP, hw, hW, h => by
    have htest := hW.test seen
    unfold bfs at h
    cases wt with
    | nil =>
      simp only [List.isEmpty_nil, if_true, Option.some.injEq] at h
      subst h
      exact ⟨_, mH X Y M0 seen olds, (by simp [whileN, wc_17_2, htest, LIM]; exact rfl), (by simp [mH])⟩
    | cons q qs =>
      simp only [List.isEmpty_cons, Bool.false_eq_true, if_false] at h
      have hn := mH_new X Y M0 seen olds
      have g0 : Good B (L + 1) seen ([] : List (Wt X Y)) := ⟨nd, hP, (fun q hq => by cases hq), Nat.zero_le _⟩
      have hlv := lv_loopL many hm B n M0 olds (some d5) (gdOf X Y (q :: qs) d5) hW.gd L (by omega) (q :: qs) seen [] x7 x8 x9 y0 y1 y2 y3 y4 y5 hw g0
      have hit := hW.it seen [] (callF tb (n + 2)) [some (.str w), some (.str v), some (.int fr), some (.int many), some (.obj M0.length), some d5, some (.obj (M0.length + (olds.length + 1))), x7, x8, x9, y0, y1, y2, y3, y4, y5] rfl
      cases e : lvl X Y (pagesL many) (q :: qs) seen [] with
      | inl r =>
        rw [e] at h hlv
        simp only [Option.some.injEq] at h
        subst h
        obtain ⟨M', e1, e2⟩ := hlv
        refine ⟨M', ?_, e2⟩
        simp only [List.map_cons] at e1
        simp [whileN, wc_17_2, wb_17_2, htest, hn, hit, e1, LIM, -ap_seqI]
      | inr z =>
        rw [e] at h hlv
        obtain ⟨x7', x8', x9', y0', y1', y2', y3', y4', y5', e1⟩ := hlv
        have g' := lvl_good B L (q :: qs) seen [] z hw g0 e
        have ih := wh_loopL many hm B n M0 N K (L + 1) z.1 z.2 (olds ++ [.lst (z.2.map (wD X Y))]) (.obj (M0.length + (olds.length + 1))) res (some (.obj (M0.length + (olds.length + 1)))) x7' x8' x9' y0' y1' y2' y3' y4' y5' (by omega) (by omega) g'.nd g'.p g'.l (.obj olds) h
        have e2 : whileN wc_17_2 wb_17_2 (callF tb (n + 2)) (K + 1) [some (.str w), some (.str v), some (.int fr), some (.int many), some (.obj M0.length), some d5, x6, x7, x8, x9, y0, y1, y2, y3, y4, y5] (mH X Y M0 seen olds)
            = whileN wc_17_2 wb_17_2 (callF tb (n + 2)) K [some (.str w), some (.str v), some (.int fr), some (.int many), some (.obj M0.length), some (.obj (M0.length + (olds.length + 1))), some (.obj (M0.length + (olds.length + 1))), x7', x8', x9', y0', y1', y2', y3', y4', y5'] (mH X Y M0 z.1 (olds ++ [.lst (z.2.map (wD X Y))])) := by
          simp only [List.map_cons] at e1
          rw [← mP_mH]
          simp [whileN, wc_17_2, wb_17_2, htest, hn, hit, e1, LIM, -ap_seqI]
        rw [e2]
        exact ih
theorem search {X : Sim w fr} {Y : Sim v fr} (many : Nat) (hm : many ≤ 5) (B : Bd X Y (pagesL many)) (n N : Nat) (hN : N ≤ 10000000) (res : Option (List Int)) (M : Mem)
    (h : bfs X Y (pagesL many) N [(X.init, Y.init)] [((X.init, Y.init), [])] = some res) : callF tb (n + 3) 17 [.str w, .str v, .int fr, .int many] M = .ok (resD res) M := by
  have hwt : [((X.init, Y.init), ([] : List Int))].map (wD X Y) = [.tup [.tup [], .tup [], .tup []]] := by
    simp [wD, X.e0, Y.e0]
  have hW : Wait X Y M [((X.init, Y.init), ([] : List Int))] [] (.lst [.tup [.tup [], .tup [], .tup []]]) := by
    rw [← hwt]; exact .lst []
  have hl := wh_loopL many hm B n M N FUEL 0 [(X.init, Y.init)] [((X.init, Y.init), [])] [] _ res none none none none none none none none none none (by show N ≤ 1000000000; omega) (by omega) (by simp) (by intro a ha; simp at ha; subst ha; exact B.p0) (by intro q hq; simp at hq; subst hq; exact ⟨B.p0, rfl⟩) hW h
  have hk : D.isKey (.tup [.tup [], .tup []]) = true := rfl
  rw [u_17]
  have hmem : M ++ [.dct [(.tup [.tup [], .tup []], .bl true)]] = mH X Y M [(X.init, Y.init)] [] := by
    simp [mH, sD, keyD, X.e0, Y.e0]
  cases res with
  | some r =>
    obtain ⟨M', e1, e2⟩ := hl
    simp [b_17, LIM, hk, D.bel, hmem, e1, resD]
    exact fin_pure (by simp) e2
  | none =>
    obtain ⟨r', M', e1, e2⟩ := hl
    simp [b_17, LIM, hk, D.bel, hmem, e1, resD]
    exact fin_pure rfl e2
end K50

namespace K50
open PySem L2 RI
variable {w v : List Nat} {fr : Nat}
/-! runs -/
def stN (X : Sim w fr) : List Int → X.S → X.S
  | [], s => s
  | u :: us, s => stN X us (X.step s u).1
def cnt (X : Sim w fr) : List Int → X.S → Nat
  | [], _ => 0
  | u :: us, s => (X.step s u).2.toNat + cnt X us (X.step s u).1
theorem stN_snoc (X : Sim w fr) (p : Int) : ∀ (us : List Int) (s : X.S), stN X (us ++ [p]) s = (X.step (stN X us s) p).1
  | [], s => rfl
  | u :: us, s => stN_snoc X p us _
theorem cnt_snoc (X : Sim w fr) (p : Int) : ∀ (us : List Int) (s : X.S), cnt X (us ++ [p]) s = cnt X us s + (X.step (stN X us s) p).2.toNat
  | [], s => by simp [cnt, stN]
  | u :: us, s => by
    have := cnt_snoc X p us (X.step s u).1
    simp only [List.cons_append, cnt, stN, this]
    omega
theorem runM_cnt (X : Sim w fr) : ∀ (us : List Int) (k : Nat) (s : X.S) (found : List Int), (runM X us k s found).1.length = found.length + cnt X us s
  | [], _, s, _ => by simp [runM, cnt]
  | u :: us, k, s, found => by
    have := runM_cnt X us (k + 1) (X.step s u).1 (if (X.step s u).2 then found ++ [(k : Int)] else found)
    simp only [runM, cnt, this]
    cases (X.step s u).2 <;> simp <;> omega
section
variable (X : Sim w fr) (Y : Sim v fr) (ps : List Int)
/-- us leads to a, with faults alike -/
structure Tr (q : Wt X Y) : Prop where
  st : q.1 = (stN X q.2 X.init, stN Y q.2 Y.init)
  eq : cnt X q.2 X.init = cnt Y q.2 Y.init
  pg : ∀ u ∈ q.2, u ∈ ps
/-- uses at whose end the faults part -/
structure Pa (r : List Int) : Prop where
  ex : ∃ us p, r = us ++ [p] ∧ (X.step (stN X us X.init) p).2 ≠ (Y.step (stN Y us Y.init) p).2 ∧ cnt X us X.init = cnt Y us Y.init
  pg : ∀ u ∈ r, u ∈ ps
theorem Pa.ne {X : Sim w fr} {Y : Sim v fr} {ps r : List Int} (h : Pa X Y ps r) : cnt X r X.init ≠ cnt Y r Y.init := by
  obtain ⟨us, p, rfl, hd, he⟩ := h.ex
  rw [cnt_snoc, cnt_snoc, he]
  cases h1 : (X.step (stN X us X.init) p).2 <;> cases h2 : (Y.step (stN Y us Y.init) p).2 <;> simp_all
theorem pgs_tr (a : X.S × Y.S) (us : List Int) (ht : Tr X Y ps (a, us)) : ∀ (qs : List Int) (seen : List (X.S × Y.S)) (later : List (Wt X Y)), (∀ p ∈ qs, p ∈ ps) → (∀ q ∈ later, Tr X Y ps q) →
    match pgs X Y a us qs seen later with
    | .inl r => Pa X Y ps r
    | .inr z => ∀ q ∈ z.2, Tr X Y ps q
  | [], seen, later, _, hl => hl
  | p :: qs, seen, later, hp, hl => by
    have st := ht.st
    simp only at st
    unfold pgs
    by_cases he : (X.step a.1 p).2 = (Y.step a.2 p).2
    · rw [if_pos he]
      by_cases hin : inS X Y seen ((X.step a.1 p).1, (Y.step a.2 p).1) = true
      · rw [if_pos hin]
        exact pgs_tr a us ht qs seen later (fun q hq => hp q (List.mem_cons_of_mem _ hq)) hl
      · rw [if_neg hin]
        refine pgs_tr a us ht qs _ _ (fun q hq => hp q (List.mem_cons_of_mem _ hq)) ?_
        intro q hq
        rcases List.mem_append.mp hq with hq | hq
        · exact hl q hq
        · simp only [List.mem_singleton] at hq
          subst hq
          refine ⟨?_, ?_, ?_⟩
          · simp only [stN_snoc, st]
          · have := ht.eq
            simp only [cnt_snoc] at this ⊢
            rw [this]
            rw [st] at he
            simp only at he
            rw [he]
          · intro u hu
            rcases List.mem_append.mp hu with hu | hu
            · exact ht.pg u hu
            · simp only [List.mem_singleton] at hu
              subst hu; exact hp _ List.mem_cons_self
    · rw [if_neg he]
      rw [st] at he
      refine ⟨⟨us, p, rfl, he, ht.eq⟩, ?_⟩
      intro u hu
      rcases List.mem_append.mp hu with hu | hu
      · exact ht.pg u hu
      · simp only [List.mem_singleton] at hu
        subst hu; exact hp _ List.mem_cons_self
theorem lvl_tr : ∀ (qs : List (Wt X Y)) (seen : List (X.S × Y.S)) (later : List (Wt X Y)), (∀ q ∈ qs, Tr X Y ps q) → (∀ q ∈ later, Tr X Y ps q) →
    match lvl X Y ps qs seen later with
    | .inl r => Pa X Y ps r
    | .inr z => ∀ q ∈ z.2, Tr X Y ps q
  | [], seen, later, _, hl => hl
  | q :: qs, seen, later, hq, hl => by
    have h1 := pgs_tr X Y ps q.1 q.2 (hq q List.mem_cons_self) ps seen later (fun p hp => hp) hl
    unfold lvl
    cases e : pgs X Y q.1 q.2 ps seen later with
    | inl r => rw [e] at h1; exact h1
    | inr z =>
      rw [e] at h1
      exact lvl_tr qs z.1 z.2 (fun q hq' => hq q (List.mem_cons_of_mem _ hq')) h1
theorem bfs_tr : ∀ (N : Nat) (seen : List (X.S × Y.S)) (wt : List (Wt X Y)) (r : List Int), (∀ q ∈ wt, Tr X Y ps q) → bfs X Y ps N seen wt = some (some r) → Pa X Y ps r
  | 0, seen, wt, r, _, h => by cases h
  | N + 1, seen, wt, r, hw, h => by
    unfold bfs at h
    split at h
    · cases h
    · have h1 := lvl_tr X Y ps wt seen [] hw (fun q hq => by cases hq)
      cases e : lvl X Y ps wt seen [] with
      | inl r' => rw [e] at h h1; simp only [Option.some.injEq] at h; subst h; exact h1
      | inr z => rw [e] at h h1; exact bfs_tr N z.1 z.2 r h1 h
theorem tr0 : ∀ q ∈ [((X.init, Y.init), ([] : List Int))], Tr X Y ps q := by
  intro q hq
  simp only [List.mem_singleton] at hq
  subst hq
  exact ⟨rfl, rfl, fun u hu => by cases hu⟩
/-- nothing found where an invariant keeps the faults alike -/
theorem bfs_none (J : X.S × Y.S → Prop) (j0 : J (X.init, Y.init)) (js : ∀ a p, p ∈ ps → J a → J ((X.step a.1 p).1, (Y.step a.2 p).1)) (je : ∀ a p, p ∈ ps → J a → (X.step a.1 p).2 = (Y.step a.2 p).2) (N : Nat) (res : Option (List Int))
    (h : bfs X Y ps N [(X.init, Y.init)] [((X.init, Y.init), [])] = some res) : res = none := by
  cases res with
  | none => rfl
  | some r =>
    have hp := bfs_tr X Y ps N _ _ r (tr0 X Y ps) h
    obtain ⟨us, p, rfl, hd, _⟩ := hp.ex
    have hj : ∀ (us : List Int) (s : X.S) (t : Y.S), (∀ u ∈ us, u ∈ ps) → J (s, t) → J (stN X us s, stN Y us t) := by
      intro us
      induction us with
      | nil => intro s t _ hj; exact hj
      | cons u us ih => intro s t hu hj; exact ih _ _ (fun x hx => hu x (List.mem_cons_of_mem _ hx)) (js (s, t) u (hu u List.mem_cons_self) hj)
    exact absurd (je _ p (hp.pg p (by simp)) (hj us X.init Y.init (fun u hu => hp.pg u (by simp [hu])) j0)) hd
/-! the shortest -/
def Xp (seen : List (X.S × Y.S)) (a : X.S × Y.S) : Prop := ∀ p ∈ ps, (X.step a.1 p).2 = (Y.step a.2 p).2 ∧ ((X.step a.1 p).1, (Y.step a.2 p).1) ∈ seen
theorem pgs_xp (a : X.S × Y.S) (us : List Int) : ∀ (qs : List Int) (seen : List (X.S × Y.S)) (later : List (Wt X Y)) (z : List (X.S × Y.S) × List (Wt X Y)), pgs X Y a us qs seen later = .inr z →
    (∀ b ∈ seen, b ∈ z.1) ∧ (∀ p ∈ qs, (X.step a.1 p).2 = (Y.step a.2 p).2 ∧ ((X.step a.1 p).1, (Y.step a.2 p).1) ∈ z.1) ∧ (∀ q ∈ later, q ∈ z.2) ∧ (∀ b ∈ z.1, b ∈ seen ∨ ∃ q ∈ z.2, q.1 = b)
  | [], seen, later, z, h => by
    cases h
    exact ⟨fun b h => h, fun p h => (by cases h), fun q h => h, fun b h => .inl h⟩
  | p :: qs, seen, later, z, h => by
    unfold pgs at h
    split at h
    · rename_i he
      split at h
      · rename_i hin
        obtain ⟨h1, h2, h3, h4⟩ := pgs_xp a us qs seen later z h
        refine ⟨h1, ?_, h3, h4⟩
        intro q hq
        rcases List.mem_cons.mp hq with rfl | hq
        · exact ⟨he, h1 _ ((inS_mem X Y seen _).mp hin)⟩
        · exact h2 q hq
      · obtain ⟨h1, h2, h3, h4⟩ := pgs_xp a us qs _ _ z h
        refine ⟨fun b hb => h1 b (List.mem_append_left _ hb), ?_, fun q hq => h3 q (List.mem_append_left _ hq), ?_⟩
        · intro q hq
          rcases List.mem_cons.mp hq with rfl | hq
          · exact ⟨he, h1 _ (by simp)⟩
          · exact h2 q hq
        · intro b hb
          rcases h4 b hb with hb | hb
          · rcases List.mem_append.mp hb with hb | hb
            · exact .inl hb
            · simp only [List.mem_singleton] at hb
              subst hb
              exact .inr ⟨(((X.step a.1 p).1, (Y.step a.2 p).1), us ++ [p]), h3 _ (List.mem_append_right _ (by simp)), rfl⟩
          · exact .inr hb
    · cases h
theorem lvl_xp : ∀ (qs : List (Wt X Y)) (seen : List (X.S × Y.S)) (later : List (Wt X Y)) (z : List (X.S × Y.S) × List (Wt X Y)), lvl X Y ps qs seen later = .inr z →
    (∀ b ∈ seen, b ∈ z.1) ∧ (∀ q ∈ qs, Xp X Y ps z.1 q.1) ∧ (∀ q ∈ later, q ∈ z.2) ∧ (∀ b ∈ z.1, b ∈ seen ∨ ∃ q ∈ z.2, q.1 = b)
  | [], seen, later, z, h => by
    cases h
    exact ⟨fun b h => h, fun p h => (by cases h), fun q h => h, fun b h => .inl h⟩
  | q :: qs, seen, later, z, h => by
    unfold lvl at h
    cases e : pgs X Y q.1 q.2 ps seen later with
    | inl r => rw [e] at h; cases h
    | inr y =>
      rw [e] at h
      obtain ⟨h1, h2, h3, h4⟩ := pgs_xp X Y q.1 q.2 ps seen later y e
      obtain ⟨k1, k2, k3, k4⟩ := lvl_xp qs y.1 y.2 z h
      refine ⟨fun b hb => k1 b (h1 b hb), ?_, fun q hq => k3 q (h3 q hq), ?_⟩
      · intro q' hq'
        rcases List.mem_cons.mp hq' with rfl | hq'
        · exact fun p hp => ⟨(h2 p hp).1, k1 _ (h2 p hp).2⟩
        · exact k2 q' hq'
      · intro b hb
        rcases k4 b hb with hb | hb
        · rcases h4 b hb with hb | ⟨q', hq', e'⟩
          · exact .inl hb
          · exact .inr ⟨q', k3 q' hq', e'⟩
        · exact .inr hb
theorem pgs_len (a : X.S × Y.S) (us : List Int) : ∀ (qs : List Int) (seen : List (X.S × Y.S)) (later : List (Wt X Y)), (∀ q ∈ later, q.2.length = us.length + 1) →
    match pgs X Y a us qs seen later with
    | .inl r => r.length = us.length + 1
    | .inr z => ∀ q ∈ z.2, q.2.length = us.length + 1
  | [], seen, later, hl => hl
  | p :: qs, seen, later, hl => by
    unfold pgs
    by_cases he : (X.step a.1 p).2 = (Y.step a.2 p).2
    · rw [if_pos he]
      by_cases hin : inS X Y seen ((X.step a.1 p).1, (Y.step a.2 p).1) = true
      · rw [if_pos hin]
        exact pgs_len a us qs seen later hl
      · rw [if_neg hin]
        refine pgs_len a us qs _ _ ?_
        intro q hq
        rcases List.mem_append.mp hq with hq | hq
        · exact hl q hq
        · simp only [List.mem_singleton] at hq
          subst hq; simp
    · rw [if_neg he]; simp
theorem lvl_len (L : Nat) : ∀ (qs : List (Wt X Y)) (seen : List (X.S × Y.S)) (later : List (Wt X Y)), (∀ q ∈ qs, q.2.length = L) → (∀ q ∈ later, q.2.length = L + 1) →
    match lvl X Y ps qs seen later with
    | .inl r => r.length = L + 1
    | .inr z => ∀ q ∈ z.2, q.2.length = L + 1
  | [], seen, later, _, hl => hl
  | q :: qs, seen, later, hq, hl => by
    have e0 := hq q List.mem_cons_self
    have h1 := pgs_len X Y q.1 q.2 ps seen later (by rw [e0]; exact hl)
    unfold lvl
    cases e : pgs X Y q.1 q.2 ps seen later with
    | inl r => rw [e, e0] at h1; exact h1
    | inr z =>
      rw [e, e0] at h1
      exact lvl_len L qs z.1 z.2 (fun q hq' => hq q (List.mem_cons_of_mem _ hq')) h1
theorem bfs_short (us0 : List Int) (p0 : Int) (hps : ∀ u ∈ us0, u ∈ ps) (hp0 : p0 ∈ ps) (hd : (X.step (stN X us0 X.init) p0).2 ≠ (Y.step (stN Y us0 Y.init) p0).2) : ∀ (N L : Nat) (seen : List (X.S × Y.S)) (wt : List (Wt X Y)) (res : Option (List Int)),
    L ≤ us0.length → (∀ b ∈ seen, (∃ q ∈ wt, q.1 = b) ∨ Xp X Y ps seen b) → (∀ q ∈ wt, q.2.length = L) → (X.init, Y.init) ∈ seen → (∀ us, us.length ≤ L → (∀ u ∈ us, u ∈ ps) → (stN X us X.init, stN Y us Y.init) ∈ seen) →
    bfs X Y ps N seen wt = some res → ∃ r, res = some r ∧ r.length ≤ us0.length + 1
  | 0, L, seen, wt, res, _, _, _, _, _, h => by cases h
  | N + 1, L, seen, wt, res, hL, hx, hl, hi, hr, h => by
    unfold bfs at h
    cases wt with
    | nil =>
      exfalso
      have cl : ∀ (us : List Int) (s : X.S) (t : Y.S), (∀ u ∈ us, u ∈ ps) → (s, t) ∈ seen → (stN X us s, stN Y us t) ∈ seen := by
        intro us
        induction us with
        | nil => intro s t _ hm; exact hm
        | cons u us ih =>
          intro s t hu hm
          rcases hx _ hm with ⟨q, hq, _⟩ | hxp
          · cases hq
          · exact ih _ _ (fun x hx => hu x (List.mem_cons_of_mem _ hx)) (hxp u (hu u List.mem_cons_self)).2
      rcases hx _ (cl us0 X.init Y.init hps hi) with ⟨q, hq, _⟩ | hxp
      · cases hq
      · exact hd (hxp p0 hp0).1
    | cons q qs =>
      simp only [List.isEmpty_cons, Bool.false_eq_true, if_false] at h
      have hln := lvl_len X Y ps L (q :: qs) seen [] hl (fun q hq => by cases hq)
      cases e : lvl X Y ps (q :: qs) seen [] with
      | inl r =>
        rw [e] at h hln
        simp only [Option.some.injEq] at h
        subst h
        have hln : r.length = L + 1 := hln
        exact ⟨r, rfl, by omega⟩
      | inr z =>
        rw [e] at h hln
        obtain ⟨k1, k2, k3, k4⟩ := lvl_xp X Y ps (q :: qs) seen [] z e
        have hall : ∀ b ∈ seen, Xp X Y ps z.1 b := by
          intro b hb
          rcases hx b hb with ⟨q', hq', rfl⟩ | hxp
          · exact k2 q' hq'
          · exact fun p hp => ⟨(hxp p hp).1, k1 _ (hxp p hp).2⟩
        have hL' : L + 1 ≤ us0.length := by
          rcases Nat.lt_or_ge L us0.length with h' | h'
          · exact h'
          · exact absurd ((hall _ (hr us0 (by omega) hps)) p0 hp0).1 hd
        refine bfs_short us0 p0 hps hp0 hd N (L + 1) z.1 z.2 res hL' ?_ hln (k1 _ hi) ?_ h
        · intro b hb
          rcases k4 b hb with hb | hb
          · exact .inr (hall b hb)
          · exact .inl hb
        · intro us hlen hus
          rcases Nat.lt_or_ge us.length (L + 1) with h' | h'
          · exact k1 _ (hr us (by omega) hus)
          · obtain ⟨us', p, rfl⟩ : ∃ us' p, us = us' ++ [p] := by
              rcases List.eq_nil_or_concat us with rfl | ⟨a, b, rfl⟩
              · simp at h'
              · exact ⟨a, b, by simp⟩
            simp only [List.length_append, List.length_singleton] at hlen
            rw [stN_snoc, stN_snoc]
            exact (hall _ (hr us' (by omega) (fun u hu => hus u (by simp [hu]))) p (hus p (by simp))).2
end
end K50

namespace K50
open PySem L2 RI
variable {w v : List Nat} {fr : Nat}
/-! the two rules changed about -/
def swW (X : Sim w fr) (Y : Sim v fr) (q : Wt X Y) : Wt Y X := (q.1.swap, q.2)
theorem inS_swap (X : Sim w fr) (Y : Sim v fr) (seen : List (X.S × Y.S)) (a : X.S × Y.S) : inS Y X (seen.map Prod.swap) a.swap = inS X Y seen a := by
  rw [Bool.eq_iff_iff, inS_mem, inS_mem, List.mem_map]
  constructor
  · rintro ⟨b, hb, e⟩
    have : b = a := by rw [← Prod.swap_swap b, e, Prod.swap_swap]
    rw [← this]; exact hb
  · intro h
    exact ⟨a, h, rfl⟩
theorem pgs_swap (X : Sim w fr) (Y : Sim v fr) (a : X.S × Y.S) (us : List Int) : ∀ (ps : List Int) (seen : List (X.S × Y.S)) (later : List (Wt X Y)),
    pgs Y X a.swap us ps (seen.map Prod.swap) (later.map (swW X Y)) = match pgs X Y a us ps seen later with
      | .inl r => .inl r
      | .inr z => .inr (z.1.map Prod.swap, z.2.map (swW X Y))
  | [], seen, later => rfl
  | p :: ps, seen, later => by
    have hin : inS Y X (seen.map Prod.swap) ((Y.step a.swap.1 p).1, (X.step a.swap.2 p).1) = _ := inS_swap X Y seen ((X.step a.1 p).1, (Y.step a.2 p).1)
    unfold pgs
    by_cases he : (X.step a.1 p).2 = (Y.step a.2 p).2
    · rw [if_pos he, if_pos (show (Y.step a.swap.1 p).2 = (X.step a.swap.2 p).2 from he.symm)]
      by_cases h : inS X Y seen ((X.step a.1 p).1, (Y.step a.2 p).1) = true
      · rw [if_pos h, if_pos (hin.trans h)]
        exact pgs_swap X Y a us ps seen later
      · rw [if_neg h, if_neg (fun z => h (hin.symm.trans z))]
        have := pgs_swap X Y a us ps (seen ++ [((X.step a.1 p).1, (Y.step a.2 p).1)]) (later ++ [(((X.step a.1 p).1, (Y.step a.2 p).1), us ++ [p])])
        rw [← this]
        simp only [List.map_append, List.map_cons, List.map_nil]
        rfl
    · rw [if_neg he, if_neg (show ¬ (Y.step a.swap.1 p).2 = (X.step a.swap.2 p).2 from fun z => he z.symm)]
theorem lvl_swap (X : Sim w fr) (Y : Sim v fr) (ps : List Int) : ∀ (qs : List (Wt X Y)) (seen : List (X.S × Y.S)) (later : List (Wt X Y)),
    lvl Y X ps (qs.map (swW X Y)) (seen.map Prod.swap) (later.map (swW X Y)) = match lvl X Y ps qs seen later with
      | .inl r => .inl r
      | .inr z => .inr (z.1.map Prod.swap, z.2.map (swW X Y))
  | [], seen, later => rfl
  | q :: qs, seen, later => by
    have h := pgs_swap X Y q.1 q.2 ps seen later
    simp only [List.map_cons, lvl]
    rw [show pgs Y X (swW X Y q).1 (swW X Y q).2 ps (seen.map Prod.swap) (later.map (swW X Y)) = _ from h]
    cases pgs X Y q.1 q.2 ps seen later with
    | inl r => rfl
    | inr z => exact lvl_swap X Y ps qs z.1 z.2
theorem bfs_swap (X : Sim w fr) (Y : Sim v fr) (ps : List Int) : ∀ (N : Nat) (seen : List (X.S × Y.S)) (wt : List (Wt X Y)), bfs Y X ps N (seen.map Prod.swap) (wt.map (swW X Y)) = bfs X Y ps N seen wt
  | 0, _, _ => rfl
  | N + 1, seen, wt => by
    have h := lvl_swap X Y ps wt seen []
    simp only [bfs]
    rw [show lvl Y X ps (wt.map (swW X Y)) (seen.map Prod.swap) [] = _ from h]
    have e : (wt.map (swW X Y)).isEmpty = wt.isEmpty := by cases wt <;> rfl
    rw [e]
    cases lvl X Y ps wt seen [] with
    | inl r => rfl
    | inr z =>
      simp only
      rw [bfs_swap X Y ps N z.1 z.2]
theorem bfs_swap0 (X : Sim w fr) (Y : Sim v fr) (ps : List Int) (N : Nat) : bfs Y X ps N [(Y.init, X.init)] [((Y.init, X.init), [])] = bfs X Y ps N [(X.init, Y.init)] [((X.init, Y.init), [])] := bfs_swap X Y ps N [(X.init, Y.init)] [((X.init, Y.init), [])]
/-! how many stores there are -/
structure Cd (X : Sim w fr) where
  ok : X.S → Prop
  code : X.S → Nat
  K : Nat
  lt : ∀ s, ok s → code s < K
  inj : ∀ s t, ok s → ok t → code s = code t → s = t
  iv : ∀ s, ok s → X.inv s
  o0 : ok X.init
  os : ∀ s p, 0 ≤ p → p ≤ 4 → ok s → ok (X.step s p).1
theorem card_of {A : Type} (P : A → Prop) (c : A → Nat) (K : Nat) (lt : ∀ a, P a → c a < K) (inj : ∀ a b, P a → P b → c a = c b → a = b) (l : List A) (nd : l.Nodup) (h : ∀ a ∈ l, P a) : l.length ≤ K := by
  have nd' : (l.map c).Nodup := by
    show List.Pairwise (· ≠ ·) (l.map c)
    rw [List.pairwise_map]
    exact List.Pairwise.imp_of_mem (fun ha hb hne e => hne (inj _ _ (h _ ha) (h _ hb) e)) nd
  have := nd'.length_le_of_subset (l₂ := List.range K) (fun x hx => by
    obtain ⟨a, ha, rfl⟩ := List.mem_map.mp hx
    exact List.mem_range.mpr (lt a (h a ha)))
  simpa using this
theorem pages_mem {many : Nat} (hm : many ≤ 5) {p : Int} (h : p ∈ pagesL many) : 0 ≤ p ∧ p ≤ 4 := by
  simp only [pagesL, List.mem_map, List.mem_range] at h
  obtain ⟨i, hi, rfl⟩ := h
  omega
def bdOf {X : Sim w fr} {Y : Sim v fr} (C : Cd X) (E : Cd Y) (hK : C.K * E.K ≤ 9000000) (many : Nat) (hm : many ≤ 5) : Bd X Y (pagesL many) where
  P := fun a => C.ok a.1 ∧ E.ok a.2
  ix := fun a h => C.iv _ h.1
  iy := fun a h => E.iv _ h.2
  st := fun a p h hp => ⟨C.os _ _ (pages_mem hm hp).1 (pages_mem hm hp).2 h.1, E.os _ _ (pages_mem hm hp).1 (pages_mem hm hp).2 h.2⟩
  p0 := ⟨C.o0, E.o0⟩
  card := fun l nd h => by
    refine Nat.le_trans (card_of (fun a => C.ok a.1 ∧ E.ok a.2) (fun a => E.code a.2 + E.K * C.code a.1) (C.K * E.K) ?_ ?_ l nd h) hK
    · intro a ⟨h1, h2⟩
      have g1 := C.lt _ h1
      have g2 := E.lt _ h2
      calc E.code a.2 + E.K * C.code a.1 < E.K + E.K * C.code a.1 := by omega
        _ = E.K * (C.code a.1 + 1) := by rw [Nat.mul_add, Nat.mul_one, Nat.add_comm]
        _ ≤ E.K * C.K := Nat.mul_le_mul_left _ g1
        _ = C.K * E.K := Nat.mul_comm _ _
    · intro a b ⟨h1, h2⟩ ⟨k1, k2⟩ e
      have g2 := E.lt _ h2
      have j2 := E.lt _ k2
      have e1 : E.code a.2 = E.code b.2 := by
        have := congrArg (· % E.K) e
        simpa [Nat.add_mul_mod_self_left, Nat.mod_eq_of_lt g2, Nat.mod_eq_of_lt j2] using this
      have e2 : C.code a.1 = C.code b.1 := by
        have h0 : 0 < E.K := by omega
        have e' : E.K * C.code a.1 = E.K * C.code b.1 := by have e : E.code a.2 + E.K * C.code a.1 = E.code b.2 + E.K * C.code b.1 := e; omega
        exact Nat.eq_of_mul_eq_mul_left h0 e'
      exact Prod.ext (C.inj _ _ h1 k1 e2) (E.inj _ _ h2 k2 e1)
def bdDiag {X : Sim w fr} (C : Cd X) (hK : C.K ≤ 9000000) (many : Nat) (hm : many ≤ 5) : Bd X X (pagesL many) where
  P := fun a => C.ok a.1 ∧ a.1 = a.2
  ix := fun a h => C.iv _ h.1
  iy := fun a h => by rw [← h.2]; exact C.iv _ h.1
  st := fun a p h hp => ⟨C.os _ _ (pages_mem hm hp).1 (pages_mem hm hp).2 h.1, by simp only [h.2]⟩
  p0 := ⟨C.o0, rfl⟩
  card := fun l nd h => by
    refine Nat.le_trans (card_of (fun a => C.ok a.1 ∧ a.1 = a.2) (fun a => C.code a.1) C.K (fun a h => C.lt _ h.1) ?_ l nd h) hK
    intro a b ⟨h1, h2⟩ ⟨k1, k2⟩ e
    have := C.inj _ _ h1 k1 e
    exact Prod.ext this (by rw [← h2, ← k2]; exact this)
/-! codes -/
def cdB (b : Nat) (f : Int × Int → Nat) : List (Int × Int) → Nat
  | [] => 0
  | x :: l => (f x + 1) + b * cdB b f l
theorem cdB_inj (b : Nat) (f : Int × Int → Nat) (ok : Int × Int → Prop) (hb : ∀ x, ok x → f x < b) (hf : ∀ x y, ok x → ok y → f x = f y → x = y) : ∀ l l' : List (Int × Int), (∀ x ∈ l, ok x) → (∀ x ∈ l', ok x) → cdB b f l = cdB b f l' → l = l'
  | [], [], _, _, _ => rfl
  | [], y :: l', _, _, h => by simp only [cdB] at h; omega
  | x :: l, [], _, _, h => by simp only [cdB] at h; omega
  | x :: l, y :: l', h1, h2, h => by
    have k1 := hb x (h1 x List.mem_cons_self)
    have k2 := hb y (h2 y List.mem_cons_self)
    simp only [cdB] at h
    have e : f x + b * cdB b f l = f y + b * cdB b f l' := by omega
    have e1 : f x = f y := by
      have := congrArg (· % b) e
      simpa [Nat.add_mul_mod_self_left, Nat.mod_eq_of_lt k1, Nat.mod_eq_of_lt k2] using this
    have e2 : cdB b f l = cdB b f l' := Nat.eq_of_mul_eq_mul_left (by omega) (show b * cdB b f l = b * cdB b f l' by omega)
    rw [hf x y (h1 x List.mem_cons_self) (h2 y List.mem_cons_self) e1, cdB_inj b f ok hb hf l l' (fun z hz => h1 z (List.mem_cons_of_mem _ hz)) (fun z hz => h2 z (List.mem_cons_of_mem _ hz)) e2]
def cap (b : Nat) : Nat → Nat
  | 0 => 0
  | n + 1 => b + b * cap b n
theorem cdB_le (b : Nat) (f : Int × Int → Nat) (ok : Int × Int → Prop) (hb : ∀ x, ok x → f x < b) : ∀ (n : Nat) (l : List (Int × Int)), l.length ≤ n → (∀ x ∈ l, ok x) → cdB b f l ≤ cap b n
  | n, [], _, _ => Nat.zero_le _
  | 0, x :: l, h, _ => by simp at h
  | n + 1, x :: l, h, hk => by
    have h1 := hb x (hk x List.mem_cons_self)
    have h2 := cdB_le b f ok hb n l (by simpa using h) (fun z hz => hk z (List.mem_cons_of_mem _ hz))
    have h3 := Nat.mul_le_mul_left b h2
    simp only [cdB, cap]
    omega
end K50

namespace K50
open PySem L2 RI
/-! the rules' codes -/
theorem stepA_mem (b : Bool) (fr : Nat) (row : List Int) (p q : Int) (h : q ∈ (stepA b fr row p).1) : q ∈ row ∨ q = p := by
  unfold stepA at h
  split at h
  · cases b with
    | false => exact .inl h
    | true =>
      simp only [if_true, List.mem_append, List.mem_singleton] at h
      rcases h with h | h
      · exact .inl ((List.mem_filter.mp h).1)
      · exact .inr h
  · simp only [List.mem_append, List.mem_singleton] at h
    rcases h with h | h
    · split at h
      · exact .inl (List.mem_of_mem_drop h)
      · exact .inl h
    · exact .inr h
theorem rot_mem : ∀ (n : Nat) (l : List (Int × Int)) (x : Int × Int), x ∈ rot n l → x ∈ l ∨ (x.2 = 0 ∧ x.1 ∈ l.map (·.1))
  | 0, _, x, h => .inl h
  | _ + 1, [], x, h => .inl h
  | n + 1, z :: t, x, h => by
    simp only [rot] at h
    split at h
    · rcases rot_mem n _ x h with h | ⟨h1, h2⟩
      · simp only [List.mem_append, List.mem_singleton] at h
        rcases h with h | h
        · exact .inl (List.mem_cons_of_mem _ h)
        · subst h
          exact .inr ⟨rfl, by simp⟩
      · refine .inr ⟨h1, ?_⟩
        simp only [List.map_append, List.map_cons, List.map_nil, List.mem_append, List.mem_cons, List.not_mem_nil, or_false] at h2 ⊢
        rcases h2 with h2 | h2
        · exact .inr h2
        · exact .inl h2
    · exact .inl h
def okP (x : Int × Int) : Prop := 0 ≤ x.1 ∧ x.1 ≤ 4 ∧ (x.2 = 0 ∨ x.2 = 1)
theorem step2_ok (fr : Nat) (row : List (Int × Int)) (p : Int) (h0 : 0 ≤ p) (h4 : p ≤ 4) (h : ∀ x ∈ row, okP x) : ∀ x ∈ (step2 fr row p).1, okP x := by
  intro x hx
  unfold step2 at hx
  split at hx
  · simp only [mk1, List.mem_map] at hx
    obtain ⟨y, hy, rfl⟩ := hx
    split
    · exact ⟨h0, h4, .inr rfl⟩
    · exact h y hy
  · simp only [List.mem_append, List.mem_singleton] at hx
    rcases hx with hx | rfl
    · split at hx
      · rcases rot_mem fr row x (List.mem_of_mem_drop hx) with hx | ⟨e1, e2⟩
        · exact h x hx
        · obtain ⟨y, hy, e⟩ := List.mem_map.mp e2
          have := h y hy
          exact ⟨by rw [← e]; exact this.1, by rw [← e]; exact this.2.1, .inl e1⟩
      · exact h x hx
    · exact ⟨h0, h4, .inl rfl⟩
def toPr (l : List Int) : List (Int × Int) := l.map fun x => (x, 0)
theorem toPr_inj : ∀ l l' : List Int, toPr l = toPr l' → l = l'
  | [], [], _ => rfl
  | [], _ :: _, h => by simp [toPr] at h
  | _ :: _, [], h => by simp [toPr] at h
  | x :: l, y :: l', h => by
    simp only [toPr, List.map_cons, List.cons.injEq, Prod.mk.injEq, and_true] at h
    rw [h.1, toPr_inj l l' h.2]
def okA (fr : Nat) (l : List Int) : Prop := l.length ≤ fr ∧ ∀ x ∈ l, 0 ≤ x ∧ x ≤ 4
def codeA (l : List Int) : Nat := cdB 5 (fun x => x.1.toNat) (toPr l)
theorem codeA_lt (fr : Nat) (h4 : fr ≤ 4) (l : List Int) (h : okA fr l) : codeA l < 781 := by
  have h2 := cdB_le 5 (fun x => x.1.toNat) (fun x => 0 ≤ x.1 ∧ x.1 ≤ 4) (fun x hx => by show x.1.toNat < 5; omega) 4 (toPr l) (by
    have := h.1
    simp only [toPr, List.length_map]; omega) (fun x hx => by
    simp only [toPr, List.mem_map] at hx
    obtain ⟨y, hy, rfl⟩ := hx
    exact h.2 y hy)
  have h3 : cap 5 4 = 780 := by decide
  unfold codeA
  omega
theorem codeA_inj (fr : Nat) (l l' : List Int) (h : okA fr l) (h' : okA fr l') (e : codeA l = codeA l') : l = l' := by
  refine toPr_inj l l' (cdB_inj 5 (fun x => x.1.toNat) (fun x => (0 ≤ x.1 ∧ x.1 ≤ 4) ∧ x.2 = 0) (fun x hx => by show x.1.toNat < 5; omega) (fun x y hx hy e => ?_) (toPr l) (toPr l') ?_ ?_ e)
  · obtain ⟨a, b⟩ := x
    obtain ⟨c, d⟩ := y
    simp only at hx hy e
    obtain ⟨hx, rfl⟩ := hx
    obtain ⟨hy, rfl⟩ := hy
    rw [show a = c by omega]
  · intro x hx
    simp only [toPr, List.mem_map] at hx
    obtain ⟨y, hy, rfl⟩ := hx
    exact ⟨h.2 y hy, rfl⟩
  · intro x hx
    simp only [toPr, List.mem_map] at hx
    obtain ⟨y, hy, rfl⟩ := hx
    exact ⟨h'.2 y hy, rfl⟩
theorem okA_step (b : Bool) (fr : Nat) (h1 : 1 ≤ fr) (l : List Int) (p : Int) (p0 : 0 ≤ p) (p4 : p ≤ 4) (h : okA fr l) : okA fr (stepA b fr l p).1 := ⟨stepA_len b fr h1 l p h.1, fun x hx => by
    rcases stepA_mem b fr l p x hx with hx | rfl
    · exact h.2 x hx
    · exact ⟨p0, p4⟩⟩
def cdA (b : Bool) (fr : Nat) (h1 : 1 ≤ fr) (h4 : fr ≤ 4) : Cd (simA b fr h1 h4) where
  ok := okA fr
  code := codeA
  K := 781
  lt := codeA_lt fr h4
  inj := codeA_inj fr
  iv := fun l h => h.1
  o0 := ⟨Nat.zero_le _, fun x hx => by cases hx⟩
  os := okA_step b fr h1
def okS (fr : Nat) (l : List (Int × Int)) : Prop := (l.length ≤ fr ∧ (l.map (·.1)).Nodup) ∧ ∀ x ∈ l, okP x
def codeS (l : List (Int × Int)) : Nat := cdB 10 (fun x => (2 * x.1 + x.2).toNat) l
theorem codeS_lt (fr : Nat) (h4 : fr ≤ 4) (l : List (Int × Int)) (h : okS fr l) : codeS l < 11111 := by
  have h2 := cdB_le 10 (fun x => (2 * x.1 + x.2).toNat) okP (fun x hx => by
    obtain ⟨g1, g2, g3⟩ := hx
    show (2 * x.1 + x.2).toNat < 10
    omega) 4 l (Nat.le_trans h.1.1 h4) h.2
  have h3 : cap 10 4 = 11110 := by decide
  unfold codeS
  omega
theorem codeS_inj (fr : Nat) (l l' : List (Int × Int)) (h : okS fr l) (h' : okS fr l') (e : codeS l = codeS l') : l = l' := cdB_inj 10 (fun x => (2 * x.1 + x.2).toNat) okP (fun x hx => by
      obtain ⟨g1, g2, g3⟩ := hx
      show (2 * x.1 + x.2).toNat < 10
      omega) (fun x y hx hy e => by
      obtain ⟨a, b⟩ := x
      obtain ⟨c, d⟩ := y
      obtain ⟨g1, g2, g3⟩ := hx
      obtain ⟨k1, k2, k3⟩ := hy
      simp only at g1 g2 g3 k1 k2 k3 e
      rw [show a = c by omega, show b = d by omega]) l l' h.2 h'.2 e
def cdS (fr : Nat) (h1 : 1 ≤ fr) (h4 : fr ≤ 4) : Cd (simS fr h1 h4) where
  ok := okS fr
  code := codeS
  K := 11111
  lt := codeS_lt fr h4
  inj := codeS_inj fr
  iv := fun l h => h.1
  o0 := ⟨⟨Nat.zero_le _, List.nodup_nil⟩, fun x hx => by cases hx⟩
  os := fun l p p0 p4 h => ⟨step2_inv fr h1 l p h.1, step2_ok fr l p p0 p4 h.2⟩
/-! the pages of a store -/
structure Pg {w : List Nat} {fr : Nat} (X : Sim w fr) where
  pg : X.S → List Int
  g0 : pg X.init = []
  flt : ∀ s p, (X.step s p).2 = decide (p ∉ pg s)
  len : ∀ s, X.inv s → (pg s).length ≤ fr
  there : ∀ s p q, p ∈ pg s → (q ∈ pg (X.step s p).1 ↔ q ∈ pg s)
  more : ∀ s p q, p ∉ pg s → (pg s).length < fr → (q ∈ pg (X.step s p).1 ↔ q ∈ pg s ∨ q = p)
  nd : ∀ s, (pg s).Nodup → X.inv s → ∀ p, (pg (X.step s p).1).Nodup
  one : fr = 1 → ∀ s p, X.inv s → pg (X.step s p).1 = [p]
end K50

namespace K50
open PySem L2 RI
theorem drop1_one {A : Type} (l : List A) (h : l.length = 1) : l.drop 1 = [] := by
  cases l with
  | nil => rfl
  | cons x t => simp at h; subst h; rfl
theorem flt_ne (p : Int) (l : List Int) : p ∉ l.filter (fun x => decide (x ≠ p)) := by
  intro h
  have := (List.mem_filter.mp h).2
  simp at this
theorem snoc_nd {l : List Int} {p : Int} (h : l.Nodup) (hp : p ∉ l) : (l ++ [p]).Nodup := by
  rw [List.nodup_append]
  refine ⟨h, by simp, ?_⟩
  intro a ha b hb e
  simp only [List.mem_singleton] at hb
  subst hb; subst e; exact hp ha
theorem stepA_flt (b : Bool) (fr : Nat) (l : List Int) (p : Int) : (stepA b fr l p).2 = decide (p ∉ l) := by
  unfold stepA
  by_cases h : p ∈ l <;> simp [h]
theorem stepA_there (b : Bool) (fr : Nat) (l : List Int) (p q : Int) (h : p ∈ l) : q ∈ (stepA b fr l p).1 ↔ q ∈ l := by
  unfold stepA
  rw [if_pos h]
  cases b with
  | false => rfl
  | true =>
    simp only [if_true, List.mem_append, List.mem_filter, List.mem_singleton, decide_eq_true_eq]
    constructor
    · rintro (⟨h1, _⟩ | rfl)
      · exact h1
      · exact h
    · intro h1
      by_cases e : q = p
      · exact .inr e
      · exact .inl ⟨h1, e⟩
theorem stepA_more (b : Bool) (fr : Nat) (l : List Int) (p q : Int) (h : p ∉ l) (hl : l.length < fr) : q ∈ (stepA b fr l p).1 ↔ q ∈ l ∨ q = p := by
  unfold stepA
  rw [if_neg h, if_neg (by omega)]
  simp
theorem stepA_nd (b : Bool) (fr : Nat) (l : List Int) (p : Int) (h : l.Nodup) : (stepA b fr l p).1.Nodup := by
  unfold stepA
  by_cases hp : p ∈ l
  · rw [if_pos hp]
    cases b with
    | false => exact h
    | true => exact snoc_nd (h.sublist List.filter_sublist) (flt_ne p l)
  · rw [if_neg hp]
    by_cases hl : l.length = fr
    · rw [if_pos hl]
      exact snoc_nd (h.sublist (List.drop_sublist _ _)) fun z => hp (List.mem_of_mem_drop z)
    · rw [if_neg hl]
      exact snoc_nd h hp
theorem stepA_one (b : Bool) (l : List Int) (p : Int) (h : l.length ≤ 1) : (stepA b 1 l p).1 = [p] := by
  unfold stepA
  match l, h with
  | [], _ => simp
  | [x], _ =>
    by_cases e : p = x
    · subst e
      cases b <;> simp
    · simp [e]
  | _ :: _ :: _, h => simp at h
def pgA (b : Bool) (fr : Nat) (h1 : 1 ≤ fr) (h4 : fr ≤ 4) : Pg (simA b fr h1 h4) where
  pg := fun l => l
  g0 := rfl
  flt := stepA_flt b fr
  len := fun s h => h
  there := stepA_there b fr
  more := stepA_more b fr
  nd := fun s h _ p => stepA_nd b fr s p h
  one := fun e s p h => by subst e; exact stepA_one b s p h
theorem step2_flt (fr : Nat) (l : List (Int × Int)) (p : Int) : (step2 fr l p).2 = decide (p ∉ l.map (·.1)) := by
  unfold step2
  cases h : has p l with
  | true => have := (has_iff p l).mp h; simp at this; simp [this]
  | false =>
    have : p ∉ l.map (·.1) := fun m => by rw [(has_iff p l).mpr m] at h; cases h
    simp at this; simp [this]
theorem step2_there (fr : Nat) (l : List (Int × Int)) (p q : Int) (h : p ∈ l.map (·.1)) : q ∈ (step2 fr l p).1.map (·.1) ↔ q ∈ l.map (·.1) := by
  unfold step2
  rw [(has_iff p l).mpr h]
  simp only [if_true, mk1_fst]
theorem has_not {p : Int} {l : List (Int × Int)} (h : p ∉ l.map (·.1)) : has p l = false := by
  cases e : has p l with
  | false => rfl
  | true => exact absurd ((has_iff p l).mp e) h
theorem step2_more (fr : Nat) (l : List (Int × Int)) (p q : Int) (h : p ∉ l.map (·.1)) (hl : (l.map (·.1)).length < fr) : q ∈ (step2 fr l p).1.map (·.1) ↔ q ∈ l.map (·.1) ∨ q = p := by
  rw [List.length_map] at hl
  unfold step2
  rw [has_not h, if_neg (by simp), if_neg (by omega), List.map_append, List.mem_append]
  simp
theorem rot1 (l : List (Int × Int)) (h : l.length = 1) : (rot 1 l).drop 1 = [] := drop1_one _ (by rw [rot_len]; exact h)
theorem step2_one (l : List (Int × Int)) (p : Int) (h : l.length ≤ 1) : (step2 1 l p).1.map (·.1) = [p] := by
  by_cases hp : p ∈ l.map (·.1)
  · unfold step2
    rw [(has_iff p l).mpr hp]
    simp only [if_true, mk1_fst]
    match l, h, hp with
    | [x], _, hp => simp at hp; simp [hp]
    | _ :: _ :: _, h, _ => simp at h
  · unfold step2
    rw [has_not hp, if_neg (by simp)]
    by_cases hl : l.length = 1
    · rw [if_pos hl, rot1 l hl]; rfl
    · rw [if_neg hl]
      match l, h, hl with
      | [], _, _ => rfl
      | [x], _, hl => simp at hl
      | _ :: _ :: _, h, _ => simp at h
def pgS (fr : Nat) (h1 : 1 ≤ fr) (h4 : fr ≤ 4) : Pg (simS fr h1 h4) where
  pg := fun l => List.map (fun x : Int × Int => x.1) l
  g0 := rfl
  flt := step2_flt fr
  len := fun s h => Nat.le_trans (Nat.le_of_eq (List.length_map (as := (s : List (Int × Int))) (f := fun x : Int × Int => x.1))) h.1
  there := step2_there fr
  more := step2_more fr
  nd := fun s _ h p => (step2_inv fr h1 s p h).2
  one := fun e s p h => by subst e; exact step2_one s p h.1
section
variable {w v : List Nat} {fr : Nat} {X : Sim w fr} {Y : Sim v fr}
/-- frames for all pages: never unlike -/
theorem none_many (A : Pg X) (B : Pg Y) (many : Nat) (hm : many ≤ fr) (N : Nat) (res : Option (List Int)) (h : bfs X Y (pagesL many) N [(X.init, Y.init)] [((X.init, Y.init), [])] = some res) : res = none := by
  have room : ∀ (l : List Int) (p : Int), l.Nodup → (∀ q ∈ l, q ∈ pagesL many) → p ∈ pagesL many → p ∉ l → l.length < fr := by
    intro l p nd hs hp hn
    have := (show (p :: l).Nodup from List.nodup_cons.mpr ⟨hn, nd⟩).length_le_of_subset (l₂ := pagesL many) (fun x hx => by
      rcases List.mem_cons.mp hx with rfl | hx
      · exact hp
      · exact hs x hx)
    rw [pages_len] at this
    simp at this
    omega
  refine bfs_none X Y (pagesL many) (fun a => (X.inv a.1 ∧ Y.inv a.2) ∧ (∀ q, q ∈ A.pg a.1 ↔ q ∈ B.pg a.2) ∧ (A.pg a.1).Nodup ∧ (B.pg a.2).Nodup ∧ ∀ q ∈ A.pg a.1, q ∈ pagesL many) ⟨⟨X.i0, Y.i0⟩, fun q => by simp only [A.g0, B.g0], by simp only [A.g0]; exact List.nodup_nil, by simp only [B.g0]; exact List.nodup_nil, fun q hq => by simp only [A.g0] at hq; cases hq⟩ ?_ ?_ N res h
  · intro a p hp ⟨⟨i1, i2⟩, e, n1, n2, s⟩
    have both : ∀ q, (q ∈ A.pg (X.step a.1 p).1 ↔ q ∈ A.pg a.1 ∨ q = p) ∧ (q ∈ B.pg (Y.step a.2 p).1 ↔ q ∈ B.pg a.2 ∨ q = p) := by
      intro q
      by_cases h1 : p ∈ A.pg a.1
      · rw [A.there _ _ q h1, B.there _ _ q ((e p).mp h1)]
        refine ⟨⟨.inl, ?_⟩, ⟨.inl, ?_⟩⟩
        · rintro (h | rfl)
          · exact h
          · exact h1
        · rintro (h | rfl)
          · exact h
          · exact (e _).mp h1
      · have h2 : p ∉ B.pg a.2 := fun z => h1 ((e p).mpr z)
        rw [A.more _ _ q h1 (room _ p n1 s hp h1), B.more _ _ q h2 (room _ p n2 (fun q hq => s q ((e q).mpr hq)) hp h2)]
        exact ⟨Iff.rfl, Iff.rfl⟩
    refine ⟨⟨X.is _ p i1, Y.is _ p i2⟩, fun q => ?_, A.nd _ n1 i1 p, B.nd _ n2 i2 p, fun q hq => ?_⟩
    · rw [(both q).1, (both q).2, e q]
    · rcases (both q).1.mp hq with h | rfl
      · exact s q h
      · exact hp
  · intro a p hp ⟨_, e, _⟩
    rw [A.flt, B.flt]
    simp only [e p]
theorem none_one (A : Pg X) (B : Pg Y) (hf : fr = 1) (ps : List Int) (N : Nat) (res : Option (List Int)) (h : bfs X Y ps N [(X.init, Y.init)] [((X.init, Y.init), [])] = some res) : res = none := by
  refine bfs_none X Y ps (fun a => (X.inv a.1 ∧ Y.inv a.2) ∧ A.pg a.1 = B.pg a.2) ⟨⟨X.i0, Y.i0⟩, by simp only [A.g0, B.g0]⟩ ?_ ?_ N res h
  · intro a p hp ⟨⟨i1, i2⟩, e⟩
    exact ⟨⟨X.is _ p i1, Y.is _ p i2⟩, by simp only [A.one hf _ p i1, B.one hf _ p i2]⟩
  · intro a p hp ⟨_, e⟩
    rw [A.flt, B.flt]
    simp only [e]
theorem none_same (ps : List Int) (N : Nat) (res : Option (List Int)) (h : bfs X X ps N [(X.init, X.init)] [((X.init, X.init), [])] = some res) : res = none := by
  refine bfs_none X X ps (fun a => a.1 = a.2) rfl ?_ ?_ N res h
  · intro a p _ e
    have e : a.1 = a.2 := e
    show (X.step a.1 p).1 = (X.step a.2 p).1
    rw [e]
  · intro a p _ e
    have e : a.1 = a.2 := e
    rw [e]
end
end K50

namespace K50
open PySem L2 RI
inductive Rl where
  | F | L | S
  deriving DecidableEq
def wR : Rl → List Nat
  | .F => wFirst
  | .L => wLately
  | .S => wSecond
theorem wR_rule (r : Rl) : IsRule (wR r) := by
  cases r
  · exact .inl rfl
  · exact .inr (.inl rfl)
  · exact .inr (.inr rfl)
theorem wR_inj (r s : Rl) : wR r = wR s ↔ r = s := by
  cases r <;> cases s <;> decide
def simR (r : Rl) (fr : Nat) (h1 : 1 ≤ fr) (h4 : fr ≤ 4) : Sim (wR r) fr := match r with
  | .F => simA false fr h1 h4
  | .L => simA true fr h1 h4
  | .S => simS fr h1 h4
def pgR (r : Rl) (fr : Nat) (h1 : 1 ≤ fr) (h4 : fr ≤ 4) : Pg (simR r fr h1 h4) := match r with
  | .F => pgA false fr h1 h4
  | .L => pgA true fr h1 h4
  | .S => pgS fr h1 h4
def bdR (r s : Rl) (fr : Nat) (h1 : 1 ≤ fr) (h4 : fr ≤ 4) (many : Nat) (hm : many ≤ 5) : Bd (simR r fr h1 h4) (simR s fr h1 h4) (pagesL many) := match r, s with
  | .F, .F => bdDiag (cdA false fr h1 h4) (by show 781 ≤ 9000000; decide) many hm
  | .L, .L => bdDiag (cdA true fr h1 h4) (by show 781 ≤ 9000000; decide) many hm
  | .S, .S => bdDiag (cdS fr h1 h4) (by show 11111 ≤ 9000000; decide) many hm
  | .F, .L => bdOf (cdA false fr h1 h4) (cdA true fr h1 h4) (by show 781 * 781 ≤ 9000000; decide) many hm
  | .L, .F => bdOf (cdA true fr h1 h4) (cdA false fr h1 h4) (by show 781 * 781 ≤ 9000000; decide) many hm
  | .F, .S => bdOf (cdA false fr h1 h4) (cdS fr h1 h4) (by show 781 * 11111 ≤ 9000000; decide) many hm
  | .S, .F => bdOf (cdS fr h1 h4) (cdA false fr h1 h4) (by show 11111 * 781 ≤ 9000000; decide) many hm
  | .L, .S => bdOf (cdA true fr h1 h4) (cdS fr h1 h4) (by show 781 * 11111 ≤ 9000000; decide) many hm
  | .S, .L => bdOf (cdS fr h1 h4) (cdA true fr h1 h4) (by show 11111 * 781 ≤ 9000000; decide) many hm
def bf (r s : Rl) (fr : Nat) (h1 : 1 ≤ fr) (h4 : fr ≤ 4) (many : Nat) : Option (Option (List Int)) := bfs (simR r fr h1 h4) (simR s fr h1 h4) (pagesL many) 10000000 [((simR r fr h1 h4).init, (simR s fr h1 h4).init)] [(((simR r fr h1 h4).init, (simR s fr h1 h4).init), [])]
theorem bf_ends (r s : Rl) (fr : Nat) (h1 : 1 ≤ fr) (h4 : fr ≤ 4) (many : Nat) (hm : many ≤ 5) : ∃ res, bf r s fr h1 h4 many = some res :=
  bfs_ends (bdR r s fr h1 h4 many hm) 10000000 0 _ _ (by simp) (by intro a ha; simp at ha; subst ha; exact (bdR r s fr h1 h4 many hm).p0) (by intro q hq; simp at hq; subst hq; exact ⟨(bdR r s fr h1 h4 many hm).p0, rfl⟩) (by simp)
theorem bf_swap (r s : Rl) (fr : Nat) (h1 : 1 ≤ fr) (h4 : fr ≤ 4) (many : Nat) : bf s r fr h1 h4 many = bf r s fr h1 h4 many := bfs_swap0 _ _ _ _
theorem bf_none (r s : Rl) (fr : Nat) (h1 : 1 ≤ fr) (h4 : fr ≤ 4) (many : Nat) (hc : r = s ∨ fr = 1 ∨ many ≤ fr) (res : Option (List Int)) (h : bf r s fr h1 h4 many = some res) : res = none := by
  rcases hc with rfl | hc | hc
  · exact none_same _ _ _ h
  · exact none_one (pgR r fr h1 h4) (pgR s fr h1 h4) hc _ _ _ h
  · exact none_many (pgR r fr h1 h4) (pgR s fr h1 h4) many hc _ _ h
def pt (r s : Rl) (fr : Nat) : List Int := match r, s with
  | .F, .L => [0, 1, 0] ++ (List.range' 2 (fr - 1)).map fun i : Nat => (i : Int)
  | .L, .F => [0, 1, 0] ++ (List.range' 2 (fr - 1)).map fun i : Nat => (i : Int)
  | _, _ => [0] ++ (List.range' 0 (fr + 1)).map fun i : Nat => (i : Int)
theorem parts2 (r s : Rl) (hn : r ≠ s) : ((simR r 2 (by decide) (by decide)).step (stN (simR r 2 (by decide) (by decide)) (pt r s 2) (simR r 2 (by decide) (by decide)).init) 0).2 ≠ ((simR s 2 (by decide) (by decide)).step (stN (simR s 2 (by decide) (by decide)) (pt r s 2) (simR s 2 (by decide) (by decide)).init) 0).2 := by
  cases r <;> cases s <;> first | exact absurd rfl hn | decide +kernel
theorem parts3 (r s : Rl) (hn : r ≠ s) : ((simR r 3 (by decide) (by decide)).step (stN (simR r 3 (by decide) (by decide)) (pt r s 3) (simR r 3 (by decide) (by decide)).init) 0).2 ≠ ((simR s 3 (by decide) (by decide)).step (stN (simR s 3 (by decide) (by decide)) (pt r s 3) (simR s 3 (by decide) (by decide)).init) 0).2 := by
  cases r <;> cases s <;> first | exact absurd rfl hn | decide +kernel
theorem parts4 (r s : Rl) (hn : r ≠ s) : ((simR r 4 (by decide) (by decide)).step (stN (simR r 4 (by decide) (by decide)) (pt r s 4) (simR r 4 (by decide) (by decide)).init) 0).2 ≠ ((simR s 4 (by decide) (by decide)).step (stN (simR s 4 (by decide) (by decide)) (pt r s 4) (simR s 4 (by decide) (by decide)).init) 0).2 := by
  cases r <;> cases s <;> first | exact absurd rfl hn | decide +kernel
theorem parts (r s : Rl) (fr : Nat) (h1 : 1 ≤ fr) (h4 : fr ≤ 4) (h2 : 2 ≤ fr) (hn : r ≠ s) : ((simR r fr h1 h4).step (stN (simR r fr h1 h4) (pt r s fr) (simR r fr h1 h4).init) 0).2 ≠ ((simR s fr h1 h4).step (stN (simR s fr h1 h4) (pt r s fr) (simR s fr h1 h4).init) 0).2 := by
  have : fr = 2 ∨ fr = 3 ∨ fr = 4 := by omega
  rcases this with rfl | rfl | rfl
  · exact parts2 r s hn
  · exact parts3 r s hn
  · exact parts4 r s hn
theorem pt_pages (r s : Rl) (fr many : Nat) (h2 : 2 ≤ fr) (hm : fr < many) : ∀ u ∈ pt r s fr, u ∈ pagesL many := by
  intro u hu
  have key : ∃ i : Nat, i ≤ fr ∧ u = (i : Int) := by
    have k1 : ∀ a n : Nat, a + n ≤ fr + 1 → u ∈ (List.range' a n).map (fun i : Nat => (i : Int)) → ∃ i : Nat, i ≤ fr ∧ u = (i : Int) := by
      intro a n h h'
      simp only [List.mem_map, List.mem_range'_1] at h'
      obtain ⟨i, ⟨_, h3⟩, rfl⟩ := h'
      exact ⟨i, by omega, rfl⟩
    have k2 : u ∈ ([0, 1, 0] : List Int) ++ (List.range' 2 (fr - 1)).map (fun i : Nat => (i : Int)) → ∃ i : Nat, i ≤ fr ∧ u = (i : Int) := by
      intro h
      rcases List.mem_append.mp h with h | h
      · simp at h
        rcases h with rfl | rfl | rfl
        · exact ⟨0, by omega, rfl⟩
        · exact ⟨1, by omega, rfl⟩
        · exact ⟨0, by omega, rfl⟩
      · exact k1 2 (fr - 1) (by omega) h
    have k3 : u ∈ ([0] : List Int) ++ (List.range' 0 (fr + 1)).map (fun i : Nat => (i : Int)) → ∃ i : Nat, i ≤ fr ∧ u = (i : Int) := by
      intro h
      rcases List.mem_append.mp h with h | h
      · simp at h
        subst h; exact ⟨0, by omega, rfl⟩
      · exact k1 0 (fr + 1) (by omega) h
    cases r <;> cases s <;> first | exact k2 hu | exact k3 hu
  obtain ⟨i, hi, rfl⟩ := key
  simp only [pagesL, List.mem_map, List.mem_range]
  exact ⟨i, by omega, rfl⟩
theorem bf_len (r s : Rl) (fr : Nat) (h1 : 1 ≤ fr) (h4 : fr ≤ 4) (many : Nat) (hm5 : many ≤ 5) (x : List Int) (h : bf r s fr h1 h4 many = some (some x)) : x.length ≤ 200 ∧ (∀ u ∈ x, 0 ≤ u ∧ u ≤ 4) ∧ cnt (simR r fr h1 h4) x (simR r fr h1 h4).init ≠ cnt (simR s fr h1 h4) x (simR s fr h1 h4).init := by
  have hp := bfs_tr _ _ _ _ _ _ x (tr0 _ _ _) h
  refine ⟨?_, fun u hu => pages_mem hm5 (hp.pg u hu), hp.ne⟩
  by_cases hc : r = s ∨ fr = 1 ∨ many ≤ fr
  · cases bf_none r s fr h1 h4 many hc _ h
  · simp only [not_or] at hc
    obtain ⟨hc1, hc2, hc3⟩ := hc
    obtain ⟨y, e, hy⟩ := bfs_short _ _ (pagesL many) (pt r s fr) 0 (pt_pages r s fr many (by omega) (by omega)) (List.mem_map.mpr ⟨0, List.mem_range.mpr (by omega), rfl⟩) (parts r s fr h1 h4 (by omega) hc1) _ 0 _ _ _ (Nat.zero_le _) (fun b hb => .inl ⟨_, List.mem_cons_self, by simp at hb; exact hb.symm⟩) (fun q hq => by simp at hq; subst hq; rfl) (by simp) (fun us hl _ => by
      cases us with
      | nil => simp [stN]
      | cons _ _ => simp at hl) h
    cases e
    have : (pt r s fr).length ≤ 10 := by
      cases r <;> cases s <;> simp [pt] <;> omega
    omega
end K50

namespace K50
open PySem L2 RI
theorem ix_ruleR (k : Int) (h0 : 0 ≤ k) (h3 : k < 3) : ∃ r, ∀ M, ixD (.lst [.str [102, 105, 114, 115, 116], .str [108, 97, 116, 101, 108, 121], .str [115, 101, 99, 111, 110, 100]]) (.int k) M = .ok (.str (wR r)) M := by
  have : k = 0 ∨ k = 1 ∨ k = 2 := by omega
  rcases this with rfl | rfl | rfl
  · exact ⟨.F, fun M => ix_get rfl (at_0 _ _)⟩
  · exact ⟨.L, fun M => ix_get rfl (at_1 _ _ _)⟩
  · exact ⟨.S, fun M => ix_get rfl (at_2 _ _ _ _)⟩
theorem resD_nice (res : Option (List Int)) : D.noObj (resD res) = true ∧ SeqAt.shaped (D.toP (resD res)) = true := by
  cases res with
  | none => exact ⟨rfl, rfl⟩
  | some r => exact ⟨by simp [resD], nice_int.shT r⟩
theorem run : Run := by
  intro ns hns
  obtain ⟨M0, hm0, e0⟩ := mix 10 ns 50 hns
  obtain ⟨k1, M1, a1, b1, hm1, e1⟩ := next 10 3 (by omega) (by omega) M0 _ hm0
  obtain ⟨r, er⟩ := ix_ruleR k1 a1 b1
  obtain ⟨k2, M2, a2, b2, hm2, e2⟩ := next 10 3 (by omega) (by omega) M1 _ hm1
  obtain ⟨s, es⟩ := ix_ruleR k2 a2 b2
  obtain ⟨k3, M3, a3, b3, hm3, e3⟩ := next 10 4 (by omega) (by omega) M2 _ hm2
  obtain ⟨k4, M4, a4, b4, hm4, e4⟩ := next 10 5 (by omega) (by omega) M3 _ hm3
  obtain ⟨fr, hfr⟩ : ∃ fr : Nat, 1 + k3 = fr := ⟨(1 + k3).toNat, by omega⟩
  obtain ⟨many, hmany⟩ : ∃ many : Nat, 1 + k4 = many := ⟨(1 + k4).toNat, by omega⟩
  have h1 : 1 ≤ fr := by omega
  have h4 : fr ≤ 4 := by omega
  have hm1' : 1 ≤ many := by omega
  have hm5 : many ≤ 5 := by omega
  obtain ⟨res, hres⟩ := bf_ends r s fr h1 h4 many hm5
  have hres' : bf s r fr h1 h4 many = some res := (bf_swap r s fr h1 h4 many).trans hres
  have e5 := parting (wR_rule r) (wR_rule s) h1 h4 many hm1' hm5 (bdR r s fr h1 h4 many hm5) 8 10000000 (Nat.le_refl _) res M4 hres
  have e6 := parting (wR_rule s) (wR_rule r) h1 h4 many hm1' hm5 (bdR s r fr h1 h4 many hm5) 8 10000000 (Nat.le_refl _) res M4 hres'
  have e7 := search many hm5 (bdR r s fr h1 h4 many hm5) 8 10000000 (Nat.le_refl _) res M4 hres
  have q1 := eq_same (resD_nice res).1 (resD_nice res).2 true M4
  have q2 := eq_same (resD_nice res).1 (resD_nice res).2 false M4
  have q3 := eq_word (wR r) (wR s) (wR_rule r) (wR_rule s) M4
  refine ⟨[], ?_⟩
  rw [u_18]
  simp only [Nat.reduceAdd] at e0 e1 e2 e3 e4 e5 e6 e7
  by_cases hc : r = s ∨ fr = 1 ∨ many ≤ fr
  · have := bf_none r s fr h1 h4 many hc res hres
    subst this
    simp only [resD] at e5 e6 e7 q1 q2
    have hc' : decide (wR r = wR s) = true ∨ decide ((fr : Int) = 1) = true ∨ decide ((many : Int) ≤ fr) = true := by
      rcases hc with h | h | h
      · exact .inl (by simp [h])
      · exact .inr (.inl (by simp [h]))
      · exact .inr (.inr (by simp; omega))
    have fin1 : fin false ([] : Mem).length (.bl true) M4 = .ok (.bl true) [] := fin_pure (M := []) rfl rfl
    have isN : ∀ M, isD false .non .non M = .ok (.bl true) M := fun M => rfl
    simp only [List.length_nil] at fin1
    simp [b_18, e0, LIM, e1, er, e2, es, e3, hfr, e4, hmany, e5, e6, q1, q3, isN, fin1]
    rcases hc' with h | h | h
    · simp at h
      simp [h, isN, fin1]
    · simp at h
      by_cases hw : wR r = wR s
      · simp [hw, isN, fin1]
      · simp [hw, h, isN, fin1]
    · simp at h
      by_cases hw : wR r = wR s
      · simp [hw, isN, fin1]
      · by_cases hf : fr = 1
        · simp [hw, hf, isN, fin1]
        · simp [hw, hf, h, isN, fin1]
  · simp only [not_or] at hc
    obtain ⟨c1, c2, c3⟩ := hc
    have c1' : wR r ≠ wR s := fun z => c1 ((wR_inj r s).mp z)
    have c2' : ¬ (fr : Int) = 1 := by omega
    have fin1 : fin false ([] : Mem).length (.bl true) M4 = .ok (.bl true) [] := fin_pure (M := []) rfl rfl
    simp only [List.length_nil] at fin1
    cases res with
    | none =>
      simp only [resD] at e5 e6 e7 q1 q2
      have isN : ∀ M, isD true .non .non M = .ok (.bl false) M := fun M => rfl
      simp [b_18, e0, LIM, e1, er, e2, es, e3, hfr, e4, hmany, e5, e6, e7, q1, q2, q3, c1', c2', c3, isN, fin1]
    | some x =>
      obtain ⟨l1, l2, l3⟩ := bf_len r s fr h1 h4 many hm5 x hres
      have f1 := faults (simR r fr h1 h4) (wR_rule r) h1 h4 7 x l2 l1 M4
      have f2 := faults (simR s fr h1 h4) (wR_rule s) h1 h4 7 x l2 l1 M4
      simp only [Nat.reduceAdd] at f1 f2
      have n1 : lenD [.lst (((simR r fr h1 h4).res x).1.map D.int)] M4 = .ok (.int (cnt (simR r fr h1 h4) x (simR r fr h1 h4).init : Nat)) M4 := by
        rw [len_of rfl, List.length_map, runM_cnt]; simp
      have n2 : lenD [.lst (((simR s fr h1 h4).res x).1.map D.int)] M4 = .ok (.int (cnt (simR s fr h1 h4) x (simR s fr h1 h4).init : Nat)) M4 := by
        rw [len_of rfl, List.length_map, runM_cnt]; simp
      simp only [resD] at e5 e6 e7 q1 q2
      have l3' : ¬ ((cnt (simR r fr h1 h4) x (simR r fr h1 h4).init : Nat) : Int) = (cnt (simR s fr h1 h4) x (simR s fr h1 h4).init : Nat) := by omega
      have isN : ∀ M, isD true (.tup (x.map .int)) .non M = .ok (.bl true) M := fun M => rfl
      simp [b_18, e0, LIM, e1, er, e2, es, e3, hfr, e4, hmany, e5, e6, e7, q1, q2, q3, c1', c2', c3, isN, fin1, f1, f2, n1, n2, l3']
end K50

open PySem PySem.W PyProof.Rows
set_option maxHeartbeats 0 in
theorem PySem.Challenge.cw_stephouse_k50_whole_rules_that_part_holds : PySem.Challenge.rw_stephouse_k50_whole_rules_that_part.Holds := by
  w_on; o_law; k_head; (case hw => w_witness2)
  k_fill
  refine L2.walk_of (l := PySem.Challenge.rw_stephouse_k50_whole_rules_that_part) (n := 63) (k := 12) (x := "_law_script") (CX := fun w => L2.CX PySem.Challenge.rw_stephouse_k50_whole_rules_that_part.prog w) (sp := fun w => RI.spL K50.tb _ PySem.Challenge.rw_stephouse_k50_whole_rules_that_part.prog w ["_law_script"] 12 18) rfl (by decide) rfl ⟨rfl, by decide, by decide⟩ (fun w h Y => PySem.W.kIn_of Y) ?F (fun _ _ a ns hl _ hS => RI.sp_lawL hS (K50.run ns hl)) (fun _ _ _ _ _ h => RI.cx_no h)
  case F =>
    intro w mg fa h KX G hmg
    refine' K50.all_mk KX G hmg ?qqa0 ?qql0 ?qqc0 ?qqk0 ?qqa1 ?qql1 ?qqc1 ?qqk1 ?qqa2 ?qql2 ?qqc2 ?qqk2 ?qqa3 ?qql3 ?qqc3 ?qqk3 ?qqa4 ?qql4 ?qqc4 ?qqk4 ?qqa5 ?qql5 ?qqc5 ?qqk5 ?qqa6 ?qql6 ?qqc6 ?qqk6 ?qqa7 ?qql7 ?qqc7 ?qqk7 ?qqa8 ?qql8 ?qqc8 ?qqk8 ?qqa9 ?qql9 ?qqc9 ?qqk9 ?qqa10 ?qql10 ?qqc10 ?qqk10 ?qqa11 ?qql11 ?qqc11 ?qqk11 ?qqa12 ?qql12 ?qqc12 ?qqk12 ?qqa14 ?qql14 ?qqc14 ?qqk14 ?qqa15 ?qql15 ?qqc15 ?qqk15 ?qqa17 ?qql17 ?qqc17 ?qqk17 ?qqa18 ?qql18 ?qqc18 ?qqk18 ?qqg0 ?qqg1 ?qqg2 ?qqgl2 ?qqg3 ?qqg4 ?qqg5 ?qqz0 ?qqz1 ?qqz2 ?qqz3 ?qqz4 ?qqz5 ?qqz6 ?qqz7 ?qqz8 ?qqz9 ?qqz10 ?qqz11 ?qqz12 ?qqz13
    (case qqa0 => k_is)
    (case qql0 => k_is)
    (case qqc0 => k_is)
    (case qqk0 => k_is)
    (case qqa1 => k_is)
    (case qql1 => k_is)
    (case qqc1 => k_is)
    (case qqk1 => k_is)
    (case qqa2 => k_is)
    (case qql2 => k_is)
    (case qqc2 => k_is)
    (case qqk2 => k_is)
    (case qqa3 => k_is)
    (case qql3 => k_is)
    (case qqc3 => k_is)
    (case qqk3 => k_is)
    (case qqa4 => k_is)
    (case qql4 => k_is)
    (case qqc4 => k_is)
    (case qqk4 => k_is)
    (case qqa5 => k_is)
    (case qql5 => k_is)
    (case qqc5 => k_is)
    (case qqk5 => k_is)
    (case qqa6 => k_is)
    (case qql6 => k_is)
    (case qqc6 => k_is)
    (case qqk6 => k_is)
    (case qqa7 => k_is)
    (case qql7 => k_is)
    (case qqc7 => k_is)
    (case qqk7 => k_is)
    (case qqa8 => k_is)
    (case qql8 => k_is)
    (case qqc8 => k_is)
    (case qqk8 => k_is)
    (case qqa9 => k_is)
    (case qql9 => k_is)
    (case qqc9 => k_is)
    (case qqk9 => k_is)
    (case qqa10 => k_is)
    (case qql10 => k_is)
    (case qqc10 => k_is)
    (case qqk10 => k_is)
    (case qqa11 => k_is)
    (case qql11 => k_is)
    (case qqc11 => k_is)
    (case qqk11 => k_is)
    (case qqa12 => k_is)
    (case qql12 => k_is)
    (case qqc12 => k_is)
    (case qqk12 => k_is)
    (case qqa14 => k_is)
    (case qql14 => k_is)
    (case qqc14 => k_is)
    (case qqk14 => k_is)
    (case qqa15 => k_is)
    (case qql15 => k_is)
    (case qqc15 => k_is)
    (case qqk15 => k_is)
    (case qqa17 => k_is)
    (case qql17 => k_is)
    (case qqc17 => k_is)
    (case qqk17 => k_is)
    (case qqa18 => k_is)
    (case qql18 => k_is)
    (case qqc18 => k_is)
    (case qqk18 => k_is)
    (case qqg0 => k_is)
    (case qqg1 => k_is)
    (case qqg2 => k_is)
    (case qqgl2 => k_is)
    (case qqg3 => k_is)
    (case qqg4 => k_is)
    (case qqg5 => k_is)
    (case qqz0 => k_is)
    (case qqz1 => k_is)
    (case qqz2 => k_is)
    (case qqz3 => k_is)
    (case qqz4 => k_is)
    (case qqz5 => k_is)
    (case qqz6 => k_is)
    (case qqz7 => k_is)
    (case qqz8 => k_is)
    (case qqz9 => k_is)
    (case qqz10 => k_is)
    (case qqz11 => k_is)
    (case qqz12 => k_is)
    (case qqz13 => k_is)

